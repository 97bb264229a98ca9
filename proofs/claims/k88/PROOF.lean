import PyProof.Rows.All
import Wide.All
import OpenK.AllK
import Wide.FinOn
import HandS.ForMost
import HandS.Defaults
import HandS.Star
import HandS.Style
import HandS.Zip
import HandS.IsInst
import HandS.TupAny
import HandS.TupMul
import HandS.TupLe
import HandS.Walk
import HandS.Small
import HandS.Lambda
import PyProof.Rows.SortShell
import PyProof.Rows.SortRev
import PyProof.Rows.CallKwBuiltin
import PyProof.Rows.CallKw2
import KE.KSortTup
import KE.KSortKey
import HandS.Sort
import HandS.SortOrd
import HandS.SortRule
import HandS.SortInts
import HandS.SortKw
import KE.GoesMore
import KE.GoesEnum
import HandS.Conv
import HandS.RaiseMore
import HandS.Deep
import PyProof.ReprRoads
import KE.SortKeyHeap
import HandS.EndTab
import HandS.HeadHook4
import HandS.HeadEnd
import KE.KStateDown
import HandS.Head0
import HandS.Head1
import HandS.Head2
import HandS.HeadHook1
import HandS.HeadHook2
import PySem.Challenge.RW_leastendwithcuts_k88_whole_flows_put_tog
set_option Elab.async false
set_option linter.all false
set_option maxRecDepth 100000
set_option maxHeartbeats 2000000
/-! EvA: data, slots, what stands for them -/
namespace Ev
open PySem L2
abbrev D := PyData
abbrev Sg := L2.St
/-- a slot's content: nothing, data that never changes from now on, a list or dict that this slot alone holds -/
inductive Slot where
  | un
  | va (d : D)
  | ow (c : D)
abbrev Rho := List Slot
/-- what an expression gives: data; a new list or dict that nobody holds; the list of a slot -/
inductive R where
  | v (d : D)
  | fr (c : D)
  | bo (i : Nat)
@[simp] def keyD : Key → D
  | .inl i => .int i
  | .inr s => .str s
mutual
inductive Rp (H : Hp) (A : Addr → Prop) : V → D → Prop
  | non : Rp H A .non .none
  | bl (b : Bool) : Rp H A (.bl b) (.bool b)
  | int (i : Int) : Rp H A (.int i) (.int i)
  | str (x : Str) : Rp H A (.str x) (.str x)
  | ref {a : Addr} {o : HO} {d : D} : ¬ A a → H a = some o → RpO H A o d → Rp H A (.ref a) d
inductive RpO (H : Hp) (A : Addr → Prop) : HO → D → Prop
  | lst {xs : List V} {ds : List D} : RpL H A xs ds → RpO H A (.lst xs) (.list ds)
  | tup {xs : List V} {ds : List D} : RpL H A xs ds → RpO H A (.tup xs) (.tuple ds)
  | dK {kvs : List (Key × V)} {ds : List (D × D)} : RpK H A kvs ds → RpO H A (.dK kvs) (.dict ds)
  | scr {ob : Obj} {xs : List V} {ds : List D} : RpL H A xs ds → RpO H A (.frz ob (.lst xs)) (.dict [(.none, .tuple ds)])
inductive RpL (H : Hp) (A : Addr → Prop) : List V → List D → Prop
  | nil : RpL H A [] []
  | cons {v : V} {vs : List V} {d : D} {ds : List D} : Rp H A v d → RpL H A vs ds → RpL H A (v :: vs) (d :: ds)
inductive RpK (H : Hp) (A : Addr → Prop) : List (Key × V) → List (D × D) → Prop
  | nil : RpK H A [] []
  | cons {k : Key} {v : V} {kvs : List (Key × V)} {d : D} {ds : List (D × D)} : Rp H A v d → RpK H A kvs ds → RpK H A ((k, v) :: kvs) ((keyD k, d) :: ds)
end
/-- a list or a dict of its own -/
def mutO : HO → Prop
  | .lst _ => True
  | .dK _ => True
  | _ => False
/-- no table of code objects -/
def nt (o : HO) : Prop := ∀ ps, o ≠ .tbl ps
theorem RpO.nt {H : Hp} {A : Addr → Prop} {o : HO} {d : D} (r : RpO H A o d) : nt o := fun ps z => by subst z; cases r
theorem mutO.nt {o : HO} (r : mutO o) : Ev.nt o := fun ps z => by subst z; exact r
def Kp (A : Addr → Prop) (H H' : Hp) : Prop := ∀ a o, H a = some o → ¬ A a → nt o → H' a = some o
/-- the tables of code objects that lambdas are kept in: where, and the name of what they tell -/
class Tbs where
  T : List (Addr × Str)
section
variable {H H' : Hp} {A A' : Addr → Prop}
mutual
theorem Rp.mono (k : Kp A H H') (i : ∀ a o, H a = some o → A' a → A a) : ∀ {v : V} {d : D}, Rp H A v d → Rp H' A' v d
  | _, _, .non => .non
  | _, _, .bl b => .bl b
  | _, _, .int j => .int j
  | _, _, .str x => .str x
  | _, _, .ref n e r => .ref (fun z => n (i _ _ e z)) (k _ _ e n r.nt) (RpO.mono k i r)
theorem RpO.mono (k : Kp A H H') (i : ∀ a o, H a = some o → A' a → A a) : ∀ {o : HO} {d : D}, RpO H A o d → RpO H' A' o d
  | _, _, .lst r => .lst (RpL.mono k i r)
  | _, _, .tup r => .tup (RpL.mono k i r)
  | _, _, .dK r => .dK (RpK.mono k i r)
  | _, _, .scr r => .scr (RpL.mono k i r)
theorem RpL.mono (k : Kp A H H') (i : ∀ a o, H a = some o → A' a → A a) : ∀ {vs : List V} {ds : List D}, RpL H A vs ds → RpL H' A' vs ds
  | _, _, .nil => .nil
  | _, _, .cons r t => .cons (Rp.mono k i r) (RpL.mono k i t)
theorem RpK.mono (k : Kp A H H') (i : ∀ a o, H a = some o → A' a → A a) : ∀ {vs : List (Key × V)} {ds : List (D × D)}, RpK H A vs ds → RpK H' A' vs ds
  | _, _, .nil => .nil
  | _, _, .cons r t => .cons (Rp.mono k i r) (RpK.mono k i t)
end
theorem RpL.length : ∀ {vs : List V} {ds : List D}, RpL H A vs ds → vs.length = ds.length
  | _, _, .nil => rfl
  | _, _, .cons _ t => by rw [List.length_cons, List.length_cons, RpL.length t]
theorem RpL.append : ∀ {vs ws : List V} {ds es : List D}, RpL H A vs ds → RpL H A ws es → RpL H A (vs ++ ws) (ds ++ es)
  | _, _, _, _, .nil, s => s
  | _, _, _, _, .cons r t, s => .cons r (RpL.append t s)
theorem RpL.get : ∀ {vs : List V} {ds : List D} {i : Nat} {d : D}, RpL H A vs ds → ds[i]? = some d → ∃ v, vs[i]? = some v ∧ Rp H A v d
  | _, _, _, _, .nil, e => by simp at e
  | _, _, 0, _, .cons r _, e => by simp at e; subst e; exact ⟨_, rfl, r⟩
  | _, _, i + 1, d, .cons _ t, e => by
    obtain ⟨u, h1, h2⟩ := RpL.get (i := i) (d := d) t (by simpa using e)
    exact ⟨u, by simpa using h1, h2⟩
theorem RpL.get' : ∀ {vs : List V} {ds : List D} {i : Nat} {v : V}, RpL H A vs ds → vs[i]? = some v → ∃ d, ds[i]? = some d ∧ Rp H A v d
  | _, _, _, _, .nil, e => by simp at e
  | _, _, 0, _, .cons r _, e => by simp at e; subst e; exact ⟨_, rfl, r⟩
  | _, _, i + 1, d, .cons _ t, e => by
    obtain ⟨u, h1, h2⟩ := RpL.get' (i := i) (v := d) t (by simpa using e)
    exact ⟨u, by simpa using h1, h2⟩
theorem RpL.set {v : V} {d : D} (r : Rp H A v d) : ∀ {vs : List V} {ds : List D} (i : Nat), RpL H A vs ds → RpL H A (vs.set i v) (ds.set i d)
  | _, _, _, .nil => .nil
  | _, _, 0, .cons _ t => .cons r t
  | _, _, i + 1, .cons q t => .cons q (RpL.set r i t)
theorem RpL.take : ∀ {vs : List V} {ds : List D} (n : Nat), RpL H A vs ds → RpL H A (vs.take n) (ds.take n)
  | _, _, 0, _ => by simp only [List.take_zero]; exact .nil
  | _, _, _ + 1, .nil => .nil
  | _, _, n + 1, .cons r t => .cons r (RpL.take n t)
theorem RpL.drop : ∀ {vs : List V} {ds : List D} (n : Nat), RpL H A vs ds → RpL H A (vs.drop n) (ds.drop n)
  | _, _, 0, r => r
  | _, _, _ + 1, .nil => .nil
  | _, _, n + 1, .cons _ t => RpL.drop n t
theorem RpL.reverse : ∀ {vs : List V} {ds : List D}, RpL H A vs ds → RpL H A vs.reverse ds.reverse
  | _, _, .nil => .nil
  | _, _, .cons r t => by rw [List.reverse_cons, List.reverse_cons]; exact RpL.append (RpL.reverse t) (.cons r .nil)
theorem RpL.dropLast {vs : List V} {ds : List D} (r : RpL H A vs ds) : RpL H A vs.dropLast ds.dropLast := by
  rw [List.dropLast_eq_take, List.dropLast_eq_take, r.length]
  exact r.take _
theorem RpL.eraseIdx {vs : List V} {ds : List D} (r : RpL H A vs ds) (i : Nat) : RpL H A (vs.eraseIdx i) (ds.eraseIdx i) := by
  rw [List.eraseIdx_eq_take_drop_succ, List.eraseIdx_eq_take_drop_succ]
  exact (r.take i).append (r.drop (i + 1))
theorem RpL.replicate {v : V} {d : D} (r : Rp H A v d) : ∀ n, RpL H A (List.replicate n v) (List.replicate n d)
  | 0 => .nil
  | n + 1 => .cons r (RpL.replicate r n)
theorem RpL.flatten {vs : List V} {ds : List D} (r : RpL H A vs ds) : ∀ n, RpL H A (List.replicate n vs).flatten (List.replicate n ds).flatten
  | 0 => .nil
  | n + 1 => by
    rw [List.replicate_succ, List.replicate_succ, List.flatten_cons, List.flatten_cons]
    exact r.append (RpL.flatten r n)
theorem RpL.ints : ∀ (ns : List Int), RpL H A (ns.map V.int) (ns.map PyData.int)
  | [] => .nil
  | n :: ns => .cons (.int n) (RpL.ints ns)
theorem RpL.of_ints : ∀ {vs : List V} {ns : List Int}, RpL H A vs (ns.map PyData.int) → vs = ns.map V.int
  | _, [], h => by cases h; rfl
  | _, n :: ns, h => by
    cases h with
    | cons r t =>
      cases r
      · rw [RpL.of_ints t]; rfl
      · rename_i _ q; cases q
theorem RpL.of_bools : ∀ {vs : List V} {bs : List Bool}, RpL H A vs (bs.map PyData.bool) → vs = bs.map V.bl
  | _, [], h => by cases h; rfl
  | _, n :: ns, h => by
    cases h with
    | cons r t =>
      cases r
      · rw [RpL.of_bools t]; rfl
      · rename_i _ q; cases q
theorem Rp.int_of {v : V} {i : Int} (h : Rp H A v (.int i)) : v = .int i := by
  cases h
  · rfl
  · rename_i q; cases q
theorem Rp.bl_of {v : V} {i : Bool} (h : Rp H A v (.bool i)) : v = .bl i := by
  cases h
  · rfl
  · rename_i q; cases q
theorem Rp.str_of {v : V} {i : Str} (h : Rp H A v (.str i)) : v = .str i := by
  cases h
  · rfl
  · rename_i q; cases q
theorem Rp.non_of {v : V} (h : Rp H A v .none) : v = .non := by
  cases h
  · rfl
  · rename_i q; cases q
theorem Rp.list_of {v : V} {ds : List D} (h : Rp H A v (.list ds)) : ∃ a xs, v = .ref a ∧ H a = some (.lst xs) ∧ ¬ A a ∧ RpL H A xs ds := by
  cases h with
  | ref n e r =>
    cases r with
    | lst r => exact ⟨_, _, rfl, e, n, r⟩
theorem Rp.tup_of {v : V} {ds : List D} (h : Rp H A v (.tuple ds)) : ∃ a xs, v = .ref a ∧ H a = some (.tup xs) ∧ ¬ A a ∧ RpL H A xs ds := by
  cases h with
  | ref n e r =>
    cases r with
    | tup r => exact ⟨_, _, rfl, e, n, r⟩
/-- the script's mark -/
@[simp] def isScr : List (D × D) → Bool
  | (.none, _) :: _ => true
  | _ => false
theorem RpK.noScr : ∀ {kvs : List (Key × V)} {ds : List (D × D)}, RpK H A kvs ds → isScr ds = false
  | _, _, .nil => rfl
  | _, _, .cons (k := k) _ _ => by cases k <;> rfl
theorem Rp.dict_of {v : V} {ds : List (D × D)} (h : Rp H A v (.dict ds)) (hs : isScr ds = false) : ∃ a kvs, v = .ref a ∧ H a = some (.dK kvs) ∧ ¬ A a ∧ RpK H A kvs ds := by
  cases h with
  | ref n e r =>
    cases r with
    | dK r => exact ⟨_, _, rfl, e, n, r⟩
    | scr r => cases hs
theorem Rp.scr_of {v : V} {x : D} (h : Rp H A v (.dict [(.none, x)])) : ∃ a ob xs ds, v = .ref a ∧ H a = some (.frz ob (.lst xs)) ∧ x = .tuple ds ∧ RpL H A xs ds := by
  cases h with
  | ref n e r =>
    cases r with
    | dK r => have q := r.noScr; cases q
    | scr r => exact ⟨_, _, _, _, rfl, e, rfl, r⟩
end
/-- read now, kept by nobody: the thing itself may be a slot's own -/
inductive Rw (H : Hp) (A : Addr → Prop) : V → D → Prop
  | of {v : V} {d : D} : Rp H A v d → Rw H A v d
  | own {a : Addr} {o : HO} {d : D} : H a = some o → mutO o → RpO H A o d → Rw H A (.ref a) d
section
variable {H H' : Hp} {A A' : Addr → Prop}
theorem Rw.int_of {v : V} {i : Int} (h : Rw H A v (.int i)) : v = .int i := by
  cases h with
  | of h => exact h.int_of
  | own _ _ q => cases q
theorem Rw.bl_of {v : V} {i : Bool} (h : Rw H A v (.bool i)) : v = .bl i := by
  cases h with
  | of h => exact h.bl_of
  | own _ _ q => cases q
theorem Rw.str_of {v : V} {i : Str} (h : Rw H A v (.str i)) : v = .str i := by
  cases h with
  | of h => exact h.str_of
  | own _ _ q => cases q
theorem Rw.non_of {v : V} (h : Rw H A v .none) : v = .non := by
  cases h with
  | of h => exact h.non_of
  | own _ _ q => cases q
theorem Rw.list_of {v : V} {ds : List D} (h : Rw H A v (.list ds)) : ∃ a xs, v = .ref a ∧ H a = some (.lst xs) ∧ RpL H A xs ds := by
  cases h with
  | of h => obtain ⟨a, xs, h1, h2, _, h3⟩ := h.list_of; exact ⟨a, xs, h1, h2, h3⟩
  | own e m q =>
    cases q with
    | lst r => exact ⟨_, _, rfl, e, r⟩
theorem Rw.tup_of {v : V} {ds : List D} (h : Rw H A v (.tuple ds)) : ∃ a xs, v = .ref a ∧ H a = some (.tup xs) ∧ ¬ A a ∧ RpL H A xs ds := by
  cases h with
  | of h => exact h.tup_of
  | own e m q => cases q with | tup r => exact m.elim
theorem Rw.tup_is {v : V} {ds : List D} (h : Rw H A v (.tuple ds)) : Rp H A v (.tuple ds) := by
  cases h with
  | of h => exact h
  | own e m q => cases q with | tup r => exact m.elim
theorem Rw.dict_of {v : V} {ds : List (D × D)} (h : Rw H A v (.dict ds)) (hs : isScr ds = false) : ∃ a kvs, v = .ref a ∧ H a = some (.dK kvs) ∧ RpK H A kvs ds := by
  cases h with
  | of h => obtain ⟨a, kvs, h1, h2, _, h3⟩ := h.dict_of hs; exact ⟨a, kvs, h1, h2, h3⟩
  | own e m q =>
    cases q with
    | dK r => exact ⟨_, _, rfl, e, r⟩
    | scr r => exact m.elim
theorem Rw.scr_of {v : V} {x : D} (h : Rw H A v (.dict [(.none, x)])) : ∃ a ob xs ds, v = .ref a ∧ H a = some (.frz ob (.lst xs)) ∧ x = .tuple ds ∧ RpL H A xs ds := by
  cases h with
  | of h => exact h.scr_of
  | own e m q =>
    cases q with
    | dK r => have q := r.noScr; cases q
    | scr r => exact m.elim
end

/-! ### the frame -/
variable [Tbs]
def ownA (σ : Sg) (ρ : Rho) (a : Addr) : Prop := ∃ (i : Nat) (c : D), ρ[i]? = some (Slot.ow c) ∧ σ[i]? = some (some (V.ref a))
def Av (F : Addr → Prop) (σ : Sg) (ρ : Rho) (a : Addr) : Prop := F a ∨ ownA σ ρ a
structure RS (σ : Sg) (H : Hp) (F : Addr → Prop) (ρ : Rho) : Prop where
  len : σ.length = ρ.length
  va : ∀ (i : Nat) (d : D), ρ[i]? = some (.va d) → ∃ v, σ[i]? = some (some v) ∧ Rp H (Av F σ ρ) v d
  ow : ∀ (i : Nat) (c : D), ρ[i]? = some (.ow c) → ∃ p o, σ[i]? = some (some (.ref p)) ∧ H p = some o ∧ mutO o ∧ RpO H (Av F σ ρ) o c ∧ ¬ F p
  dj : ∀ (i j : Nat) (c c' : D) (p : Addr), ρ[i]? = some (.ow c) → ρ[j]? = some (.ow c') → σ[i]? = some (some (.ref p)) → σ[j]? = some (some (.ref p)) → i = j
  fd : ∀ (a : Addr), F a → ∃ o, H a = some o
  tb : LamX.Tabs Tbs.T H
def orA (F : Addr → Prop) (p : Addr) (a : Addr) : Prop := F a ∨ a = p
/-- what an expression's value is -/
def RR (σ : Sg) (H : Hp) (F : Addr → Prop) (ρ : Rho) (v : V) : R → Prop
  | .v d => Rp H (Av F σ ρ) v d
  | .fr c => ∃ p o, v = .ref p ∧ H p = some o ∧ mutO o ∧ RpO H (Av (orA F p) σ ρ) o c ∧ RS σ H (orA F p) ρ ∧ ¬ F p
  | .bo i => σ[i]? = some (some v) ∧ ∃ c, ρ[i]? = some (.ow c)
/-- how slots go on in an expression -/
def SlOk (s s' : Option Slot) : Prop :=
  match s with
  | some (.ow _) => (∃ c', s' = some (.ow c')) ∨ ∃ d, s' = some (.va d)
  | s => s' = s
theorem SlOk.refl (s : Option Slot) : SlOk s s := by
  cases s with
  | none => rfl
  | some s => cases s with
    | ow c => exact .inl ⟨c, rfl⟩
    | _ => rfl
theorem SlOk.trans {s t u : Option Slot} (h : SlOk s t) (g : SlOk t u) : SlOk s u := by
  cases s with
  | none => cases (show t = none from h); exact g
  | some s => cases s with
    | ow c =>
      rcases h with ⟨c', rfl⟩ | ⟨d, rfl⟩
      · rcases g with ⟨c2, rfl⟩ | ⟨d, rfl⟩
        · exact .inl ⟨_, rfl⟩
        · exact .inr ⟨_, rfl⟩
      · cases (show u = some (.va d) from g)
        exact .inr ⟨_, rfl⟩
    | un => cases (show t = some .un from h); exact g
    | va d => cases (show t = some (.va d) from h); exact g
structure Stp (σ : Sg) (H : Hp) (ρ : Rho) (H' : Hp) (ρ' : Rho) : Prop where
  keep : Kp (ownA σ ρ) H H'
  al : ∀ a o, H a = some o → ∃ o', H' a = some o'
  sl : ∀ (i : Nat), SlOk ρ[i]? ρ'[i]?
theorem Stp.own {σ : Sg} {H H' : Hp} {ρ ρ' : Rho} (s : Stp σ H ρ H' ρ') : ∀ a, ownA σ ρ' a → ownA σ ρ a := fun a ⟨i, c, h1, h2⟩ => by
  have q := s.sl i
  cases e : ρ[i]? with
  | none => rw [e] at q; rw [show ρ'[i]? = none from q] at h1; cases h1
  | some s0 =>
    rw [e] at q
    cases s0 with
    | ow c0 => exact ⟨i, c0, e, h2⟩
    | un => rw [show ρ'[i]? = some .un from q] at h1; cases h1
    | va d => rw [show ρ'[i]? = some (.va d) from q] at h1; cases h1
theorem Stp.refl {σ : Sg} {H : Hp} {ρ : Rho} : Stp σ H ρ H ρ := ⟨fun _ _ e _ _ => e, fun _ o e => ⟨o, e⟩, fun _ => SlOk.refl _⟩
theorem Stp.trans {σ : Sg} {H H1 H2 : Hp} {ρ ρ1 ρ2 : Rho} (s : Stp σ H ρ H1 ρ1) (t : Stp σ H1 ρ1 H2 ρ2) : Stp σ H ρ H2 ρ2 :=
  ⟨fun a o e n y => t.keep a o (s.keep a o e n y) (fun z => n (s.own a z)) y, fun a o e => (s.al a o e).elim fun o1 e1 => t.al a o1 e1, fun i => (s.sl i).trans (t.sl i)⟩
theorem Stp.av {σ : Sg} {H H' : Hp} {ρ ρ' : Rho} {F : Addr → Prop} (s : Stp σ H ρ H' ρ') : ∀ a, Av F σ ρ' a → Av F σ ρ a := fun a h => h.imp id (s.own a)
/-- data stays through a step -/
theorem Rp.stp {σ : Sg} {H H' : Hp} {ρ ρ' : Rho} {F : Addr → Prop} {v : V} {d : D} (r : Rp H (Av F σ ρ) v d) (s : Stp σ H ρ H' ρ') : Rp H' (Av F σ ρ') v d :=
  r.mono (fun a o e n y => s.keep a o e (fun z => n (.inr z)) y) fun a _ _ => s.av a
theorem RpL.stp {σ : Sg} {H H' : Hp} {ρ ρ' : Rho} {F : Addr → Prop} {v : List V} {d : List D} (r : RpL H (Av F σ ρ) v d) (s : Stp σ H ρ H' ρ') : RpL H' (Av F σ ρ') v d :=
  r.mono (fun a o e n y => s.keep a o e (fun z => n (.inr z)) y) fun a _ _ => s.av a
/-- a slot's list, read -/
@[simp] def peek (ρ : Rho) : R → Option D
  | .v d => some d
  | .fr c => some c
  | .bo i => match ρ[i]? with
    | some (.ow c) => some c
    | some (.va d) => some d
    | _ => none
theorem RR.peek {σ : Sg} {H : Hp} {F : Addr → Prop} {ρ : Rho} {v : V} {r : R} {d : D} (S : RS σ H F ρ) (h : RR σ H F ρ v r) (e : peek ρ r = some d) : Rw H (Av F σ ρ) v d := by
  cases r with
  | v d' => cases e; exact .of h
  | fr c =>
    cases e
    obtain ⟨p, o, rfl, h1, h2, h3, _⟩ := h
    exact .own h1 h2 (h3.mono (fun _ _ e _ _ => e) fun a _ _ z => z.elim (fun z => .inl (.inl z)) .inr)
  | bo i =>
    obtain ⟨h1, c, h2⟩ := h
    have e2 : (match ρ[i]? with
      | some (.ow c) => some c
      | some (.va d) => some d
      | _ => none) = some d := e
    rw [h2] at e2
    cases e2
    obtain ⟨p, o, q1, q2, q3, q4, _⟩ := S.ow i _ h2
    rw [h1] at q1
    cases q1
    exact .own q2 q3 q4
/-- held while other parts run: data or a slot's list -/
def Hd (σ : Sg) (H : Hp) (F : Addr → Prop) (ρ : Rho) (v : V) : R → Prop
  | .v d => Rp H (Av F σ ρ) v d
  | .fr _ => False
  | .bo i => σ[i]? = some (some v) ∧ ((∃ c, ρ[i]? = some (.ow c)) ∨ ∃ d, ρ[i]? = some (.va d))
theorem Hd.stp {σ : Sg} {H H' : Hp} {ρ ρ' : Rho} {F : Addr → Prop} {v : V} {r : R} (h : Hd σ H F ρ v r) (s : Stp σ H ρ H' ρ') : Hd σ H' F ρ' v r := by
  cases r with
  | v d => exact Rp.stp h s
  | fr c => exact h
  | bo i =>
    obtain ⟨h1, h2⟩ := h
    refine ⟨h1, ?_⟩
    have q := s.sl i
    rcases h2 with ⟨c, h2⟩ | ⟨d, h2⟩
    · rw [h2] at q
      exact q
    · rw [h2] at q
      exact .inr ⟨d, q⟩
theorem Hd.peek {σ : Sg} {H : Hp} {F : Addr → Prop} {ρ : Rho} {v : V} {r : R} {d : D} (S : RS σ H F ρ) (h : Hd σ H F ρ v r) (e : peek ρ r = some d) : Rw H (Av F σ ρ) v d := by
  cases r with
  | v d' => cases e; exact .of h
  | fr c => exact h.elim
  | bo i =>
    obtain ⟨h1, h2⟩ := h
    have e2 : (match ρ[i]? with
      | some (.ow c) => some c
      | some (.va d) => some d
      | _ => none) = some d := e
    rcases h2 with ⟨c, h2⟩ | ⟨d2, h2⟩
    · rw [h2] at e2
      cases e2
      obtain ⟨p, o, q1, q2, q3, q4, _⟩ := S.ow i _ h2
      rw [h1] at q1
      cases q1
      exact .own q2 q3 q4
    · rw [h2] at e2
      cases e2
      obtain ⟨v2, q1, q2⟩ := S.va i _ h2
      rw [h1] at q1
      cases q1
      exact .of q2
/-- nobody else's: let go of it -/
theorem RR.data {σ : Sg} {H : Hp} {F : Addr → Prop} {ρ : Rho} {v : V} {c : D} (h : RR σ H F ρ v (.fr c)) : Rp H (Av F σ ρ) v c := by
  obtain ⟨p, o, rfl, h1, h2, h3, S, nf⟩ := h
  refine .ref (fun z => z.elim nf fun ⟨i, c, e1, e2⟩ => ?_) h1 (h3.mono (fun _ _ e _ _ => e) fun a _ _ z => z.elim (fun z => .inl (.inl z)) .inr)
  obtain ⟨p', o', q1, _, _, _, q5⟩ := S.ow i c e1
  rw [e2] at q1
  cases q1
  exact q5 (.inr rfl)
/-- for holding: a new thing is let go -/
@[simp] def held : R → R
  | .fr c => .v c
  | r => r
theorem RR.held {σ : Sg} {H : Hp} {F : Addr → Prop} {ρ : Rho} {v : V} {r : R} (h : RR σ H F ρ v r) : Hd σ H F ρ v (held r) := by
  cases r with
  | v d => exact h
  | fr c => exact RR.data h
  | bo i => exact ⟨h.1, .inl h.2⟩
/-- data, for keeping: a slot's list is frozen from now on -/
@[simp] def toD : R → Rho → Option (D × Rho)
  | .v d, ρ => some (d, ρ)
  | .fr c, ρ => some (c, ρ)
  | .bo i, ρ => match ρ[i]? with
    | some (.ow c) => some (c, ρ.set i (.va c))
    | _ => none
end Ev
set_option Elab.async false
set_option linter.all false
set_option maxRecDepth 100000
set_option maxHeartbeats 2000000
/-! EvB: contexts, combinators of expressions -/
namespace Ev
open PySem L2
variable [Tbs]
/-- what an operation gives: data; a new list or dict -/
inductive Rv where
  | v (d : D)
  | fr (c : D)
@[simp] def Rv.r : Rv → R
  | .v d => .v d
  | .fr c => .fr c
@[simp] def Rv.d : Rv → D
  | .v d => d
  | .fr c => c
structure Ext (H H' : Hp) : Prop where
  k : ∀ a o, H a = some o → nt o → H' a = some o
  al : ∀ a o, H a = some o → ∃ o', H' a = some o'
  tb : LamX.Tabs Tbs.T H → LamX.Tabs Tbs.T H'
theorem Ext.of {H H' : Hp} (h : ∀ a o, H a = some o → H' a = some o) : Ext H H' := ⟨fun a o e _ => h a o e, fun a o e => ⟨o, h a o e⟩, fun t => t.ext h⟩
theorem Ext.refl {H : Hp} : Ext H H := .of fun _ _ e => e
theorem Ext.new {H : Hp} {p : Addr} {o : HO} (h : H p = none) : Ext H (upd H p o) := .of fun a u e => by
  rw [upd_ne (ne_of_none e h)]
  exact e
/-- all but the list at p and the tables stay -/
structure ExtP (p : Addr) (H H' : Hp) : Prop where
  k : Kp (fun a => a = p) H H'
  al : ∀ a o, H a = some o → ∃ o', H' a = some o'
  tb : LamX.Tabs Tbs.T H → LamX.Tabs Tbs.T H'
def RV (H H' : Hp) (A : Addr → Prop) (v : V) : Rv → Prop
  | .v d => Rp H' A v d
  | .fr c => ∃ p o, v = .ref p ∧ H p = none ∧ H' p = some o ∧ mutO o ∧ RpO H' (orA A p) o c
/-- what the other things that come out keep apart from -/
def avR (A : Addr → Prop) (v : V) : Rv → Addr → Prop
  | .v _ => A
  | .fr _ => fun a => A a ∨ v = .ref a
/-- a def as a function on data; nio: its first argument is a list that it may change, whose end comes out -/
structure FnSem where
  nio : Bool
  run : List D → Option (Rv × D)
def spOf (S : FnSem) : Sp := fun vs H Q _ =>
  ∃ (A : Addr → Prop) (ds : List D) (r : Rv) (c' : D), (∀ a, A a → ∃ o, H a = some o) ∧ LamX.Tabs Tbs.T H ∧ S.run ds = some (r, c') ∧ vs.length = ds.length ∧
   ((S.nio = false ∧ RpL H A vs ds ∧ ∀ v H', Ext H H' → RV H H' A v r → Q v H') ∨
    (S.nio = true ∧ ∃ p o c vs' ds', vs = .ref p :: vs' ∧ ds = c :: ds' ∧ H p = some o ∧ mutO o ∧ A p ∧ RpO H A o c ∧ RpL H A vs' ds' ∧
      ∀ v H', ExtP p H H' → (∃ o', H' p = some o' ∧ mutO o' ∧ RpO H' (avR A v r) o' c') → RV H H' A v r → Q v H'))
/-- a def's promise where no repr is under way -/
structure FnG (P : Program) (w : World) (K : PySem.W.Frag) (mg : Str → Option Value) (base : Heap) (CX : CXT) (k : Nat) (f : Addr) (fd : FuncData) (ps : List Str) (sp : Sp) : Prop where
  len : ∀ vs H Q E, sp vs H Q E → vs.length = ps.length
  run : ∀ (A : Around) (outer : List Env) (s : Shared) (H : Hp) (args : Args) (us : List Value) (vs : List V) (Q : VK) (E : XK), Room k A → A.guards = some [] → Env0 P w K mg base A outer s H → BindsTo s fd args (ps.zip us) → Vals vs us → sp vs H Q E →
    codeAny (model P w) A (.call (.ref f) args) (CR CX outer P w H s Q E) s
theorem FnG.mono {P : Program} {w : World} {K : PySem.W.Frag} {mg : Str → Option Value} {base : Heap} {CX : CXT} {j k : Nat} {f : Addr} {fd : FuncData} {ps : List Str} {sp : Sp} (F : FnG P w K mg base CX j f fd ps sp) (h : j ≤ k) :
    FnG P w K mg base CX k f fd ps sp := ⟨F.len, fun A outer s H args us vs Q E hr => F.run A outer s H args us vs Q E (hr.mono h)⟩
section
variable {X : Cx} {CX : CXT} {k : Nat} {f : Addr} {fd : FuncData} {ps : List Str} {sp : Sp} {dvs : List V} {ds : List Value} {E : XK} {x : Str} {p pos : Pos} {e : Expr} {es : List Expr} {t : TA}
theorem run_fnG {pins : List (Addr × Obj)} {σ : L2.St} {H : Hp} {s : Shared} {Q : VK} {us : List Value} {vs : List V} (F : FnG X.prog X.w X.K X.mg X.base CX k f fd ps sp) (hr : Room k X.A) (hg : X.A.guards = some []) (hb : Binds X.K fd ps ds) (hd : Vals dvs ds) (hx : Passes CX X E)
    (I : Inv X pins σ H s) (r : Vals vs us) (h : sp (vs ++ dvs) H Q E) : wpAny (model X.prog X.w) X.A (call (.ref f) us) (EP X pins σ Q) X.xe s := by
  have r2 : Vals (vs ++ dvs) (us ++ ds) := r.append hd
  have hl : (us ++ ds).length = ps.length := by rw [← r2.length]; exact F.len _ _ _ _ h
  refine wpAny_call (codeAny_mono (F.run X.A X.stack s H ⟨us, []⟩ (us ++ ds) (vs ++ dvs) Q E hr hg I.env0 (hb s us I.kIn hl) r2 h) fun r s' hq => ?_)
  cases r with
  | error e => exact hx pins σ H s e s' I hq
  | ok fl =>
    cases fl with
    | ret u => exact I.after hq
    | next => exact False.elim hq
    | brk => exact False.elim hq
    | cont => exact False.elim hq
theorem pe_callGd (F : FnG X.prog X.w X.K X.mg X.base CX k f fd ps sp) (hr : Room k X.A) (hgd : X.A.guards = some []) (hg : Gl X x) (hm : X.mg x = some (.ref f)) (hk : PySem.W.keepIn X.K (.ref f) = true) (hb : Binds X.K fd ps ds) (hd : Vals dvs ds) (hx : Passes CX X E)
    (ha : PA X (e :: es) t) (hdb : (x == ("__debug__" : Str)) = false) (he : starEach (e :: es) X.env = (false, eval e X.env) :: starEach es X.env) (hpl : (backTo pos (starEach es X.env)).any (·.1) = false) :
    PE X (.Call (.Name x p) (e :: es) [] pos) (tCall sp dvs E t) := by
  refine ⟨fun pins s σ H Q I h => ?_⟩
  refine wpAny_Call_Name_kw (ld_glob I hg hm ?_ hdb)
  refine PySem.W.callWith_K (h₀ := X.base) I.ok.mod.kin hk (thn (ha.run pos pins s σ H _ I h) fun us s1 ⟨vs, H1, I1, r, q⟩ => ⟨I1.kIn, ?_⟩) he hpl
  exact run_fnG F hr hgd hb hd hx I1 r q
end
structure Gx where
  fns : List (Str × FnSem)
  bl : List Str
  cs : List (Str × D)
  lam : Option Str := none
def cV : D → Option V
  | .none => some .non
  | .bool b => some (.bl b)
  | .int i => some (.int i)
  | .str x => some (.str x)
  | _ => none
theorem cV_rp {d : D} {v : V} {H : Hp} {A : Addr → Prop} (h : cV d = some v) : Rp H A v d := by
  cases d <;> cases h
  · exact .non
  · exact .bl _
  · exact .int _
  · exact .str _
structure FnHas (k : Nat) (X : Cx) (x : Str) (S : FnSem) : Prop where
  h : ∃ f fd ps, FnG X.prog X.w X.K X.mg X.base CX0 k f fd ps (spOf S) ∧ X.mg x = some (.ref f) ∧ PySem.W.keepIn X.K (.ref f) = true ∧ Binds X.K fd ps []
/-- a def that makes lambdas of the name q: its code object, its table -/
def LamOk (base : Heap) (mg : Str → Option Value) (env : Env) (q : Str) : Prop :=
  env.qual ++ "<lambda>" = q ∧ ∃ c P, env.code = .ref c ∧ LamX.TabB base mg c P ∧ (P, q) ∈ Tbs.T ∧ ∀ p ∈ Tbs.T, p.1 = P → p.2 = q
structure COk (G : Gx) (k : Nat) (N : List Str) (sc : Scope) (cl : Str → Bool) (X : Cx) : Prop where
  nm : X.N = N
  nd : List.Nodup N
  sc : X.env.scope = sc
  calm : X.calm = true
  xe : X.xe = fun _ _ => False
  room : Room k X.A
  gd : X.A.guards = some []
  cl : ∀ x, cl x = true → X.fn x = true
  fns : ∀ p ∈ G.fns, FnHas k X p.1 p.2
  bl : ∀ x ∈ G.bl, X.mg x = none
  cs : ∀ p ∈ G.cs, ∃ u v, X.mg p.1 = some u ∧ RelV v u ∧ cV p.2 = some v
  lm : ∀ q, G.lam = some q → LamOk X.base X.mg X.env q
/-! ### readings over a family of contexts -/
def SE (C : Cx → Prop) (e : Expr) : TE := fun σ H Q => ∀ X, C X → ∀ pins s, Inv X pins σ H s → wpAny (model X.prog X.w) X.A (eval e X.env) (EP X pins σ Q) X.xe s
theorem pe_SE {C : Cx → Prop} {X : Cx} (h : C X) {e : Expr} : PE X e (SE C e) := ⟨fun pins s σ H Q I q => q X h pins s I⟩
theorem SE.of {C : Cx → Prop} {e : Expr} {σ : Sg} {H : Hp} {Q : VK} {t : TE} (h : t σ H Q) (p : ∀ X, C X → PE X e t) : SE C e σ H Q := fun X hX pins s I => (p X hX).run pins s σ H Q I h
def SA (C : Cx → Prop) (es : List Expr) : TA := fun σ H Q => ∀ X, C X → ∀ (pos : Pos) pins s, Inv X pins σ H s → wpAny (model X.prog X.w) X.A (spliced (backTo pos (starEach es X.env))) (AP X pins σ Q) X.xe s
theorem pa_SA {C : Cx → Prop} {X : Cx} (h : C X) {e : List Expr} : PA X e (SA C e) := ⟨fun pos pins s σ H Q I q => q X h pos pins s I⟩
theorem SA.of {C : Cx → Prop} {e : List Expr} {σ : Sg} {H : Hp} {Q : List V → Hp → Prop} {t : TA} (h : t σ H Q) (p : ∀ X, C X → PA X e t) : SA C e σ H Q := fun X hX pos pins s I => (p X hX).run pos pins s σ H Q I h
def ST (C : Cx → Prop) (e : Expr) : TT := fun σ H Q => ∀ X, C X → ∀ (whole : Expr → Sem Value), ∀ pins s, Inv X pins σ H s → wpAny (model X.prog X.w) X.A (isTrue e X.env (eval e X.env)) (TP X pins σ Q) X.xe s
theorem pt_ST {C : Cx → Prop} {X : Cx} (h : C X) {e : Expr} : PT X e (ST C e) := ⟨fun pins s σ H Q I q => q X h (fun _ => eval e X.env) pins s I⟩
theorem ST.of {C : Cx → Prop} {e : Expr} {σ : Sg} {H : Hp} {Q : Bool → Hp → Prop} {t : TT} (h : t σ H Q) (p : ∀ X, C X → PT X e t) : ST C e σ H Q := fun X hX _ pins s I => (p X hX).run pins s σ H Q I h

/-- a new thing is new from the start on -/
def Frs (H : Hp) (v : V) : R → Prop
  | .fr _ => ∃ p, v = .ref p ∧ H p = none
  | _ => True
/-! ### expressions -/
abbrev Mt := Scope → (Str → Bool) → Expr → Bool
def Snd (C : Cx → Prop) (e : Expr) (ev : Rho → Option (R × Rho)) : Prop := ∀ (σ : Sg) (H : Hp) (F : Addr → Prop) (ρ : Rho), RS σ H F ρ → ∀ r ρ', ev ρ = some (r, ρ') → ∀ Q : VK,
  (∀ v H', Stp σ H ρ H' ρ' → RS σ H' F ρ' → RR σ H' F ρ' v r → Frs H v r → Q v H') → SE C e σ H Q
structure SX (G : Gx) (N : List Str) where
  mt : Mt
  ev : Rho → Option (R × Rho)
  ok : ∀ (k : Nat) (sc : Scope) (cl : Str → Bool) (C : Cx → Prop), (∀ X, C X → COk G k N sc cl X) → ∀ e, mt sc cl e = true → Snd C e ev
/-- a test -/
def SndT (C : Cx → Prop) (e : Expr) (ev : Rho → Option (Bool × Rho)) : Prop := ∀ (σ : Sg) (H : Hp) (F : Addr → Prop) (ρ : Rho), RS σ H F ρ → ∀ b ρ', ev ρ = some (b, ρ') → ∀ Q : Bool → Hp → Prop,
  (∀ H', Stp σ H ρ H' ρ' → RS σ H' F ρ' → Q b H') → ST C e σ H Q
structure SXT (G : Gx) (N : List Str) where
  mt : Mt
  ev : Rho → Option (Bool × Rho)
  ok : ∀ (k : Nat) (sc : Scope) (cl : Str → Bool) (C : Cx → Prop), (∀ X, C X → COk G k N sc cl X) → ∀ e, mt sc cl e = true → SndT C e ev

section
variable {σ : Sg} {H H' H'' : Hp} {ρ ρ' : Rho} {F : Addr → Prop} {v : V}
/-- a slot's list is frozen -/
theorem freeze {i : Nat} {c : D} (S : RS σ H F ρ) (e : ρ[i]? = some (.ow c)) (hv : σ[i]? = some (some v)) :
    RS σ H F (ρ.set i (.va c)) ∧ Stp σ H ρ H (ρ.set i (.va c)) ∧ Rp H (Av F σ (ρ.set i (.va c))) v c := by
  obtain ⟨p, o, q1, q2, q3, q4, q5⟩ := S.ow i c e
  rw [hv] at q1
  cases q1
  have hi : i < ρ.length := (List.getElem?_eq_some_iff.mp e).1
  have get : ∀ j : Nat, (ρ.set i (.va c))[j]? = if i = j then some (.va c) else ρ[j]? := fun j => by
    by_cases h : i = j
    · subst h; rw [List.getElem?_set_self hi, if_pos rfl]
    · rw [List.getElem?_set_ne h, if_neg h]
  have sp : Stp σ H ρ H (ρ.set i (.va c)) := ⟨fun _ _ e _ _ => e, fun _ o e => ⟨o, e⟩, fun j => by
    rw [get]
    by_cases h : i = j
    · subst h; rw [if_pos rfl, e]; exact .inr ⟨c, rfl⟩
    · rw [if_neg h]; exact SlOk.refl _⟩
  have np : ¬ Av F σ (ρ.set i (.va c)) p := fun z => z.elim q5 fun ⟨j, c', h1, h2⟩ => by
    rw [get] at h1
    by_cases h : i = j
    · rw [if_pos h] at h1; cases h1
    · rw [if_neg h] at h1
      exact h (S.dj i j c c' p e h1 hv h2)
  have rp : Rp H (Av F σ (ρ.set i (.va c))) (.ref p) c := .ref np q2 (q4.mono (fun _ _ e _ _ => e) fun a _ _ => sp.av a)
  refine ⟨⟨by rw [List.length_set]; exact S.len, fun j d h => ?_, fun j d h => ?_, fun j l c1 c2 p1 h1 h2 => ?_, S.fd, S.tb⟩, sp, rp⟩
  · rw [get] at h
    by_cases z : i = j
    · rw [if_pos z] at h
      cases h
      subst z
      exact ⟨_, hv, rp⟩
    · rw [if_neg z] at h
      obtain ⟨v2, h1, h2⟩ := S.va j d h
      exact ⟨v2, h1, h2.stp sp⟩
  · rw [get] at h
    by_cases z : i = j
    · rw [if_pos z] at h; cases h
    · rw [if_neg z] at h
      obtain ⟨p1, o1, h1, h2, h3, h4, h5⟩ := S.ow j d h
      exact ⟨p1, o1, h1, h2, h3, h4.mono (fun _ _ e _ _ => e) fun a _ _ => sp.av a, h5⟩
  · rw [get] at h1 h2
    by_cases z : i = j
    · rw [if_pos z] at h1; cases h1
    · by_cases y : i = l
      · rw [if_pos y] at h2; cases h2
      · rw [if_neg z] at h1
        rw [if_neg y] at h2
        exact S.dj j l c1 c2 p1 h1 h2
theorem toD_ok {r : R} {d : D} (S : RS σ H F ρ) (h : RR σ H F ρ v r) (e : toD r ρ = some (d, ρ')) : Stp σ H ρ H ρ' ∧ RS σ H F ρ' ∧ Rp H (Av F σ ρ') v d := by
  cases r with
  | v d' =>
    cases e
    exact ⟨Stp.refl, S, h⟩
  | fr c =>
    cases e
    exact ⟨Stp.refl, S, RR.data h⟩
  | bo i =>
    obtain ⟨h1, c, h2⟩ := h
    have e2 : (match ρ[i]? with
      | some (.ow c) => some (c, ρ.set i (.va c))
      | _ => none) = some (d, ρ') := e
    rw [h2] at e2
    cases e2
    obtain ⟨q1, q2, q3⟩ := freeze S h2 h1
    exact ⟨q2, q1, q3⟩
/-- behind an operation that changes nothing -/
theorem RS.ext (S : RS σ H F ρ) (x : Ext H H') : RS σ H' F ρ :=
  ⟨S.len, fun i d e => by
    obtain ⟨v, h1, h2⟩ := S.va i d e
    exact ⟨v, h1, h2.mono (fun a o e _ y => x.k a o e y) fun _ _ _ z => z⟩, fun i c e => by
    obtain ⟨p, o, h1, h2, h3, h4, h5⟩ := S.ow i c e
    exact ⟨p, o, h1, x.k _ _ h2 (mutO.nt h3), h3, h4.mono (fun a o e _ y => x.k a o e y) fun _ _ _ z => z, h5⟩, S.dj, fun a z => by
    obtain ⟨o, e⟩ := S.fd a z
    exact x.al _ _ e, x.tb S.tb⟩
theorem RS.extN (S : RS σ H F ρ) (x : Ext H H') {p : Addr} {ob : HO} (hp : H p = none) (hp' : H' p = some ob) : RS σ H' (orA F p) ρ := by
  have im : ∀ a o, H a = some o → Av (orA F p) σ ρ a → Av F σ ρ a := fun a o e z => by
    rcases z with (z | z) | z
    · exact .inl z
    · subst z; rw [hp] at e; cases e
    · exact .inr z
  refine ⟨S.len, fun i d e => ?_, fun i c e => ?_, S.dj, fun a z => ?_, x.tb S.tb⟩
  · obtain ⟨v, h1, h2⟩ := S.va i d e
    exact ⟨v, h1, h2.mono (fun a o e _ y => x.k a o e y) im⟩
  · obtain ⟨p1, o, h1, h2, h3, h4, h5⟩ := S.ow i c e
    refine ⟨p1, o, h1, x.k _ _ h2 (mutO.nt h3), h3, h4.mono (fun a o e _ y => x.k a o e y) im, fun z => ?_⟩
    rcases z with z | z
    · exact h5 z
    · subst z; rw [hp] at h2; cases h2
  · rcases z with z | z
    · obtain ⟨o, e⟩ := S.fd a z
      exact x.al _ _ e
    · subst z; exact ⟨_, hp'⟩
theorem Stp.none {H1 : Hp} {ρ1 : Rho} (S1 : RS σ H1 F ρ1) (s : Stp σ H ρ H1 ρ1) {p : Addr} (h : H1 p = none) : H p = none := by
  cases e : H p with
  | none => rfl
  | some o =>
    obtain ⟨o', e'⟩ := s.al p o e
    rw [h] at e'
    cases e'
theorem Frs.back {H1 : Hp} {ρ1 : Rho} (S1 : RS σ H1 F ρ1) (s : Stp σ H ρ H1 ρ1) {r : R} (h : Frs H1 v r) : Frs H v r := by
  cases r with
  | fr c =>
    obtain ⟨p, h1, h2⟩ := h
    exact ⟨p, h1, s.none S1 h2⟩
  | _ => trivial
theorem RV.frs {A : Addr → Prop} {r : Rv} (h : RV H H' A v r) : Frs H v r.r := by
  cases r with
  | fr c =>
    obtain ⟨p, _, h1, h2, _⟩ := h
    exact ⟨p, h1, h2⟩
  | v d => trivial
theorem Stp.ext (x : Ext H H') : Stp σ H ρ H' ρ := ⟨fun a o e _ y => x.k a o e y, x.al, fun _ => SlOk.refl _⟩
theorem RV.rr {r : Rv} (S : RS σ H F ρ) (x : Ext H H') (h : RV H H' (Av F σ ρ) v r) : RR σ H' F ρ v r.r := by
  cases r with
  | v d => exact h
  | fr c =>
    obtain ⟨p, o, rfl, h1, h2, h3, h4⟩ := h
    refine ⟨p, o, rfl, h2, h3, h4.mono (fun _ _ e _ _ => e) fun a _ _ z => ?_, S.extN x h1 h2, fun z => ?_⟩
    · rcases z with (z | z) | z
      · exact .inl (.inl z)
      · exact .inr z
      · exact .inl (.inr z)
    · obtain ⟨o2, e⟩ := S.fd _ z
      rw [h1] at e
      cases e
end
end Ev
set_option Elab.async false
set_option linter.all false
set_option maxRecDepth 100000
set_option maxHeartbeats 2000000
/-! EvC: names, constants, operators, tests, displays, subscripts -/
namespace Ev
open PySem L2
variable [Tbs]
/-! ### checks of the text -/
def visB (sc : Scope) (x : Str) : Bool := match sc.names.lookup x with
  | some .local => true
  | some .cell => true
  | some .free => true
  | _ => false
theorem visB_ok {sc : Scope} {x : Str} (h : visB sc x = true) : Vis sc x := by
  unfold visB at h
  unfold Vis
  split at h
  · exact .inl (by assumption)
  · exact .inr (.inl (by assumption))
  · exact .inr (.inr (by assumption))
  · cases h
def okN (x : Str) : Bool := !(x == ("__debug__" : Str)) && !(x == ("__classdict__" : Str)) && decide (x ≠ "__name__")
theorem okN_1 {x : Str} (h : okN x = true) : (x == ("__debug__" : Str)) = false := by
  unfold okN at h
  simp only [Bool.and_eq_true, Bool.not_eq_true'] at h
  exact h.1.1
theorem okN_2 {x : Str} (h : okN x = true) : (x == ("__classdict__" : Str)) = false := by
  unfold okN at h
  simp only [Bool.and_eq_true, Bool.not_eq_true'] at h
  exact h.1.2
theorem okN_3 {x : Str} (h : okN x = true) : x ≠ "__name__" := by
  unfold okN at h
  simp only [Bool.and_eq_true, decide_eq_true_eq] at h
  exact h.2
def globB (sc : Scope) (x : Str) : Bool := decide (sc.names.lookup x = some .globalImplicit) && okN x
def notStar : Expr → Bool
  | .Starred .. => false
  | _ => true
theorem starEach_of {e : Expr} {es : List Expr} {env : Env} (h : notStar e = true) : starEach (e :: es) env = (false, eval e env) :: starEach es env := by
  cases e <;> first | rfl | cases h
theorem noStars {env : Env} {pos : Pos} : ∀ {es : List Expr}, es.all notStar = true → (backTo pos (starEach es env)).any (·.1) = false
  | [], _ => rfl
  | e :: es, h => by
    rw [List.all_cons, Bool.and_eq_true] at h
    rw [starEach_of h.1]
    have q := noStars (env := env) (pos := pos) h.2
    unfold backTo at q ⊢
    rw [List.map_cons, List.any_cons, q]
    rfl
def plainT : Expr → Bool
  | .UnaryOp .. => false
  | .BoolOp .. => false
  | .IfExp .. => false
  | .Compare .. => false
  | _ => true
theorem plainT_ok {e : Expr} {env : Env} (h : plainT e = true) (whole : Sem Value) : isTrue e env whole = (do let v ← whole; standAt e.pos; holding [v] (truthy v)) := by
  cases e <;> first | rfl | cases h
def plainI : Expr → Bool
  | .Slice .. => false
  | _ => true
theorem plainI_ok {e : Expr} (h : plainI e = true) : PlainIx e := fun o i => by
  cases e <;> first | rfl | cases h
def notComp : Expr → Bool
  | .ListComp .. => false
  | .SetComp .. => false
  | .DictComp .. => false
  | _ => true
theorem swapsWith_of {e : Expr} {t : Option Expr} {l : Nat} {env : Env} (h : notComp e = true) : swapsWith e t l env = pure false := by
  cases e <;> first | rfl | cases h

section
variable {G : Gx} {N : List Str}
/-! ### holding several -/
theorem SX.hold (x : SX G N) {k : Nat} {sc : Scope} {cl : Str → Bool} {C : Cx → Prop} (hC : ∀ X, C X → COk G k N sc cl X) {e : Expr} (m : x.mt sc cl e = true) {σ : Sg} {H : Hp} {F : Addr → Prop} {ρ ρ' : Rho} {r : R} (S : RS σ H F ρ)
    (ev : x.ev ρ = some (r, ρ')) {Q : VK} (q : ∀ v H', Stp σ H ρ H' ρ' → RS σ H' F ρ' → Hd σ H' F ρ' v (held r) → Q v H') : SE C e σ H Q :=
  x.ok k sc cl C hC e m σ H F ρ S r ρ' ev Q fun v H' s S' rr _ => q v H' s S' rr.held
@[simp] def SX.evD (x : SX G N) (ρ : Rho) : Option (D × Rho) := (x.ev ρ).bind fun p => toD p.1 p.2
@[simp] def SX.evH (x : SX G N) (ρ : Rho) : Option (R × Rho) := (x.ev ρ).map fun p => (held p.1, p.2)
theorem SX.dat (x : SX G N) {k : Nat} {sc : Scope} {cl : Str → Bool} {C : Cx → Prop} (hC : ∀ X, C X → COk G k N sc cl X) {e : Expr} (m : x.mt sc cl e = true) {σ : Sg} {H : Hp} {F : Addr → Prop} {ρ ρ' : Rho} {d : D} (S : RS σ H F ρ)
    (ev : x.evD ρ = some (d, ρ')) {Q : VK} (q : ∀ v H', Stp σ H ρ H' ρ' → RS σ H' F ρ' → Rp H' (Av F σ ρ') v d → Q v H') : SE C e σ H Q := by
  obtain ⟨⟨r, ρ1⟩, e1, e2⟩ := Option.bind_eq_some_iff.mp ev
  exact x.ok k sc cl C hC e m σ H F ρ S r ρ1 e1 Q fun v H' s S' rr _ => by
    obtain ⟨a, b, c⟩ := toD_ok S' rr e2
    exact q v H' (s.trans a) b c
theorem SX.holdH (x : SX G N) {k : Nat} {sc : Scope} {cl : Str → Bool} {C : Cx → Prop} (hC : ∀ X, C X → COk G k N sc cl X) {e : Expr} (m : x.mt sc cl e = true) {σ : Sg} {H : Hp} {F : Addr → Prop} {ρ ρ' : Rho} {r : R} (S : RS σ H F ρ)
    (ev : x.evH ρ = some (r, ρ')) {Q : VK} (q : ∀ v H', Stp σ H ρ H' ρ' → RS σ H' F ρ' → Hd σ H' F ρ' v r → Q v H') : SE C e σ H Q := by
  obtain ⟨⟨r1, ρ1⟩, e1, e2⟩ := Option.map_eq_some_iff.mp ev
  cases e2
  exact x.hold hC m S e1 q
/-- two, both held, then read -/
@[simp] def ev2 (a b : SX G N) (ρ : Rho) : Option (D × D × Rho) := (a.evH ρ).bind fun p => (b.evH p.2).bind fun q => (peek q.2 p.1).bind fun x => (peek q.2 q.1).bind fun y => some (x, y, q.2)
theorem two_ok (a b : SX G N) {k : Nat} {sc : Scope} {cl : Str → Bool} {C : Cx → Prop} (hC : ∀ X, C X → COk G k N sc cl X) {e f : Expr} (m : a.mt sc cl e = true) (n : b.mt sc cl f = true) {σ : Sg} {H : Hp} {F : Addr → Prop} {ρ ρ' : Rho} {x y : D} (S : RS σ H F ρ)
    (ev : ev2 a b ρ = some (x, y, ρ')) {K : V → V → Hp → Prop} (q : ∀ v w H', Stp σ H ρ H' ρ' → RS σ H' F ρ' → Rw H' (Av F σ ρ') v x → Rw H' (Av F σ ρ') w y → K v w H') :
    SE C e σ H fun v H1 => SE C f σ H1 fun w H2 => K v w H2 := by
  obtain ⟨⟨r1, ρ1⟩, e1, ev⟩ := Option.bind_eq_some_iff.mp ev
  obtain ⟨⟨r2, ρ2⟩, e2, ev⟩ := Option.bind_eq_some_iff.mp ev
  obtain ⟨x', e3, ev⟩ := Option.bind_eq_some_iff.mp ev
  obtain ⟨y', e4, ev⟩ := Option.bind_eq_some_iff.mp ev
  cases ev
  refine a.holdH hC m S e1 fun v H1 s1 S1 h1 => ?_
  refine b.holdH hC n S1 e2 fun w H2 s2 S2 h2 => ?_
  exact q v w H2 (s1.trans s2) S2 ((h1.stp s2).peek S2 e3) (h2.peek S2 e4)

/-! ### names, constants -/
def sVar (i : Nat) : SX G N where
  mt sc _ e := match e with
    | .Name x _ => decide (N[i]? = some x) && (visB sc x && okN x)
    | _ => false
  ev ρ := match ρ[i]? with
    | some (.va d) => some (.v d, ρ)
    | some (.ow _) => some (.bo i, ρ)
    | _ => none
  ok k sc cl C hC e m σ H F ρ S r ρ' ev Q q := by
    dsimp only at ev
    cases e <;> first | (cases m; done) | skip
    rename_i x pos
    simp only [Bool.and_eq_true, decide_eq_true_eq] at m
    obtain ⟨m1, m2, m3⟩ := m
    have pe : ∀ X, C X → PE X (.Name x pos) (tVar i) := fun X hX => pe_var (by rw [(hC X hX).nm]; exact m1) (by rw [(hC X hX).sc]; exact visB_ok m2) (okN_1 m3) (okN_2 m3)
    cases h : ρ[i]? with
    | none => rw [h] at ev; cases ev
    | some s =>
      rw [h] at ev
      cases s with
      | un => cases ev
      | va d =>
        cases ev
        obtain ⟨v, h1, h2⟩ := S.va i d h
        exact SE.of (t := tVar i) ⟨v, h1, q v H Stp.refl S h2 trivial⟩ pe
      | ow c =>
        cases ev
        obtain ⟨p, o, h1, _⟩ := S.ow i c h
        exact SE.of (t := tVar i) ⟨_, h1, q _ H Stp.refl S ⟨h1, c, h⟩ trivial⟩ pe
def constB : Const → D → Bool
  | .none, .none => true
  | .bool b, .bool c => decide (b = c)
  | .int i, .int j => decide (i = j)
  | .str x, .str y => decide (x = y)
  | _, _ => false
def sCon (d : D) : SX G N where
  mt sc _ e := match e with
    | .Constant c _ _ => constB c d
    | _ => false
  ev ρ := some (.v d, ρ)
  ok k sc cl C hC e m σ H F ρ S r ρ' ev Q q := by
    dsimp only at ev
    cases ev
    cases e <;> first | (cases m; done) | skip
    rename_i c x pos
    have m1 : constB c d = true := m
    cases c <;> cases d <;> first | (cases m1; done) | skip
    · exact SE.of (t := tC .non) (q _ H Stp.refl S .non trivial) fun _ _ => pe_non
    · have e1 := of_decide_eq_true m1
      subst e1
      exact SE.of (t := tC (.bl _)) (q _ H Stp.refl S (.bl _) trivial) fun _ _ => pe_bl
    · have e1 := of_decide_eq_true m1
      subst e1
      exact SE.of (t := tC (.int _)) (q _ H Stp.refl S (.int _) trivial) fun _ _ => pe_int
    · have e1 := of_decide_eq_true m1
      subst e1
      exact SE.of (t := tC (.str _)) (q _ H Stp.refl S (.str _) trivial) fun _ _ => pe_str
/-- the j-th of the module's constants -/
def sGl (j : Nat) : SX G N where
  mt sc _ e := match e, G.cs[j]? with
    | .Name x _, some p => decide (p.1 = x) && globB sc x
    | _, _ => false
  ev ρ := match G.cs[j]? with
    | some p => some (.v p.2, ρ)
    | none => none
  ok k sc cl C hC e m σ H F ρ S r ρ' ev Q q := by
    dsimp only at ev
    cases h : G.cs[j]? with
    | none => rw [h] at ev; cases ev
    | some p =>
      rw [h] at ev
      cases ev
      cases e <;> first | (cases m; done) | skip
      rename_i x pos
      simp only [h, Bool.and_eq_true, decide_eq_true_eq, globB] at m
      obtain ⟨m1, m2, m3⟩ := m
      subst m1
      intro X hX
      obtain ⟨u, v, h1, h2, h3⟩ := (hC X hX).cs p (List.mem_of_getElem? h)
      intro pins s I
      exact (pe_glob (X := X) (by show X.env.scope.names.lookup p.1 = _; rw [(hC X hX).sc]; exact m2) h1 h2 (okN_1 m3)).run pins s σ H Q I (q v H Stp.refl S (cV_rp h3) trivial)

/-! ### operators -/
theorem av_alloc {σ : Sg} {H : Hp} {F : Addr → Prop} {ρ : Rho} (S : RS σ H F ρ) : ∀ a, Av F σ ρ a → ∃ o, H a = some o := fun a z => by
  rcases z with z | ⟨i, c, h1, h2⟩
  · exact S.fd a z
  · obtain ⟨p, o, q1, q2, _⟩ := S.ow i c h1
    rw [h2] at q1
    cases q1
    exact ⟨o, q2⟩
def rD (g : D → D → Option Rv) : R2 := fun x y H Q => ∃ A a b r, (∀ a, A a → ∃ o, H a = some o) ∧ Rw H A x a ∧ Rw H A y b ∧ g a b = some r ∧ ∀ v H', Ext H H' → RV H H' A v r → Q v H'
def OpD (op : Operator) (g : D → D → Option Rv) : Prop := ∀ X : Cx, X.calm = true → Room 0 X.A → OpR X (binaryOp op) (rD g)
def CmpD (op : CmpOp) (g : D → D → Option Bool) : Prop := ∀ X : Cx, X.calm = true → Room 0 X.A → OpR X (compareOp op) (rD fun a b => (g a b).map fun b => .v (.bool b))
theorem COk.room0 {G : Gx} {k : Nat} {N : List Str} {sc : Scope} {cl : Str → Bool} {X : Cx} (h : COk G k N sc cl X) : Room 0 X.A := h.room.mono (Nat.zero_le _)
def sBin (op : Operator) (g : D → D → Option Rv) (h : OpD op g) (a b : SX G N) : SX G N where
  mt sc cl e := match e with
    | .BinOp l o r _ => decide (o = op) && (a.mt sc cl l && b.mt sc cl r)
    | _ => false
  ev ρ := (ev2 a b ρ).bind fun p => (g p.1 p.2.1).map fun r => (r.r, p.2.2)
  ok k sc cl C hC e m σ H F ρ S r ρ' ev Q q := by
    dsimp only at ev
    cases e <;> first | (cases m; done) | skip
    rename_i el o er pos
    simp only [Bool.and_eq_true, decide_eq_true_eq] at m
    obtain ⟨rfl, m1, m2⟩ := m
    obtain ⟨⟨x, y, ρ1⟩, e1, ev⟩ := Option.bind_eq_some_iff.mp ev
    dsimp only at ev
    obtain ⟨r0, e2, ev⟩ := Option.map_eq_some_iff.mp ev
    cases ev
    refine SE.of (t := tOp (rD g) (SE C el) (SE C er)) ?_ fun X hX => pe_op (h X (hC X hX).calm (hC X hX).room0) (pe_SE hX) (pe_SE hX)
    refine two_ok a b hC m1 m2 S e1 (K := fun v w H2 => rD g v w H2 Q) fun v w H' s S' hv hw => ⟨_, x, y, r0, av_alloc S', hv, hw, e2, fun u H2 xt rv => q u H2 (s.trans (Stp.ext xt)) (S'.ext xt) (rv.rr S' xt) (Frs.back S' s rv.frs)⟩
def sCmp (op : CmpOp) (g : D → D → Option Bool) (h : CmpD op g) (a b : SX G N) : SX G N where
  mt sc cl e := match e with
    | .Compare l [o] [r] _ => decide (o = op) && (a.mt sc cl l && (b.mt sc cl r && !behindInMarks o r))
    | _ => false
  ev ρ := (ev2 a b ρ).bind fun p => (g p.1 p.2.1).map fun r => (.v (.bool r), p.2.2)
  ok k sc cl C hC e m σ H F ρ S r ρ' ev Q q := by
    dsimp only at ev
    cases e <;> first | (cases m; done) | skip
    rename_i el os ers pos
    match os, ers, m with
    | [o], [er], m =>
      simp only [Bool.and_eq_true, decide_eq_true_eq, Bool.not_eq_true'] at m
      obtain ⟨rfl, m1, m2, m3⟩ := m
      obtain ⟨⟨x, y, ρ1⟩, e1, ev⟩ := Option.bind_eq_some_iff.mp ev
      dsimp only at ev
      obtain ⟨r0, e2, ev⟩ := Option.map_eq_some_iff.mp ev
      cases ev
      refine SE.of (t := tOp (rD fun a b => (g a b).map fun b => .v (.bool b)) (SE C el) (SE C er)) ?_ fun X hX => pe_cmpR (h X (hC X hX).calm (hC X hX).room0) (pe_SE hX) (pe_SE hX) m3
      refine two_ok a b hC m1 m2 S e1 (K := fun v w H2 => rD _ v w H2 Q) fun v w H' s S' hv hw => ⟨_, x, y, .v (.bool r0), av_alloc S', hv, hw, by show Option.map _ (g x y) = _; rw [e2]; rfl, fun u H2 xt rv => q u H2 (s.trans (Stp.ext xt)) (S'.ext xt) (rv.rr S' xt) (Frs.back S' s rv.frs)⟩
/-- the same as a test -/
def tCmp (op : CmpOp) (g : D → D → Option Bool) (h : CmpD op g) (a b : SX G N) : SXT G N where
  mt sc cl e := match e with
    | .Compare l [o] [r] _ => decide (o = op) && (a.mt sc cl l && (b.mt sc cl r && !behindInMarks o r))
    | _ => false
  ev ρ := (ev2 a b ρ).bind fun p => (g p.1 p.2.1).map fun r => (r, p.2.2)
  ok k sc cl C hC e m σ H F ρ S r ρ' ev Q q := by
    dsimp only at ev
    cases e <;> first | (cases m; done) | skip
    rename_i el os ers pos
    match os, ers, m with
    | [o], [er], m =>
      simp only [Bool.and_eq_true, decide_eq_true_eq, Bool.not_eq_true'] at m
      obtain ⟨rfl, m1, m2, m3⟩ := m
      obtain ⟨⟨x, y, ρ1⟩, e1, ev⟩ := Option.bind_eq_some_iff.mp ev
      dsimp only at ev
      obtain ⟨r9, e2, ev⟩ := Option.map_eq_some_iff.mp ev
      cases ev
      refine ST.of (t := tTest (tOp (rD fun a b => (g a b).map fun b => .v (.bool b)) (SE C el) (SE C er))) ?_ fun X hX => pt_cmpR (h X (hC X hX).calm (hC X hX).room0) (pe_SE hX) (pe_SE hX) m3
      refine two_ok a b hC m1 m2 S e1 (K := fun v w H2 => rD _ v w H2 fun x H' => ∃ k, x = .bl k ∧ Q k H') fun v w H' s S' hv hw => ⟨_, x, y, .v (.bool r), av_alloc S', hv, hw, by show Option.map _ (g x y) = _; rw [e2]; rfl, fun u H2 xt rv => ⟨r, Rp.bl_of rv, q H2 (s.trans (Stp.ext xt)) (S'.ext xt)⟩⟩
/-- a op b op' c -/
@[simp] def ev3 (g g' : D → D → Option Bool) (a b c : SX G N) (ρ : Rho) : Option (Bool × Rho) := (a.evH ρ).bind fun p => (b.evH p.2).bind fun q => (peek q.2 p.1).bind fun x => (peek q.2 q.1).bind fun y => (g x y).bind fun k => match k with
  | true => (c.evH q.2).bind fun s => (peek s.2 q.1).bind fun y' => (peek s.2 s.1).bind fun z => (g' y' z).map fun k' => (k', s.2)
  | false => some (false, q.2)
theorem chain_ok {op op' : CmpOp} {g g' : D → D → Option Bool} (a b c : SX G N) {k : Nat} {sc : Scope} {cl : Str → Bool} {C : Cx → Prop} (hC : ∀ X, C X → COk G k N sc cl X) {e1 e2 e3 : Expr} (m1 : a.mt sc cl e1 = true) (m2 : b.mt sc cl e2 = true) (m3 : c.mt sc cl e3 = true)
    {σ : Sg} {H : Hp} {F : Addr → Prop} {ρ ρ' : Rho} {r : Bool} (S : RS σ H F ρ) (ev : ev3 g g' a b c ρ = some (r, ρ')) {Q : VK} (q : ∀ H', Stp σ H ρ H' ρ' → RS σ H' F ρ' → Q (.bl r) H') :
    tChain (rD fun a b => (g a b).map fun b => .v (.bool b)) (rD fun a b => (g' a b).map fun b => .v (.bool b)) (SE C e1) (SE C e2) (SE C e3) σ H Q := by
  obtain ⟨⟨r1, ρ1⟩, h1, ev⟩ := Option.bind_eq_some_iff.mp ev
  obtain ⟨⟨r2, ρ2⟩, h2, ev⟩ := Option.bind_eq_some_iff.mp ev
  obtain ⟨x, h3, ev⟩ := Option.bind_eq_some_iff.mp ev
  obtain ⟨y, h4, ev⟩ := Option.bind_eq_some_iff.mp ev
  obtain ⟨kb, h5, ev⟩ := Option.bind_eq_some_iff.mp ev
  refine a.holdH hC m1 S h1 fun v H1 s1 S1 d1 => ?_
  refine b.holdH hC m2 S1 h2 fun w H2 s2 S2 d2 => ?_
  refine ⟨Av F σ ρ2, x, y, .v (.bool kb), av_alloc S2, (d1.stp s2).peek S2 h3, d2.peek S2 h4, by show Option.map _ (g x y) = _; rw [h5]; rfl, fun u H3 xt rv => ⟨kb, Rp.bl_of rv, ?_⟩⟩
  have s3 := (s1.trans s2).trans (Stp.ext (σ := σ) (ρ := ρ2) xt)
  cases kb with
  | false =>
    cases ev
    rw [if_neg Bool.false_ne_true]
    exact q H3 s3 (S2.ext xt)
  | true =>
    rw [if_pos rfl]
    obtain ⟨⟨r3, ρ3⟩, g1, ev⟩ := Option.bind_eq_some_iff.mp ev
    obtain ⟨y', g2, ev⟩ := Option.bind_eq_some_iff.mp ev
    obtain ⟨z, g3, ev⟩ := Option.bind_eq_some_iff.mp ev
    obtain ⟨k', g4, ev⟩ := Option.map_eq_some_iff.mp ev
    cases ev
    refine c.holdH hC m3 (S2.ext xt) g1 fun t H4 s4 S4 d4 => ?_
    exact ⟨_, y', z, .v (.bool _), av_alloc S4, ((d2.stp (Stp.ext xt)).stp s4).peek S4 g2, d4.peek S4 g3, by show Option.map _ (g' y' z) = _; rw [g4]; rfl, fun u2 H5 xt2 rv2 => by
      rw [Rp.bl_of rv2]
      exact q H5 ((s3.trans s4).trans (Stp.ext xt2)) (S4.ext xt2)⟩
def chainM (op op' : CmpOp) (a b c : SX G N) (sc : Scope) (cl : Str → Bool) (e : Expr) : Bool := match e with
    | .Compare l [o, o'] [r, t] _ => (decide (o = op) && decide (o' = op')) && (a.mt sc cl l && (b.mt sc cl r && (c.mt sc cl t && !lastMarks [o, o'] [r, t])))
    | _ => false
def sChain (op op' : CmpOp) (g g' : D → D → Option Bool) (h : CmpD op g) (h' : CmpD op' g') (a b c : SX G N) : SX G N where
  mt sc cl e := chainM op op' a b c sc cl e
  ev ρ := (ev3 g g' a b c ρ).map fun p => (.v (.bool p.1), p.2)
  ok k sc cl C hC e m σ H F ρ S r ρ' ev Q q := by
    dsimp only at ev
    cases e <;> first | (cases m; done) | skip
    rename_i el os ers pos
    match os, ers, m with
    | [o, o'], [er, et], m =>
      simp only [chainM, Bool.and_eq_true, decide_eq_true_eq, Bool.not_eq_true'] at m
      obtain ⟨⟨rfl, rfl⟩, m1, m2, m3, m4⟩ := m
      obtain ⟨⟨b0, ρ1⟩, e1, ev⟩ := Option.map_eq_some_iff.mp ev
      cases ev
      refine SE.of (chain_ok (op := o) (op' := o') a b c hC m1 m2 m3 S e1 (Q := Q) fun H' s S' => q _ H' s S' (.bl _) trivial) fun X hX => pe_chain (h X (hC X hX).calm (hC X hX).room0) (h' X (hC X hX).calm (hC X hX).room0) (pe_SE hX) (pe_SE hX) (pe_SE hX) m4
def tChain2 (op op' : CmpOp) (g g' : D → D → Option Bool) (h : CmpD op g) (h' : CmpD op' g') (a b c : SX G N) : SXT G N where
  mt sc cl e := chainM op op' a b c sc cl e
  ev ρ := ev3 g g' a b c ρ
  ok k sc cl C hC e m σ H F ρ S r ρ' ev Q q := by
    dsimp only at ev
    cases e <;> first | (cases m; done) | skip
    rename_i el os ers pos
    match os, ers, m with
    | [o, o'], [er, et], m =>
      simp only [chainM, Bool.and_eq_true, decide_eq_true_eq, Bool.not_eq_true'] at m
      obtain ⟨⟨rfl, rfl⟩, m1, m2, m3, m4⟩ := m
      refine ST.of (t := tTest (L2.tChain _ _ (SE C el) (SE C er) (SE C et))) (chain_ok (op := o) (op' := o') a b c hC m1 m2 m3 S ev (Q := fun x H' => ∃ k, x = .bl k ∧ Q k H') fun H' s S' => ⟨_, rfl, q H' s S'⟩) fun X hX => pt_chain (h X (hC X hX).calm (hC X hX).room0) (h' X (hC X hX).calm (hC X hX).room0) (pe_SE hX) (pe_SE hX) (pe_SE hX) m4
end
end Ev
set_option Elab.async false
set_option linter.all false
set_option maxRecDepth 100000
set_option maxHeartbeats 2000000
/-! EvD: and, or, not, if; displays; subscripts -/
namespace Ev
open PySem L2
variable [Tbs]
section
variable {G : Gx} {N : List Str}
/-! ### and, or of truth values, as values -/
/-- the list of an and: all but the first hang on those ahead -/
@[simp] def evAnd : List (SX G N) → Rho → Option (Bool × Rho)
  | [], _ => none
  | [x], ρ => (x.evD ρ).bind fun p => match p.1 with
    | .bool b => some (b, p.2)
    | _ => none
  | x :: y :: r, ρ => (x.evD ρ).bind fun p => match p.1 with
    | .bool true => evAnd (y :: r) p.2
    | .bool false => some (false, p.2)
    | _ => none
@[simp] def evOr : List (SX G N) → Rho → Option (Bool × Rho)
  | [], _ => none
  | [x], ρ => (x.evD ρ).bind fun p => match p.1 with
    | .bool b => some (b, p.2)
    | _ => none
  | x :: y :: r, ρ => (x.evD ρ).bind fun p => match p.1 with
    | .bool false => evOr (y :: r) p.2
    | .bool true => some (true, p.2)
    | _ => none
def mtAll (sc : Scope) (cl : Str → Bool) : List (SX G N) → List Expr → Bool
  | [], [] => true
  | x :: xs, e :: es => x.mt sc cl e && mtAll sc cl xs es
  | _, _ => false
theorem and_ok {k : Nat} {sc : Scope} {cl : Str → Bool} {C : Cx → Prop} (hC : ∀ X, C X → COk G k N sc cl X) {pos : Pos} : ∀ (xs : List (SX G N)) (es : List Expr), mtAll sc cl xs es = true → ∀ {σ : Sg} {H : Hp} {F : Addr → Prop} {ρ ρ' : Rho} {b : Bool}, RS σ H F ρ → evAnd xs ρ = some (b, ρ') →
    ∀ {Q : VK}, (∀ H', Stp σ H ρ H' ρ' → RS σ H' F ρ' → Q (.bl b) H') → SE C (.BoolOp .And es pos) σ H Q
  | [], _, _, _, _, _, _, _, _, _, ev, _, _ => by cases ev
  | [x], es, m, σ, H, F, ρ, ρ', b, S, ev, Q, q => by
    match es, m with
    | _ :: _ :: _, m => cases (Bool.and_eq_true_iff.mp m).2
    | [e], m =>
      have m1 := (Bool.and_eq_true_iff.mp m).1
      obtain ⟨⟨d, ρ1⟩, e1, ev⟩ := Option.bind_eq_some_iff.mp ev
      refine SE.of (t := SE C e) (x.dat hC m1 S e1 fun v H' s S' r => ?_) fun X hX => pe_one (pe_SE hX)
      dsimp only at ev
      split at ev
      · cases ev
        rw [r.bl_of]
        exact q H' s S'
      · cases ev
  | x :: y :: r, es, m, σ, H, F, ρ, ρ', b, S, ev, Q, q => by
    match es, m with
    | [_], m => cases (Bool.and_eq_true_iff.mp m).2
    | e :: f :: es, m =>
      obtain ⟨m1, m2⟩ := Bool.and_eq_true_iff.mp m
      obtain ⟨⟨d, ρ1⟩, e1, ev⟩ := Option.bind_eq_some_iff.mp ev
      refine SE.of (t := tAndV (SE C e) (SE C (.BoolOp .And (f :: es) pos))) ?_ fun X hX => pe_and (pe_SE hX) (pe_SE hX)
      refine x.dat hC m1 S e1 fun v H' s S' rp => ?_
      dsimp only at ev
      split at ev
      · refine ⟨true, rp.bl_of, ?_⟩
        rw [if_pos rfl]
        exact and_ok hC (y :: r) (f :: es) m2 S' ev fun H2 s2 S2 => q H2 (s.trans s2) S2
      · cases ev
        refine ⟨false, rp.bl_of, ?_⟩
        rw [if_neg Bool.false_ne_true]
        exact q H' s S'
      · cases ev
theorem or_ok {k : Nat} {sc : Scope} {cl : Str → Bool} {C : Cx → Prop} (hC : ∀ X, C X → COk G k N sc cl X) {pos : Pos} : ∀ (xs : List (SX G N)) (es : List Expr), mtAll sc cl xs es = true → ∀ {σ : Sg} {H : Hp} {F : Addr → Prop} {ρ ρ' : Rho} {b : Bool}, RS σ H F ρ → evOr xs ρ = some (b, ρ') →
    ∀ {Q : VK}, (∀ H', Stp σ H ρ H' ρ' → RS σ H' F ρ' → Q (.bl b) H') → SE C (.BoolOp .Or es pos) σ H Q
  | [], _, _, _, _, _, _, _, _, _, ev, _, _ => by cases ev
  | [x], es, m, σ, H, F, ρ, ρ', b, S, ev, Q, q => by
    match es, m with
    | _ :: _ :: _, m => cases (Bool.and_eq_true_iff.mp m).2
    | [e], m =>
      have m1 := (Bool.and_eq_true_iff.mp m).1
      obtain ⟨⟨d, ρ1⟩, e1, ev⟩ := Option.bind_eq_some_iff.mp ev
      refine SE.of (t := SE C e) (x.dat hC m1 S e1 fun v H' s S' r => ?_) fun X hX => pe_one (pe_SE hX)
      dsimp only at ev
      split at ev
      · cases ev
        rw [r.bl_of]
        exact q H' s S'
      · cases ev
  | x :: y :: r, es, m, σ, H, F, ρ, ρ', b, S, ev, Q, q => by
    match es, m with
    | [_], m => cases (Bool.and_eq_true_iff.mp m).2
    | e :: f :: es, m =>
      obtain ⟨m1, m2⟩ := Bool.and_eq_true_iff.mp m
      obtain ⟨⟨d, ρ1⟩, e1, ev⟩ := Option.bind_eq_some_iff.mp ev
      refine SE.of (t := tOrV (SE C e) (SE C (.BoolOp .Or (f :: es) pos))) ?_ fun X hX => pe_or (pe_SE hX) (pe_SE hX)
      refine x.dat hC m1 S e1 fun v H' s S' rp => ?_
      dsimp only at ev
      split at ev
      · refine ⟨false, rp.bl_of, ?_⟩
        rw [if_neg Bool.false_ne_true]
        exact or_ok hC (y :: r) (f :: es) m2 S' ev fun H2 s2 S2 => q H2 (s.trans s2) S2
      · cases ev
        refine ⟨true, rp.bl_of, ?_⟩
        rw [if_pos rfl]
        exact q H' s S'
      · cases ev
def sAnd (xs : List (SX G N)) : SX G N where
  mt sc cl e := match e with
    | .BoolOp op es _ => decide (op = .And) && mtAll sc cl xs es
    | _ => false
  ev ρ := (evAnd xs ρ).map fun p => (.v (.bool p.1), p.2)
  ok k sc cl C hC e m σ H F ρ S r ρ' ev Q q := by
    dsimp only at ev
    cases e <;> first | (cases m; done) | skip
    rename_i op es pos
    simp only [Bool.and_eq_true, decide_eq_true_eq] at m
    obtain ⟨rfl, m1⟩ := m
    obtain ⟨⟨b, ρ1⟩, e1, ev⟩ := Option.map_eq_some_iff.mp ev
    cases ev
    exact and_ok hC xs es m1 S e1 fun H' s S' => q _ H' s S' (.bl _) trivial
def sOr (xs : List (SX G N)) : SX G N where
  mt sc cl e := match e with
    | .BoolOp op es _ => decide (op = .Or) && mtAll sc cl xs es
    | _ => false
  ev ρ := (evOr xs ρ).map fun p => (.v (.bool p.1), p.2)
  ok k sc cl C hC e m σ H F ρ S r ρ' ev Q q := by
    dsimp only at ev
    cases e <;> first | (cases m; done) | skip
    rename_i op es pos
    simp only [Bool.and_eq_true, decide_eq_true_eq] at m
    obtain ⟨rfl, m1⟩ := m
    obtain ⟨⟨b, ρ1⟩, e1, ev⟩ := Option.map_eq_some_iff.mp ev
    cases ev
    exact or_ok hC xs es m1 S e1 fun H' s S' => q _ H' s S' (.bl _) trivial
def sNot (x : SX G N) : SX G N where
  mt sc cl e := match e with
    | .UnaryOp op a _ => decide (op = .Not) && x.mt sc cl a
    | _ => false
  ev ρ := (x.evD ρ).bind fun p => match p.1 with
    | .bool b => some (.v (.bool (!b)), p.2)
    | _ => none
  ok k sc cl C hC e m σ H F ρ S r ρ' ev Q q := by
    dsimp only at ev
    cases e <;> first | (cases m; done) | skip
    rename_i op a pos
    simp only [Bool.and_eq_true, decide_eq_true_eq] at m
    obtain ⟨rfl, m1⟩ := m
    obtain ⟨⟨d, ρ1⟩, e1, ev⟩ := Option.bind_eq_some_iff.mp ev
    refine SE.of (t := tNotV (SE C a)) (x.dat hC m1 S e1 fun v H' s S' r => ?_) fun X hX => pe_not (pe_SE hX)
    dsimp only at ev
    split at ev
    · cases ev
      exact ⟨_, r.bl_of, q _ H' s S' (.bl _) trivial⟩
    · cases ev
def sNeg (x : SX G N) : SX G N where
  mt sc cl e := match e with
    | .UnaryOp op a _ => decide (op = .USub) && x.mt sc cl a
    | _ => false
  ev ρ := (x.evD ρ).bind fun p => match p.1 with
    | .int b => some (.v (.int (-b)), p.2)
    | _ => none
  ok k sc cl C hC e m σ H F ρ S r ρ' ev Q q := by
    dsimp only at ev
    cases e <;> first | (cases m; done) | skip
    rename_i op a pos
    simp only [Bool.and_eq_true, decide_eq_true_eq] at m
    obtain ⟨rfl, m1⟩ := m
    obtain ⟨⟨d, ρ1⟩, e1, ev⟩ := Option.bind_eq_some_iff.mp ev
    refine SE.of (t := tUn (rU fun i => .int (-i)) (SE C a)) (x.dat hC m1 S e1 fun v H' s S' r => ?_) fun X hX => pe_un un_neg (pe_SE hX)
    dsimp only at ev
    split at ev
    · cases ev
      exact ⟨_, r.int_of, q _ H' s S' (.int _) trivial⟩
    · cases ev
/-! ### tests -/
/-- data's truth -/
@[simp] def tru : D → Option Bool
  | .bool b => some b
  | .none => some false
  | .int i => some (i != 0)
  | .list ds => some !ds.isEmpty
  | .tuple ds => some !ds.isEmpty
  | _ => none
theorem isEmpty_rp {H : Hp} {A : Addr → Prop} {vs : List V} {ds : List D} (r : RpL H A vs ds) : vs.isEmpty = ds.isEmpty := by
  cases r <;> rfl
theorem tru_v {H : Hp} {A : Addr → Prop} {v : V} {d : D} {b : Bool} {K : PySem.W.Frag} (r : Rw H A v d) (h : tru d = some b) : TruV K v H b := by
  cases d <;> first | (cases h; done) | skip
  · rw [r.non_of]; cases h; rfl
  · rw [r.bl_of]; cases h; rfl
  · rw [r.int_of]; cases h; rfl
  · obtain ⟨a, xs, rfl, h1, h2⟩ := r.list_of
    cases h
    exact .inl ⟨xs, .inl (.inl h1), by rw [isEmpty_rp h2]⟩
  · obtain ⟨a, xs, rfl, h1, _, h2⟩ := r.tup_of
    cases h
    exact .inr (.inl ⟨xs, .inl (.inl h1), by rw [isEmpty_rp h2]⟩)
/-- a value as a test -/
def tVal (x : SX G N) : SXT G N where
  mt sc cl e := plainT e && x.mt sc cl e
  ev ρ := (x.evH ρ).bind fun p => (peek p.2 p.1).bind fun d => (tru d).map fun b => (b, p.2)
  ok k sc cl C hC e m σ H F ρ S r ρ' ev Q q := by
    dsimp only at ev
    obtain ⟨m1, m2⟩ := Bool.and_eq_true_iff.mp m
    obtain ⟨⟨r1, ρ1⟩, e1, ev⟩ := Option.bind_eq_some_iff.mp ev
    obtain ⟨d, e2, ev⟩ := Option.bind_eq_some_iff.mp ev
    obtain ⟨b, e3, ev⟩ := Option.map_eq_some_iff.mp ev
    cases ev
    intro X hX
    refine ST.of (C := fun Y => Y = X) (t := fun σ H Q => SE C e σ H fun x H' => ∃ k, TruV X.K x H' k ∧ Q k H') ?_ (fun Y hY => ?_) X rfl
    · exact x.holdH hC m2 S e1 fun v H' s S' h => ⟨r, tru_v (h.peek S' e2) e3, q H' s S'⟩
    · subst hY
      exact pt_truth (pe_SE hX) (plainT_ok m1)
def tNot (x : SXT G N) : SXT G N where
  mt sc cl e := match e with
    | .UnaryOp op a _ => decide (op = .Not) && x.mt sc cl a
    | _ => false
  ev ρ := (x.ev ρ).map fun p => (!p.1, p.2)
  ok k sc cl C hC e m σ H F ρ S r ρ' ev Q q := by
    dsimp only at ev
    cases e <;> first | (cases m; done) | skip
    rename_i op a pos
    simp only [Bool.and_eq_true, decide_eq_true_eq] at m
    obtain ⟨rfl, m1⟩ := m
    obtain ⟨⟨d, ρ1⟩, e1, ev⟩ := Option.map_eq_some_iff.mp ev
    cases ev
    exact ST.of (t := L2.tNot (ST C a)) (x.ok k sc cl C hC a m1 σ H F ρ S d ρ1 e1 _ fun H' s S' => q H' s S') fun X hX => pt_not (pt_ST hX)
@[simp] def evTAnd : List (SXT G N) → Rho → Option (Bool × Rho)
  | [], _ => none
  | [x], ρ => x.ev ρ
  | x :: y :: r, ρ => (x.ev ρ).bind fun p => match p.1 with
    | true => evTAnd (y :: r) p.2
    | false => some (false, p.2)
@[simp] def evTOr : List (SXT G N) → Rho → Option (Bool × Rho)
  | [], _ => none
  | [x], ρ => x.ev ρ
  | x :: y :: r, ρ => (x.ev ρ).bind fun p => match p.1 with
    | false => evTOr (y :: r) p.2
    | true => some (true, p.2)
def mtAllT (sc : Scope) (cl : Str → Bool) : List (SXT G N) → List Expr → Bool
  | [], [] => true
  | x :: xs, e :: es => x.mt sc cl e && mtAllT sc cl xs es
  | _, _ => false
/-- a test whose whole doesn't matter -/
def SW (C : Cx → Prop) (e : Expr) : TT := fun σ H Q => ∀ X, C X → ∀ (whole : Sem Value), ∀ pins s, Inv X pins σ H s → wpAny (model X.prog X.w) X.A (isTrue e X.env whole) (TP X pins σ Q) X.xe s
theorem pw_SW {C : Cx → Prop} {X : Cx} (h : C X) {e : Expr} : PW X e (SW C e) := ⟨fun whole pins s σ H Q I q => q X h whole pins s I⟩
theorem SW.of {C : Cx → Prop} {e : Expr} {σ : Sg} {H : Hp} {Q : Bool → Hp → Prop} {t : TT} (h : t σ H Q) (p : ∀ X, C X → PW X e t) : SW C e σ H Q := fun X hX whole pins s I => (p X hX).run whole pins s σ H Q I h
theorem tand_ok {k : Nat} {sc : Scope} {cl : Str → Bool} {C : Cx → Prop} (hC : ∀ X, C X → COk G k N sc cl X) {pos : Pos} : ∀ (xs : List (SXT G N)) (es : List Expr), mtAllT sc cl xs es = true → ∀ {σ : Sg} {H : Hp} {F : Addr → Prop} {ρ ρ' : Rho} {b : Bool}, RS σ H F ρ → evTAnd xs ρ = some (b, ρ') →
    ∀ {Q : Bool → Hp → Prop}, (∀ H', Stp σ H ρ H' ρ' → RS σ H' F ρ' → Q b H') → SW C (.BoolOp .And es pos) σ H Q
  | [], _, _, _, _, _, _, _, _, _, ev, _, _ => by cases ev
  | [x], es, m, σ, H, F, ρ, ρ', b, S, ev, Q, q => by
    match es, m with
    | _ :: _ :: _, m => cases (Bool.and_eq_true_iff.mp m).2
    | [e], m =>
      have m1 := (Bool.and_eq_true_iff.mp m).1
      exact SW.of (t := ST C e) (x.ok k sc cl C hC e m1 σ H F ρ S b ρ' ev Q q) fun X hX => pw_and1 (pt_ST hX)
  | x :: y :: r, es, m, σ, H, F, ρ, ρ', b, S, ev, Q, q => by
    match es, m with
    | [_], m => cases (Bool.and_eq_true_iff.mp m).2
    | e :: f :: es, m =>
      obtain ⟨m1, m2⟩ := Bool.and_eq_true_iff.mp m
      obtain ⟨⟨d, ρ1⟩, e1, ev⟩ := Option.bind_eq_some_iff.mp ev
      refine SW.of (t := tAnd (ST C e) (SW C (.BoolOp .And (f :: es) pos))) ?_ fun X hX => pw_and (pt_ST hX) (pw_SW hX)
      refine x.ok k sc cl C hC e m1 σ H F ρ S d ρ1 e1 _ fun H' s S' => ?_
      dsimp only at ev
      cases d with
      | true =>
        rw [if_pos rfl]
        exact tand_ok hC (y :: r) (f :: es) m2 S' ev fun H2 s2 S2 => q H2 (s.trans s2) S2
      | false =>
        cases ev
        rw [if_neg Bool.false_ne_true]
        exact q H' s S'
theorem tor_ok {k : Nat} {sc : Scope} {cl : Str → Bool} {C : Cx → Prop} (hC : ∀ X, C X → COk G k N sc cl X) {pos : Pos} : ∀ (xs : List (SXT G N)) (es : List Expr), mtAllT sc cl xs es = true → ∀ {σ : Sg} {H : Hp} {F : Addr → Prop} {ρ ρ' : Rho} {b : Bool}, RS σ H F ρ → evTOr xs ρ = some (b, ρ') →
    ∀ {Q : Bool → Hp → Prop}, (∀ H', Stp σ H ρ H' ρ' → RS σ H' F ρ' → Q b H') → SW C (.BoolOp .Or es pos) σ H Q
  | [], _, _, _, _, _, _, _, _, _, ev, _, _ => by cases ev
  | [x], es, m, σ, H, F, ρ, ρ', b, S, ev, Q, q => by
    match es, m with
    | _ :: _ :: _, m => cases (Bool.and_eq_true_iff.mp m).2
    | [e], m =>
      have m1 := (Bool.and_eq_true_iff.mp m).1
      exact SW.of (t := ST C e) (x.ok k sc cl C hC e m1 σ H F ρ S b ρ' ev Q q) fun X hX => pw_or1 (pt_ST hX)
  | x :: y :: r, es, m, σ, H, F, ρ, ρ', b, S, ev, Q, q => by
    match es, m with
    | [_], m => cases (Bool.and_eq_true_iff.mp m).2
    | e :: f :: es, m =>
      obtain ⟨m1, m2⟩ := Bool.and_eq_true_iff.mp m
      obtain ⟨⟨d, ρ1⟩, e1, ev⟩ := Option.bind_eq_some_iff.mp ev
      refine SW.of (t := tOr (ST C e) (SW C (.BoolOp .Or (f :: es) pos))) ?_ fun X hX => pw_or (pt_ST hX) (pw_SW hX)
      refine x.ok k sc cl C hC e m1 σ H F ρ S d ρ1 e1 _ fun H' s S' => ?_
      dsimp only at ev
      cases d with
      | false =>
        rw [if_neg Bool.false_ne_true]
        exact tor_ok hC (y :: r) (f :: es) m2 S' ev fun H2 s2 S2 => q H2 (s.trans s2) S2
      | true =>
        cases ev
        rw [if_pos rfl]
        exact q H' s S'
def tAnds (xs : List (SXT G N)) : SXT G N where
  mt sc cl e := match e with
    | .BoolOp op es _ => decide (op = .And) && mtAllT sc cl xs es
    | _ => false
  ev ρ := evTAnd xs ρ
  ok k sc cl C hC e m σ H F ρ S r ρ' ev Q q := by
    dsimp only at ev
    cases e <;> first | (cases m; done) | skip
    rename_i op es pos
    simp only [Bool.and_eq_true, decide_eq_true_eq] at m
    obtain ⟨rfl, m1⟩ := m
    exact ST.of (t := SW C _) (tand_ok hC xs es m1 S ev q) fun X hX => (pw_SW hX).pt
def tOrs (xs : List (SXT G N)) : SXT G N where
  mt sc cl e := match e with
    | .BoolOp op es _ => decide (op = .Or) && mtAllT sc cl xs es
    | _ => false
  ev ρ := evTOr xs ρ
  ok k sc cl C hC e m σ H F ρ S r ρ' ev Q q := by
    dsimp only at ev
    cases e <;> first | (cases m; done) | skip
    rename_i op es pos
    simp only [Bool.and_eq_true, decide_eq_true_eq] at m
    obtain ⟨rfl, m1⟩ := m
    exact ST.of (t := SW C _) (tor_ok hC xs es m1 S ev q) fun X hX => (pw_SW hX).pt
def sIte (c : SXT G N) (a b : SX G N) : SX G N where
  mt sc cl e := match e with
    | .IfExp t x y _ => c.mt sc cl t && (a.mt sc cl x && b.mt sc cl y)
    | _ => false
  ev ρ := (c.ev ρ).bind fun p => match p.1 with
    | true => a.ev p.2
    | false => b.ev p.2
  ok k sc cl C hC e m σ H F ρ S r ρ' ev Q q := by
    dsimp only at ev
    cases e <;> first | (cases m; done) | skip
    rename_i t x y pos
    simp only [Bool.and_eq_true] at m
    obtain ⟨m1, m2, m3⟩ := m
    obtain ⟨⟨d, ρ1⟩, e1, ev⟩ := Option.bind_eq_some_iff.mp ev
    refine SE.of (t := tIf (ST C t) (SE C x) (SE C y)) ?_ fun X hX => pe_ifExp (pt_ST hX) (pe_SE hX) (pe_SE hX)
    refine c.ok k sc cl C hC t m1 σ H F ρ S d ρ1 e1 _ fun H' s S' => ?_
    dsimp only at ev
    cases d with
    | true =>
      rw [if_pos rfl]
      exact a.ok k sc cl C hC x m2 σ H' F ρ1 S' r ρ' ev Q fun v H2 s2 S2 h f => q v H2 (s.trans s2) S2 h (Frs.back S' s f)
    | false =>
      rw [if_neg Bool.false_ne_true]
      exact b.ok k sc cl C hC y m3 σ H' F ρ1 S' r ρ' ev Q fun v H2 s2 S2 h f => q v H2 (s.trans s2) S2 h (Frs.back S' s f)

/-! ### displays -/
inductive Itm (G : Gx) (N : List Str) where
  | one (x : SX G N)
  | st (x : SX G N)
@[simp] def elems : D → Option (List D)
  | .list ds => some ds
  | .tuple ds => some ds
  | _ => none
@[simp] def evIs : List (Itm G N) → Rho → Option (List D × Rho)
  | [], ρ => some ([], ρ)
  | .one x :: r, ρ => (x.evD ρ).bind fun p => (evIs r p.2).map fun s => (p.1 :: s.1, s.2)
  | .st x :: r, ρ => (x.evH ρ).bind fun p => ((peek p.2 p.1).bind elems).bind fun ds => (evIs r p.2).map fun s => (ds ++ s.1, s.2)
def mtIs (sc : Scope) (cl : Str → Bool) : List (Itm G N) → List Expr → Bool
  | [], [] => true
  | .one x :: xs, e :: es => (notStar e && x.mt sc cl e) && mtIs sc cl xs es
  | .st x :: xs, .Starred e _ :: es => x.mt sc cl e && mtIs sc cl xs es
  | _, _ => false
theorem elems_of {H : Hp} {A : Addr → Prop} {v : V} {d : D} {ds : List D} {K : PySem.W.Frag} (r : Rw H A v d) (h : elems d = some ds) : ∃ a xs, v = .ref a ∧ (SqT K H a xs ∨ SqL K H a xs) ∧ RpL H A xs ds := by
  cases d <;> first | (cases h; done) | skip
  · obtain ⟨a, xs, rfl, h1, h2⟩ := r.list_of
    cases h
    exact ⟨a, xs, rfl, .inr (.inl (.inl h1)), h2⟩
  · obtain ⟨a, xs, rfl, h1, _, h2⟩ := r.tup_of
    cases h
    exact ⟨a, xs, rfl, .inl (.inl (.inl h1)), h2⟩
theorem is_ok {k : Nat} {sc : Scope} {cl : Str → Bool} {C : Cx → Prop} (hC : ∀ X, C X → COk G k N sc cl X) : ∀ (xs : List (Itm G N)) (es : List Expr), mtIs sc cl xs es = true → ∀ {σ : Sg} {H : Hp} {F : Addr → Prop} {ρ ρ' : Rho} {ds : List D}, RS σ H F ρ → evIs xs ρ = some (ds, ρ') →
    ∀ {Q : List V → Hp → Prop}, (∀ vs H', Stp σ H ρ H' ρ' → RS σ H' F ρ' → RpL H' (Av F σ ρ') vs ds → Q vs H') → SA C es σ H Q
  | [], es, m, σ, H, F, ρ, ρ', ds, S, ev, Q, q => by
    match es, m with
    | [], _ =>
      cases ev
      exact SA.of (t := tNil) (q [] H Stp.refl S .nil) fun X hX => pa_nil
  | .one x :: r, es, m, σ, H, F, ρ, ρ', ds, S, ev, Q, q => by
    match es, m with
    | e :: es, m =>
      obtain ⟨m1, m2⟩ := Bool.and_eq_true_iff.mp m
      obtain ⟨m0, m1⟩ := Bool.and_eq_true_iff.mp m1
      obtain ⟨⟨d, ρ1⟩, e1, ev⟩ := Option.bind_eq_some_iff.mp ev
      obtain ⟨⟨ds2, ρ2⟩, e2, ev⟩ := Option.map_eq_some_iff.mp ev
      cases ev
      refine SA.of (t := tCons (SE C e) (SA C es)) ?_ fun X hX => pa_cons (pe_SE hX) (pa_SA hX) (starEach_of m0)
      refine x.dat hC m1 S e1 fun v H1 s1 S1 r1 => ?_
      exact is_ok hC r es m2 S1 e2 fun vs H2 s2 S2 r2 => q (v :: vs) H2 (s1.trans s2) S2 (.cons (r1.stp s2) r2)
  | .st x :: r, es, m, σ, H, F, ρ, ρ', ds, S, ev, Q, q => by
    match es, m with
    | .Starred e p :: es, m =>
      obtain ⟨m1, m2⟩ := Bool.and_eq_true_iff.mp m
      obtain ⟨⟨d, ρ1⟩, e1, ev⟩ := Option.bind_eq_some_iff.mp ev
      obtain ⟨es1, e2, ev⟩ := Option.bind_eq_some_iff.mp ev
      obtain ⟨d1, e3, e2⟩ := Option.bind_eq_some_iff.mp e2
      obtain ⟨⟨ds2, ρ2⟩, e4, ev⟩ := Option.map_eq_some_iff.mp ev
      cases ev
      intro X hX
      refine SA.of (C := fun Y => Y = X) (t := StX.tStar X.K (SE C e) (SA C es)) ?_ (fun Y hY => ?_) X rfl
      · refine x.holdH hC m1 S e1 fun v H1 s1 S1 h1 => ?_
        obtain ⟨a, vs, rfl, h2, h3⟩ := elems_of (K := X.K) (h1.peek S1 e3) e2
        refine ⟨a, vs, rfl, h2, ?_⟩
        exact is_ok hC r es m2 S1 e4 fun ws H2 s2 S2 r2 => q (vs ++ ws) H2 (s1.trans s2) S2 ((h3.stp s2).append r2)
      · subst hY
        exact StX.pa_star (pe_SE hX) (pa_SA hX)
theorem not_av {σ : Sg} {H : Hp} {F : Addr → Prop} {ρ : Rho} {p : Addr} (S : RS σ H F ρ) (h : H p = none) : ¬ Av F σ ρ p := fun z => by
  rcases z with z | ⟨i, c, h1, h2⟩
  · obtain ⟨o, e⟩ := S.fd p z
    rw [h] at e; cases e
  · obtain ⟨p', o, q1, q2, _⟩ := S.ow i c h1
    rw [h2] at q1
    cases q1
    rw [h] at q2; cases q2
@[simp] def small (n : Nat) : Bool := decide (n ≤ 100000)
theorem small_ok {n : Nat} (h : small n = true) : n ≤ sizeLine := Nat.le_trans (of_decide_eq_true h) (by decide)
def sTup (xs : List (Itm G N)) : SX G N where
  mt sc cl e := match e with
    | .Tuple es _ _ => mtIs sc cl xs es
    | _ => false
  ev ρ := (evIs xs ρ).bind fun p => match small p.1.length with
    | true => some (.v (.tuple p.1), p.2)
    | false => none
  ok k sc cl C hC e m σ H F ρ S r ρ' ev Q q := by
    dsimp only at ev
    cases e <;> first | (cases m; done) | skip
    rename_i es x1 pos
    obtain ⟨⟨ds, ρ1⟩, e1, ev⟩ := Option.bind_eq_some_iff.mp ev
    dsimp only at ev
    split at ev
    · rename_i hs
      cases ev
      refine SE.of (t := tTup (SA C es)) (is_ok hC xs es m S e1 fun vs H1 s1 S1 r1 => ⟨?_, fun p hp => ?_⟩) fun X hX => pe_tup (pa_SA hX)
      · rw [r1.length]; exact small_ok hs
      · have xt : Ext H1 (upd H1 p (.tup vs)) := Ext.new hp
        exact q _ _ (s1.trans (Stp.ext xt)) (S1.ext xt) (.ref (not_av S1 hp) upd_same (.tup (r1.stp (Stp.ext xt)))) trivial
    · cases ev
def sLst (xs : List (Itm G N)) : SX G N where
  mt sc cl e := match e with
    | .List es _ => mtIs sc cl xs es
    | _ => false
  ev ρ := (evIs xs ρ).bind fun p => match small p.1.length with
    | true => some (.fr (.list p.1), p.2)
    | false => none
  ok k sc cl C hC e m σ H F ρ S r ρ' ev Q q := by
    dsimp only at ev
    cases e <;> first | (cases m; done) | skip
    rename_i es pos
    obtain ⟨⟨ds, ρ1⟩, e1, ev⟩ := Option.bind_eq_some_iff.mp ev
    dsimp only at ev
    split at ev
    · rename_i hs
      cases ev
      refine SE.of (t := tLst (SA C es)) (is_ok hC xs es m S e1 fun vs H1 s1 S1 r1 => ⟨?_, fun p hp => ?_⟩) fun X hX => pe_lst (pa_SA hX)
      · rw [r1.length]; exact small_ok hs
      · have xt : Ext H1 (upd H1 p (.lst vs)) := Ext.new hp
        refine q _ _ (s1.trans (Stp.ext xt)) (S1.ext xt) (RV.rr (r := .fr (.list ds)) S1 xt ⟨p, _, rfl, hp, upd_same, trivial, .lst (r1.mono (fun a o e _ y => xt.k a o e y) fun a o e z => ?_)⟩) ⟨p, rfl, s1.none S1 hp⟩
        rcases z with z | z
        · exact z
        · subst z; rw [hp] at e; cases e
    · cases ev
end
end Ev
set_option Elab.async false
set_option linter.all false
set_option maxRecDepth 100000
set_option maxHeartbeats 2000000
/-! EvE: subscripts, slices, calls of defs, built-in functions, methods of a slot's list -/
namespace Ev
open PySem L2
variable [Tbs]
section
variable {σ : Sg} {H H' : Hp} {ρ ρ' : Rho} {F F' : Addr → Prop} {v : V}
/-- the slots' state behind a change -/
theorem RS.turn (S : RS σ H F ρ) (k : Kp (ownA σ ρ) H H') (al : ∀ a o, H a = some o → ∃ o', H' a = some o') (tb : LamX.Tabs Tbs.T H') (hl : ρ'.length = ρ.length) (hv : ∀ (i : Nat) (d : D), ρ'[i]? = some (.va d) → ρ[i]? = some (.va d))
    (ho : ∀ (i : Nat) (c' : D), ρ'[i]? = some (.ow c') → ∃ c, ρ[i]? = some (.ow c) ∧ ∀ p, σ[i]? = some (some (.ref p)) → ∃ o, H' p = some o ∧ mutO o ∧ RpO H' (Av F' σ ρ') o c')
    (hF : ∀ a, F' a → F a ∨ (H a = none ∧ ∃ o, H' a = some o)) : RS σ H' F' ρ' := by
  have own : ∀ a, ownA σ ρ' a → ownA σ ρ a := fun a ⟨i, c', h1, h2⟩ => by
    obtain ⟨c, q, _⟩ := ho i c' h1
    exact ⟨i, c, q, h2⟩
  have im : ∀ a o, H a = some o → Av F' σ ρ' a → Av F σ ρ a := fun a o e z => by
    rcases z with z | z
    · rcases hF a z with z | ⟨z, _⟩
      · exact .inl z
      · rw [z] at e; cases e
    · exact .inr (own a z)
  refine ⟨by rw [hl]; exact S.len, fun i d e => ?_, fun i c e => ?_, fun i j c c' p h1 h2 h3 h4 => ?_, fun a z => ?_, tb⟩
  · obtain ⟨v, h1, h2⟩ := S.va i d (hv i d e)
    exact ⟨v, h1, h2.mono (fun a o e n y => k a o e (fun z => n (.inr z)) y) im⟩
  · obtain ⟨c0, q1, q2⟩ := ho i c e
    obtain ⟨p, o, h1, h2, h3, h4, h5⟩ := S.ow i c0 q1
    obtain ⟨o', g1, g2, g3⟩ := q2 p h1
    refine ⟨p, o', h1, g1, g2, g3, fun z => ?_⟩
    rcases hF p z with z | ⟨z, _⟩
    · exact h5 z
    · rw [z] at h2; cases h2
  · obtain ⟨c0, q1, _⟩ := ho i c h1
    obtain ⟨c1, q2, _⟩ := ho j c' h2
    exact S.dj i j c0 c1 p q1 q2 h3 h4
  · rcases hF a z with z | ⟨_, z⟩
    · obtain ⟨o, e⟩ := S.fd a z
      exact al a o e
    · exact z
theorem setGet {i : Nat} {s : Slot} (h : i < ρ.length) (j : Nat) : (ρ.set i s)[j]? = if i = j then some s else ρ[j]? := by
  by_cases e : i = j
  · subst e; rw [List.getElem?_set_self h, if_pos rfl]
  · rw [List.getElem?_set_ne e, if_neg e]
/-- a slot's own list is changed -/
theorem own_set {i : Nat} {c c' : D} {p : Addr} {o' : HO} (S : RS σ H F ρ) (e : ρ[i]? = some (.ow c)) (hp : σ[i]? = some (some (.ref p))) (k : ExtP p H H') (h1 : H' p = some o') (h2 : mutO o') (h3 : RpO H' (Av F' σ ρ) o' c')
    (hF : ∀ a, F' a → F a ∨ (H a = none ∧ ∃ o, H' a = some o)) :
    RS σ H' F' (ρ.set i (.ow c')) ∧ Stp σ H ρ H' (ρ.set i (.ow c')) := by
  have hi : i < ρ.length := (List.getElem?_eq_some_iff.mp e).1
  have st : Stp σ H ρ H' (ρ.set i (.ow c')) := ⟨fun a o e2 n y => k.k a o e2 (fun z => by subst z; exact n ⟨i, c, e, hp⟩) y, k.al, fun j => by
    rw [setGet hi]
    by_cases z : i = j
    · subst z; rw [if_pos rfl, e]; exact .inl ⟨c', rfl⟩
    · rw [if_neg z]; exact SlOk.refl _⟩
  refine ⟨S.turn st.keep k.al (k.tb S.tb) (by rw [List.length_set]) (fun j d g => ?_) (fun j d g => ?_) hF, st⟩
  · rw [setGet hi] at g
    by_cases z : i = j
    · rw [if_pos z] at g; cases g
    · rw [if_neg z] at g; exact g
  · rw [setGet hi] at g
    by_cases z : i = j
    · subst z
      rw [if_pos rfl] at g
      cases g
      refine ⟨c, e, fun q hq => ?_⟩
      rw [hp] at hq
      cases hq
      exact ⟨o', h1, h2, h3.mono (fun _ _ e _ _ => e) fun a _ _ z => z.imp id (st.own a)⟩
    · rw [if_neg z] at g
      refine ⟨d, g, fun q hq => ?_⟩
      obtain ⟨p2, o2, q1, q2, q3, q4, q5⟩ := S.ow j d g
      rw [hq] at q1
      cases q1
      have np : q ≠ p := fun e2 => z (by subst e2; exact S.dj i j c d q e g hp hq)
      refine ⟨o2, k.k q o2 q2 np (mutO.nt q3), q3, q4.mono (fun a o e2 n y => k.k a o e2 (fun z2 => ?_) y) fun a o e2 z2 => ?_⟩
      · subst z2
        exact n (.inr ⟨i, c, e, hp⟩)
      · rcases z2 with z2 | z2
        · rcases hF a z2 with z3 | ⟨z3, _⟩
          · exact .inl z3
          · rw [z3] at e2; cases e2
        · exact .inr (st.own a z2)
/-- behind a call that changes a slot's list -/
theorem call_end {i : Nat} {c c' : D} {p : Addr} {r : Rv} (S : RS σ H F ρ) (e : ρ[i]? = some (.ow c)) (hp : σ[i]? = some (some (.ref p))) (k : ExtP p H H')
    (io : ∃ o', H' p = some o' ∧ mutO o' ∧ RpO H' (avR (Av F σ ρ) v r) o' c') (h : RV H H' (Av F σ ρ) v r) :
    RS σ H' F (ρ.set i (.ow c')) ∧ Stp σ H ρ H' (ρ.set i (.ow c')) ∧ RR σ H' F (ρ.set i (.ow c')) v r.r := by
  obtain ⟨o', h1, h2, h3⟩ := io
  cases r with
  | v d =>
    obtain ⟨S', st⟩ := own_set S e hp k h1 h2 h3 fun a z => .inl z
    exact ⟨S', st, Rp.mono (fun _ _ e _ _ => e) (fun a _ _ => st.av a) h⟩
  | fr d =>
    obtain ⟨p', o, rfl, g1, g2, g3, g4⟩ := h
    have nF : ¬ F p' := fun z => by
      obtain ⟨o2, e⟩ := S.fd _ z
      rw [g1] at e; cases e
    obtain ⟨S', st⟩ := own_set (F' := F) S e hp k h1 h2 (h3.mono (fun _ _ e _ _ => e) fun a _ _ z => .inl z) fun a z => .inl z
    obtain ⟨S2, _⟩ := own_set (F' := orA F p') S e hp k h1 h2 (h3.mono (fun _ _ e _ _ => e) fun a _ _ z => by
      rcases z with (z | z) | z
      · exact .inl (.inl z)
      · subst z; exact .inr rfl
      · exact .inl (.inr z)) fun a z => by
      rcases z with z | z
      · exact .inl z
      · subst z; exact .inr ⟨g1, _, g2⟩
    refine ⟨S', st, p', o, rfl, g2, g3, g4.mono (fun _ _ e _ _ => e) fun a _ _ z => ?_, S2, nF⟩
    rcases z with (z | z) | z
    · exact .inl (.inl z)
    · exact .inr z
    · exact .inl (.inr (st.own a z))
end
section
variable {G : Gx} {N : List Str}
/-! ### subscripts -/
@[simp] def keyOf : D → Option Key
  | .int i => some (.inl i)
  | .str s => some (.inr s)
  | _ => none
@[simp] def eqK : Key → D → Bool
  | .inl i, .int j => decide (i = j)
  | .inr i, .str j => decide (i = j)
  | _, _ => false
@[simp] def findD (k : Key) : List (D × D) → Option D
  | [] => none
  | (x, v) :: r => if eqK k x = true then some v else findD k r
@[simp] def ixD : D → D → Option D
  | .list ds, .int i => atI ds i
  | .tuple ds, .int i => atI ds i
  | .dict [(.none, .tuple ds)], .int i => atI ds i
  | _, _ => none
theorem atI_rp {H : Hp} {A : Addr → Prop} {vs : List V} {ds : List D} {i : Int} {d : D} (r : RpL H A vs ds) (h : atI ds i = some d) : ∃ v, atI vs i = some v ∧ Rp H A v d := by
  unfold atI at h ⊢
  rw [← r.length] at h
  obtain ⟨j, h1, h2⟩ := Option.bind_eq_some_iff.mp h
  obtain ⟨v, h3, h4⟩ := r.get h2
  exact ⟨v, by rw [h1]; exact h3, h4⟩
theorem ix_rp {H : Hp} {A : Addr → Prop} {v w : V} {x y d : D} {K : PySem.W.Frag} (hv : Rw H A v x) (hw : Rw H A w y) (h : ixD x y = some d) {Q : VK} (q : ∀ u, Rp H A u d → Q u H) : rIx K v w H Q := by
  unfold ixD at h
  split at h
  · obtain ⟨a, xs, rfl, h1, h2⟩ := hv.list_of
    obtain ⟨u, g1, g2⟩ := atI_rp h2 h
    exact .inl ⟨a, xs, _, u, rfl, hw.int_of, .inl (.inl h1), g1, q u g2⟩
  · obtain ⟨a, xs, rfl, h1, _, h2⟩ := hv.tup_of
    obtain ⟨u, g1, g2⟩ := atI_rp h2 h
    exact .inr (.inl ⟨a, xs, _, u, rfl, hw.int_of, .inl (.inl h1), g1, q u g2⟩)
  · obtain ⟨a, ob, xs, ds', rfl, h1, e, h2⟩ := hv.scr_of
    cases e
    obtain ⟨u, g1, g2⟩ := atI_rp h2 h
    exact .inl ⟨a, xs, _, u, rfl, hw.int_of, .inl (.inr ⟨_, h1⟩), g1, q u g2⟩
  · cases h
def sIx (a b : SX G N) : SX G N where
  mt sc cl e := match e with
    | .Subscript l r _ => a.mt sc cl l && (b.mt sc cl r && plainI r)
    | _ => false
  ev ρ := (ev2 a b ρ).bind fun p => (ixD p.1 p.2.1).map fun d => (.v d, p.2.2)
  ok k sc cl C hC e m σ H F ρ S r ρ' ev Q q := by
    dsimp only at ev
    cases e <;> first | (cases m; done) | skip
    rename_i el er pos
    simp only [Bool.and_eq_true] at m
    obtain ⟨m1, m2, m3⟩ := m
    obtain ⟨⟨x, y, ρ1⟩, e1, ev⟩ := Option.bind_eq_some_iff.mp ev
    dsimp only at ev
    obtain ⟨d, e2, ev⟩ := Option.map_eq_some_iff.mp ev
    cases ev
    intro X hX
    refine SE.of (C := fun Y => Y = X) (t := tOp (rIx X.K) (SE C el) (SE C er)) ?_ (fun Y hY => ?_) X rfl
    · exact two_ok a b hC m1 m2 S e1 (K := fun v w H2 => rIx X.K v w H2 Q) fun v w H' s S' hv hw => ix_rp hv hw e2 fun u hu => q u H' s S' hu trivial
    · subst hY
      exact pe_ix ix_seq (pe_SE hX) (pe_SE hX) (plainI_ok m3)
/-- d[k] of a dict, the key there -/
@[simp] def dgD : D → D → Option D
  | .dict kvs, y => match isScr kvs with
    | true => none
    | false => (keyOf y).bind fun k => findD k kvs
  | _, _ => none
theorem keyOf_v {H : Hp} {A : Addr → Prop} {v : V} {d : D} {k : Key} (h : keyOf d = some k) (r : Rw H A v d) : v = kV k := by
  cases d <;> cases h
  · exact r.int_of
  · exact r.str_of
theorem eqK_key (k k' : Key) : eqK k (keyD k') = decide (k' = k) := by
  cases k <;> cases k' <;> simp [eqK, keyD, eq_comm]
theorem findD_rp {H : Hp} {A : Addr → Prop} {k : Key} : ∀ {kvs : List (Key × V)} {ds : List (D × D)}, RpK H A kvs ds → match findD k ds with
    | some d => ∃ v, valV kvs k = some v ∧ Rp H A v d
    | none => valV kvs k = none
  | _, _, .nil => rfl
  | _, _, .cons (k := k') (v := v) (kvs := kvs) (d := d) (ds := ds) r t => by
    have ih := findD_rp (k := k) t
    unfold findD
    rw [eqK_key]
    by_cases e : k' = k
    · rw [valV_pos e, decide_eq_true e, if_pos rfl]
      exact ⟨v, rfl, r⟩
    · rw [valV_neg e, decide_eq_false e, if_neg Bool.false_ne_true]
      exact ih
end
end Ev
set_option Elab.async false
set_option linter.all false
set_option maxRecDepth 100000
set_option maxHeartbeats 2000000
/-! EvF: dicts read, slices, calls, built-in functions, methods of a slot's list -/
namespace Ev
open PySem L2
variable [Tbs]
section
variable {G : Gx} {N : List Str}
theorem COk.hu {k : Nat} {sc : Scope} {cl : Str → Bool} {X : Cx} (h : COk G k N sc cl X) : X.A.units + 1 < cLine := hu_of h.room
def sDix (a b : SX G N) : SX G N where
  mt sc cl e := match e with
    | .Subscript l r _ => a.mt sc cl l && (b.mt sc cl r && plainI r)
    | _ => false
  ev ρ := (ev2 a b ρ).bind fun p => (dgD p.1 p.2.1).map fun d => (.v d, p.2.2)
  ok k sc cl C hC e m σ H F ρ S r ρ' ev Q q := by
    dsimp only at ev
    cases e <;> first | (cases m; done) | skip
    rename_i el er pos
    simp only [Bool.and_eq_true] at m
    obtain ⟨m1, m2, m3⟩ := m
    obtain ⟨⟨x, y, ρ1⟩, e1, ev⟩ := Option.bind_eq_some_iff.mp ev
    dsimp only at ev
    obtain ⟨d, e2, ev⟩ := Option.map_eq_some_iff.mp ev
    cases ev
    refine SE.of (t := tDGet (SE C el) (SE C er)) ?_ (fun X hX => pe_dget (hC X hX).hu (pe_SE hX) (pe_SE hX) (plainI_ok m3))
    refine two_ok a b hC m1 m2 S e1 (K := fun v w H2 => ∃ a u, v = .ref a ∧ DGet H2 a w (some u) ∧ Q u H2) fun v w H' s S' hv hw => ?_
    unfold dgD at e2
    split at e2
    · split at e2
      · cases e2
      · rename_i kvs hs
        obtain ⟨k, h1, h2⟩ := Option.bind_eq_some_iff.mp e2
        obtain ⟨p, vs, rfl, h3, h4⟩ := hv.dict_of hs
        have f := findD_rp (k := k) h4
        rw [h2] at f
        obtain ⟨u, h5, h6⟩ := f
        refine ⟨p, u, rfl, ?_, q u H' s S' h6 trivial⟩
        rw [keyOf_v h1 hw, ← h5]
        exact DGet.k h3
    · cases e2
/-- k in d, k not in d -/
@[simp] def inD : D → D → Option Bool
  | y, .dict kvs => match isScr kvs with
    | true => none
    | false => (keyOf y).map fun k => (findD k kvs).isSome
  | _, _ => none
theorem in_rp {H : Hp} {A : Addr → Prop} {v w : V} {x y : D} {b : Bool} (hv : Rw H A v x) (hw : Rw H A w y) (h : inD x y = some b) : ∃ a o, w = .ref a ∧ DGet H a v o ∧ o.isSome = b := by
  unfold inD at h
  split at h
  · rename_i kvs
    split at h
    · cases h
    · rename_i hs
      obtain ⟨k, h1, h2⟩ := Option.map_eq_some_iff.mp h
      obtain ⟨p, vs, rfl, h3, h4⟩ := hw.dict_of hs
      have f := findD_rp (k := k) h4
      refine ⟨p, valV vs k, rfl, ?_, ?_⟩
      · rw [keyOf_v h1 hv]
        exact DGet.k h3
      · rw [← h2]
        cases e : findD k kvs with
        | none =>
          rw [e] at f
          rw [f]
          rfl
        | some d =>
          rw [e] at f
          obtain ⟨u, h5, _⟩ := f
          rw [h5]
          rfl
  · cases h
def tDin (neg : Bool) (a b : SX G N) : SXT G N where
  mt sc cl e := match e with
    | .Compare l [o] [r] _ => decide (o = if neg = true then .NotIn else .In) && (a.mt sc cl l && (b.mt sc cl r && !behindInMarks o r))
    | _ => false
  ev ρ := (ev2 a b ρ).bind fun p => (inD p.1 p.2.1).map fun r => (if neg = true then !r else r, p.2.2)
  ok k sc cl C hC e m σ H F ρ S r ρ' ev Q q := by
    dsimp only at ev
    cases e <;> first | (cases m; done) | skip
    rename_i el os ers pos
    match os, ers, m with
    | [o], [er], m =>
      simp only [Bool.and_eq_true, decide_eq_true_eq, Bool.not_eq_true'] at m
      obtain ⟨ho, m1, m2, m3⟩ := m
      obtain ⟨⟨x, y, ρ1⟩, e1, ev⟩ := Option.bind_eq_some_iff.mp ev
      dsimp only at ev
      obtain ⟨r0, e2, ev⟩ := Option.map_eq_some_iff.mp ev
      cases ev
      cases neg with
      | true =>
        rw [if_pos rfl] at ho
        subst ho
        refine ST.of (t := tB (tDNotIn (SE C el) (SE C er))) ?_ fun X hX => pt_cmp (pc_dnotin (hC X hX).hu (pe_SE hX) (pe_SE hX)) m3
        refine two_ok a b hC m1 m2 S e1 (K := fun v w H2 => ∃ a o, w = .ref a ∧ DGet H2 a v o ∧ ∃ c, V.bl (!o.isSome) = .bl c ∧ Q c H2) fun v w H' s S' hv hw => ?_
        obtain ⟨p, o, h1, h2, h3⟩ := in_rp hv hw e2
        exact ⟨p, o, h1, h2, _, rfl, by rw [h3]; exact q H' s S'⟩
      | false =>
        rw [if_neg Bool.false_ne_true] at ho
        subst ho
        refine ST.of (t := tB (tDIn (SE C el) (SE C er))) ?_ fun X hX => pt_cmp (pc_din (hC X hX).hu (pe_SE hX) (pe_SE hX)) m3
        refine two_ok a b hC m1 m2 S e1 (K := fun v w H2 => ∃ a o, w = .ref a ∧ DGet H2 a v o ∧ ∃ c, V.bl o.isSome = .bl c ∧ Q c H2) fun v w H' s S' hv hw => ?_
        obtain ⟨p, o, h1, h2, h3⟩ := in_rp hv hw e2
        exact ⟨p, o, h1, h2, _, rfl, by rw [h3]; exact q H' s S'⟩
/-! ### slices -/
def cutD (xs : List D) (lo hi : Option Int) : List D := (xs.drop (HT.sIx xs.length 0 lo)).take (HT.sIx xs.length xs.length hi - HT.sIx xs.length 0 lo)
theorem cut_rp {H : Hp} {A : Addr → Prop} {vs : List V} {ds : List D} (r : RpL H A vs ds) (lo hi : Option Int) : RpL H A (cutV vs lo hi) (cutD ds lo hi) := by
  unfold cutV cutD
  rw [r.length]
  exact (r.drop _).take _
@[simp] def slD : D → Option Int → Option Int → Option Rv
  | .list ds, lo, hi => some (.fr (.list (cutD ds lo hi)))
  | .tuple ds, lo, hi => some (.v (.tuple (cutD ds lo hi)))
  | .dict [(.none, .tuple ds)], lo, hi => some (.fr (.list (cutD ds lo hi)))
  | _, _, _ => none
theorem cut_whole {xs : List D} {lo hi : Option Int} (h : HT.sIx xs.length 0 lo = 0 ∧ HT.sIx xs.length xs.length hi = xs.length) : cutD xs lo hi = xs := by
  unfold cutD
  rw [h.1, h.2, List.drop_zero, Nat.sub_zero, List.take_length]
def SO (C : Cx → Prop) (e : Option Expr) : TO := fun σ H Q => ∀ X, C X → ∀ pins s, Inv X pins σ H s → wpAny (model X.prog X.w) X.A (evalPart e X.env) (fun u s' => ∃ o H', Inv X pins σ H' s' ∧ PySem.IsPart u o ∧ Q o H') X.xe s
theorem po_SO {C : Cx → Prop} {X : Cx} (h : C X) {e : Option Expr} : PO X e (SO C e) := ⟨fun pins s σ H Q I q => q X h pins s I⟩
theorem SO.of {C : Cx → Prop} {e : Option Expr} {σ : Sg} {H : Hp} {Q : Option Int → Hp → Prop} {t : TO} (h : t σ H Q) (p : ∀ X, C X → PO X e t) : SO C e σ H Q := fun X hX pins s I => (p X hX).run pins s σ H Q I h
@[simp] def evO : Option (SX G N) → Rho → Option (Option Int × Rho)
  | none, ρ => some (none, ρ)
  | some x, ρ => (x.evD ρ).bind fun p => match p.1 with
    | .int i => some (some i, p.2)
    | _ => none
def mtO (sc : Scope) (cl : Str → Bool) : Option (SX G N) → Option Expr → Bool
  | none, none => true
  | some x, some e => x.mt sc cl e
  | _, _ => false
theorem o_ok {k : Nat} {sc : Scope} {cl : Str → Bool} {C : Cx → Prop} (hC : ∀ X, C X → COk G k N sc cl X) {o : Option (SX G N)} {e : Option Expr} (m : mtO sc cl o e = true) {σ : Sg} {H : Hp} {F : Addr → Prop} {ρ ρ' : Rho} {i : Option Int} (S : RS σ H F ρ) (ev : evO o ρ = some (i, ρ'))
    {Q : Option Int → Hp → Prop} (q : ∀ H', Stp σ H ρ H' ρ' → RS σ H' F ρ' → Q i H') : SO C e σ H Q := by
  match o, e, m with
  | none, none, _ =>
    cases ev
    exact SO.of (t := tNoPart) (q H Stp.refl S) fun X hX => po_none
  | some x, some e, m =>
    obtain ⟨⟨d, ρ1⟩, e1, ev⟩ := Option.bind_eq_some_iff.mp ev
    dsimp only at ev
    refine SO.of (t := tPart (SE C e)) ?_ fun X hX => po_some (pe_SE hX)
    refine x.dat hC m S e1 fun v H' s S' r => ?_
    split at ev
    · cases ev
      exact ⟨_, r.int_of, q H' s S'⟩
    · cases ev
def sSl (a : SX G N) (lo hi : Option (SX G N)) : SX G N where
  mt sc cl e := match e with
    | .Subscript l (.Slice x y none _) _ => a.mt sc cl l && (mtO sc cl lo x && mtO sc cl hi y)
    | _ => false
  ev ρ := (a.evH ρ).bind fun p => (evO lo p.2).bind fun i => (evO hi i.2).bind fun j => (peek j.2 p.1).bind fun d => (slD d i.1 j.1).map fun r => (r.r, j.2)
  ok k sc cl C hC e m σ H F ρ S r ρ' ev Q q := by
    dsimp only at ev
    cases e <;> first | (cases m; done) | skip
    rename_i el sl pos
    cases sl <;> first | (cases m; done) | skip
    rename_i x y z p2
    cases z <;> first | (cases m; done) | skip
    simp only [Bool.and_eq_true] at m
    obtain ⟨m1, m2, m3⟩ := m
    obtain ⟨⟨r1, ρ1⟩, e1, ev⟩ := Option.bind_eq_some_iff.mp ev
    obtain ⟨⟨i, ρ2⟩, e2, ev⟩ := Option.bind_eq_some_iff.mp ev
    obtain ⟨⟨j, ρ3⟩, e3, ev⟩ := Option.bind_eq_some_iff.mp ev
    obtain ⟨d, e4, ev⟩ := Option.bind_eq_some_iff.mp ev
    obtain ⟨rv, e5, ev⟩ := Option.map_eq_some_iff.mp ev
    cases ev
    dsimp only at e4 e5 q
    intro X hX
    refine SE.of (C := fun Y => Y = X) (t := tSl (fun x lo hi H Q => rSlL X.K x lo hi H Q ∨ rSlA X.K x lo hi H Q) (SE C el) (SO C x) (SO C y)) ?_ (fun Y hY => ?_) X rfl
    · refine a.holdH hC m1 S e1 fun v H1 s1 S1 h1 => ?_
      refine o_ok hC m2 S1 e2 fun H2 s2 S2 => ?_
      refine o_ok hC m3 S2 e3 fun H3 s3 S3 => ?_
      have hw := ((h1.stp s2).stp s3).peek S3 e4
      have st := (s1.trans s2).trans s3
      unfold slD at e5
      split at e5
      · cases e5
        obtain ⟨p, xs, rfl, h2, h3⟩ := hw.list_of
        refine .inl ⟨p, xs, rfl, .inl (.inl h2), fun l hl => ?_⟩
        have xt : Ext H3 (upd H3 l (.lst (cutV xs i j))) := Ext.new hl
        refine q _ _ (st.trans (Stp.ext xt)) (S3.ext xt) (RV.rr (r := .fr _) S3 xt ⟨l, _, rfl, hl, upd_same, trivial, .lst ((cut_rp h3 i j).mono (fun a o e _ y => xt.k a o e y) fun a o e z => ?_)⟩) ⟨l, rfl, st.none S3 hl⟩
        rcases z with z | z
        · exact z
        · subst z; rw [hl] at e; cases e
      · cases e5
        obtain ⟨p, xs, rfl, h2, h2', h3⟩ := hw.tup_of
        refine .inr ⟨p, xs, rfl, .inl (.inl h2), fun whole => ?_, fun _ l hl => ?_⟩
        · rw [h3.length] at whole
          have e := cut_whole whole
          refine q _ _ st S3 ?_ trivial
          refine (?_ : Rp H3 _ (.ref p) (.tuple (cutD _ i j)))
          rw [e]
          exact .ref h2' h2 (.tup h3)
        · have xt : Ext H3 (upd H3 l (.tup (cutV xs i j))) := Ext.new hl
          exact q _ _ (st.trans (Stp.ext xt)) (S3.ext xt) (.ref (not_av S3 hl) upd_same (.tup ((cut_rp h3 i j).stp (Stp.ext xt)))) trivial
      · cases e5
        obtain ⟨p, ob, xs, ds', rfl, h2, e, h3⟩ := hw.scr_of
        cases e
        refine .inl ⟨p, xs, rfl, .inl (.inr ⟨_, h2⟩), fun l hl => ?_⟩
        have xt : Ext H3 (upd H3 l (.lst (cutV xs i j))) := Ext.new hl
        refine q _ _ (st.trans (Stp.ext xt)) (S3.ext xt) (RV.rr (r := .fr _) S3 xt ⟨l, _, rfl, hl, upd_same, trivial, .lst ((cut_rp h3 i j).mono (fun a o e _ y => xt.k a o e y) fun a o e z => ?_)⟩) ⟨l, rfl, st.none S3 hl⟩
        rcases z with z | z
        · exact z
        · subst z; rw [hl] at e; cases e
      · cases e5
    · subst hY
      exact pe_slice (SlR.or sl_list sl_tupA) (pe_SE hX) (po_SO hX) (po_SO hX)

/-! ### calls of defs -/
@[simp] def evDs : List (SX G N) → Rho → Option (List D × Rho)
  | [], ρ => some ([], ρ)
  | x :: r, ρ => (x.evD ρ).bind fun p => (evDs r p.2).map fun s => (p.1 :: s.1, s.2)
def mtNs (sc : Scope) (cl : Str → Bool) : List (SX G N) → List Expr → Bool
  | [], [] => true
  | x :: xs, e :: es => (notStar e && x.mt sc cl e) && mtNs sc cl xs es
  | _, _ => false
theorem mtNs_all {sc : Scope} {cl : Str → Bool} : ∀ {xs : List (SX G N)} {es : List Expr}, mtNs sc cl xs es = true → es.all notStar = true
  | [], [], _ => rfl
  | x :: xs, e :: es, h => by
    obtain ⟨h1, h2⟩ := Bool.and_eq_true_iff.mp h
    rw [List.all_cons, (Bool.and_eq_true_iff.mp h1).1, mtNs_all h2]
    rfl
theorem ds_ok {k : Nat} {sc : Scope} {cl : Str → Bool} {C : Cx → Prop} (hC : ∀ X, C X → COk G k N sc cl X) : ∀ (xs : List (SX G N)) (es : List Expr), mtNs sc cl xs es = true → ∀ {σ : Sg} {H : Hp} {F : Addr → Prop} {ρ ρ' : Rho} {ds : List D}, RS σ H F ρ → evDs xs ρ = some (ds, ρ') →
    ∀ {Q : List V → Hp → Prop}, (∀ vs H', Stp σ H ρ H' ρ' → RS σ H' F ρ' → RpL H' (Av F σ ρ') vs ds → Q vs H') → SA C es σ H Q
  | [], es, m, σ, H, F, ρ, ρ', ds, S, ev, Q, q => by
    match es, m with
    | [], _ =>
      cases ev
      exact SA.of (t := tNil) (q [] H Stp.refl S .nil) fun X hX => pa_nil
  | x :: r, es, m, σ, H, F, ρ, ρ', ds, S, ev, Q, q => by
    match es, m with
    | e :: es, m =>
      obtain ⟨m1, m2⟩ := Bool.and_eq_true_iff.mp m
      obtain ⟨m0, m1⟩ := Bool.and_eq_true_iff.mp m1
      obtain ⟨⟨d, ρ1⟩, e1, ev⟩ := Option.bind_eq_some_iff.mp ev
      obtain ⟨⟨ds2, ρ2⟩, e2, ev⟩ := Option.map_eq_some_iff.mp ev
      cases ev
      refine SA.of (t := tCons (SE C e) (SA C es)) ?_ fun X hX => pa_cons (pe_SE hX) (pa_SA hX) (starEach_of m0)
      refine x.dat hC m1 S e1 fun v H1 s1 S1 r1 => ?_
      exact ds_ok hC r es m2 S1 e2 fun vs H2 s2 S2 r2 => q (v :: vs) H2 (s1.trans s2) S2 (.cons (r1.stp s2) r2)
def callM (j : Nat) (xs : List (SX G N)) (sc : Scope) (cl : Str → Bool) (e : Expr) : Bool := match e, G.fns[j]? with
    | .Call (.Name x _) (a :: as) [] _, some p => decide (p.1 = x) && (globB sc x && mtNs sc cl xs (a :: as))
    | _, _ => false
/-- f(a, ..), f the j-th of the defs, all its arguments data -/
def sCall (j : Nat) (xs : List (SX G N)) : SX G N where
  mt sc cl e := callM j xs sc cl e
  ev ρ := (G.fns[j]?).bind fun p => match p.2.nio with
    | true => none
    | false => (evDs xs ρ).bind fun q => (p.2.run q.1).map fun r => (r.1.r, q.2)
  ok k sc cl C hC e m σ H F ρ S r ρ' ev Q q := by
    dsimp only at ev
    obtain ⟨⟨x, f⟩, e1, ev⟩ := Option.bind_eq_some_iff.mp ev
    unfold callM at m
    rw [e1] at m
    split at m
    · rename_i x' px a as pos p' hp
      cases hp
      simp only [Bool.and_eq_true, decide_eq_true_eq, globB] at m
      obtain ⟨rfl, ⟨m2, m3⟩, m4⟩ := m
      dsimp only at ev m2 m3
      cases hn : f.nio with
      | true => rw [hn] at ev; cases ev
      | false =>
        rw [hn] at ev
        obtain ⟨⟨ds, ρ1⟩, e2, ev⟩ := Option.bind_eq_some_iff.mp ev
        obtain ⟨⟨rv, c'⟩, e3, ev⟩ := Option.map_eq_some_iff.mp ev
        cases ev
        dsimp only at q e3
        intro X hX
        obtain ⟨g, fd, ps, F1, F2, F3, F4⟩ := ((hC X hX).fns _ (List.mem_of_getElem? e1)).h
        have al := mtNs_all m4
        have al2 := al
        rw [List.all_cons, Bool.and_eq_true] at al2
        refine SE.of (C := fun Y => Y = X) (t := tCall (spOf f) [] E0 (SA C (a :: as))) ?_ (fun Y hY => ?_) X rfl
        · refine ds_ok hC xs (a :: as) m4 S e2 fun vs H1 s1 S1 r1 => ?_
          rw [List.append_nil]
          exact ⟨Av F σ ρ1, ds, rv, c', av_alloc S1, S1.tb, e3, r1.length, .inl ⟨hn, r1, fun v H2 xt hv => q v H2 (s1.trans (Stp.ext xt)) (S1.ext xt) (hv.rr S1 xt) (Frs.back S1 s1 hv.frs)⟩⟩
        · subst hY
          exact pe_callGd F1 (hC Y hX).room (hC Y hX).gd (by show Y.env.scope.names.lookup _ = _; rw [(hC Y hX).sc]; exact m2) F2 F3 F4 .nil pass0 (pa_SA hX) (okN_1 m3) (starEach_of al2.1) (noStars al2.2)
    · cases m
/-- f(xs, a, ..), f may change the list of the slot i, its first argument -/
def sCallI (j i : Nat) (xs : List (SX G N)) : SX G N where
  mt sc cl e := callM j (sVar i :: xs) sc cl e
  ev ρ := (G.fns[j]?).bind fun p => match p.2.nio with
    | false => none
    | true => match ρ[i]? with
      | some (.ow _) => (evDs xs ρ).bind fun q => match q.2[i]? with
        | some (.ow c) => (p.2.run (c :: q.1)).map fun r => (r.1.r, q.2.set i (.ow r.2))
        | _ => none
      | _ => none
  ok k sc cl C hC e m σ H F ρ S r ρ' ev Q q := by
    dsimp only at ev
    obtain ⟨⟨x, f⟩, e1, ev⟩ := Option.bind_eq_some_iff.mp ev
    unfold callM at m
    rw [e1] at m
    split at m
    · rename_i x' px a as pos p' hp
      cases hp
      simp only [Bool.and_eq_true, decide_eq_true_eq, globB] at m
      obtain ⟨rfl, ⟨m2, m3⟩, m4⟩ := m
      dsimp only at ev m2 m3
      cases hn : f.nio with
      | false => rw [hn] at ev; cases ev
      | true =>
        rw [hn] at ev
        dsimp only at ev
        split at ev
        · rename_i c0 h0
          obtain ⟨⟨ds, ρ1⟩, e2, ev⟩ := Option.bind_eq_some_iff.mp ev
          dsimp only at ev
          split at ev
          · rename_i c hc
            obtain ⟨⟨rv, c'⟩, e3, ev⟩ := Option.map_eq_some_iff.mp ev
            cases ev
            dsimp only at q e3
            intro X hX
            obtain ⟨g, fd, ps, F1, F2, F3, F4⟩ := ((hC X hX).fns _ (List.mem_of_getElem? e1)).h
            have al := mtNs_all m4
            have al2 := al
            rw [List.all_cons, Bool.and_eq_true] at al2
            obtain ⟨n1, n2⟩ := Bool.and_eq_true_iff.mp m4
            obtain ⟨n0, n1⟩ := Bool.and_eq_true_iff.mp n1
            refine SE.of (C := fun Y => Y = X) (t := tCall (spOf f) [] E0 (tCons (SE C a) (SA C as))) ?_ (fun Y hY => ?_) X rfl
            · refine (sVar i).ok k sc cl C hC a n1 σ H F ρ S (.bo i) ρ (by show (match ρ[i]? with | some (.va d) => some (R.v d, ρ) | some (.ow _) => some (R.bo i, ρ) | _ => none) = _; rw [h0]) _ fun v H1 s1 S1 h1 _ => ?_
              refine ds_ok hC xs as n2 S1 e2 fun vs H2 s2 S2 r2 => ?_
              show spOf f (v :: vs ++ []) H2 Q E0
              rw [List.append_nil]
              obtain ⟨p, o, g1, g2, g3, g4, g5⟩ := S2.ow i c hc
              obtain ⟨h1, _⟩ := h1
              rw [g1] at h1
              cases h1
              refine ⟨Av F σ ρ1, c :: ds, rv, c', av_alloc S2, S2.tb, e3, by rw [List.length_cons, List.length_cons, r2.length], .inr ⟨hn, p, o, c, vs, ds, rfl, rfl, g2, g3, .inr ⟨i, c, hc, g1⟩, g4, r2, fun v H3 kp io hv => ?_⟩⟩
              obtain ⟨S3, s3, rr⟩ := call_end S2 hc g1 kp io hv
              exact q v H3 ((s1.trans s2).trans s3) S3 rr (Frs.back S2 (s1.trans s2) hv.frs)
            · subst hY
              exact pe_callGd F1 (hC Y hX).room (hC Y hX).gd (by show Y.env.scope.names.lookup _ = _; rw [(hC Y hX).sc]; exact m2) F2 F3 F4 .nil pass0 (pa_cons (pe_SE hX) (pa_SA hX) (starEach_of al2.1)) (okN_1 m3) (starEach_of al2.1) (noStars al2.2)
          · cases ev
        · cases ev
    · cases m
end
end Ev
set_option Elab.async false
set_option linter.all false
set_option maxRecDepth 100000
set_option maxHeartbeats 2000000
/-! EvG: built-in functions, isinstance, methods of a slot's list -/
namespace Ev
open PySem L2
variable [Tbs]
section
variable {G : Gx} {N : List Str}
def RwL (H : Hp) (A : Addr → Prop) (vs : List V) (ds : List D) : Prop := Paired (Rw H A) vs ds
def HdL (σ : Sg) (H : Hp) (F : Addr → Prop) (ρ : Rho) (vs : List V) (rs : List R) : Prop := Paired (Hd σ H F ρ) vs rs
theorem HdL.stp {σ : Sg} {H H' : Hp} {ρ ρ' : Rho} {F : Addr → Prop} (s : Stp σ H ρ H' ρ') : ∀ {vs : List V} {rs : List R}, HdL σ H F ρ vs rs → HdL σ H' F ρ' vs rs
  | _, _, .nil => .nil
  | _, _, .cons r t => .cons (r.stp s) (HdL.stp s t)
@[simp] def peeks (ρ : Rho) : List R → Option (List D)
  | [] => some []
  | r :: rs => (peek ρ r).bind fun d => (peeks ρ rs).map fun ds => d :: ds
theorem HdL.peek {σ : Sg} {H : Hp} {F : Addr → Prop} {ρ : Rho} (S : RS σ H F ρ) : ∀ {vs : List V} {rs : List R} {ds : List D}, HdL σ H F ρ vs rs → peeks ρ rs = some ds → RwL H (Av F σ ρ) vs ds
  | _, _, _, .nil, e => by cases e; exact .nil
  | _, _, _, .cons r t, e => by
    obtain ⟨d, e1, e⟩ := Option.bind_eq_some_iff.mp e
    obtain ⟨ds, e2, e⟩ := Option.map_eq_some_iff.mp e
    cases e
    exact .cons (r.peek S e1) (HdL.peek S t e2)
@[simp] def evHs : List (SX G N) → Rho → Option (List R × Rho)
  | [], ρ => some ([], ρ)
  | x :: r, ρ => (x.evH ρ).bind fun p => (evHs r p.2).map fun s => (p.1 :: s.1, s.2)
theorem hs_ok {k : Nat} {sc : Scope} {cl : Str → Bool} {C : Cx → Prop} (hC : ∀ X, C X → COk G k N sc cl X) : ∀ (xs : List (SX G N)) (es : List Expr), mtNs sc cl xs es = true → ∀ {σ : Sg} {H : Hp} {F : Addr → Prop} {ρ ρ' : Rho} {rs : List R}, RS σ H F ρ → evHs xs ρ = some (rs, ρ') →
    ∀ {Q : List V → Hp → Prop}, (∀ vs H', Stp σ H ρ H' ρ' → RS σ H' F ρ' → HdL σ H' F ρ' vs rs → Q vs H') → SA C es σ H Q
  | [], es, m, σ, H, F, ρ, ρ', ds, S, ev, Q, q => by
    match es, m with
    | [], _ =>
      cases ev
      exact SA.of (t := tNil) (q [] H Stp.refl S .nil) fun X hX => pa_nil
  | x :: r, es, m, σ, H, F, ρ, ρ', ds, S, ev, Q, q => by
    match es, m with
    | e :: es, m =>
      obtain ⟨m1, m2⟩ := Bool.and_eq_true_iff.mp m
      obtain ⟨m0, m1⟩ := Bool.and_eq_true_iff.mp m1
      obtain ⟨⟨d, ρ1⟩, e1, ev⟩ := Option.bind_eq_some_iff.mp ev
      obtain ⟨⟨ds2, ρ2⟩, e2, ev⟩ := Option.map_eq_some_iff.mp ev
      cases ev
      refine SA.of (t := tCons (SE C e) (SA C es)) ?_ fun X hX => pa_cons (pe_SE hX) (pa_SA hX) (starEach_of m0)
      refine x.holdH hC m1 S e1 fun v H1 s1 S1 r1 => ?_
      exact hs_ok hC r es m2 S1 e2 fun vs H2 s2 S2 r2 => q (v :: vs) H2 (s1.trans s2) S2 (.cons (r1.stp s2) r2)
/-! ### built-in functions and types -/
def rDs (g : List D → Option Rv) : List V → Hp → VK → Prop := fun vs H Q => ∃ A ds r, (∀ a, A a → ∃ o, H a = some o) ∧ RwL H A vs ds ∧ g ds = some r ∧ ∀ v H', Ext H H' → RV H H' A v r → Q v H'
structure Blt where
  name : Str
  f : Value
  hv : bootBuiltins name = some f
  kind : (∃ id, f = .builtin id) ∨ ∃ T, f = .type T
  g : List D → Option Rv
  ok : ∀ X : Cx, X.calm = true → Room 0 X.A → X.A.guards = some [] → CallR X f (rDs g)
def bltM (nm : Str) (xs : List (SX G N)) (sc : Scope) (cl : Str → Bool) (e : Expr) : Bool := match e with
    | .Call (.Name x _) (a :: as) [] _ => (decide (x = nm) && decide (nm ∈ G.bl)) && (globB sc x && mtNs sc cl xs (a :: as))
    | _ => false
def sBlt (b : Blt) (xs : List (SX G N)) : SX G N where
  mt sc cl e := bltM b.name xs sc cl e
  ev ρ := (evHs xs ρ).bind fun p => (peeks p.2 p.1).bind fun ds => (b.g ds).map fun r => (r.r, p.2)
  ok k sc cl C hC e m σ H F ρ S r ρ' ev Q q := by
    dsimp only at ev
    unfold bltM at m
    split at m
    · rename_i x px a as pos
      simp only [Bool.and_eq_true, decide_eq_true_eq, globB] at m
      obtain ⟨⟨rfl, m1⟩, ⟨m2, m3⟩, m4⟩ := m
      obtain ⟨⟨rs, ρ1⟩, e1, ev⟩ := Option.bind_eq_some_iff.mp ev
      obtain ⟨ds, e2, ev⟩ := Option.bind_eq_some_iff.mp ev
      obtain ⟨rv, e3, ev⟩ := Option.map_eq_some_iff.mp ev
      cases ev
      dsimp only at q e2
      have al := mtNs_all m4
      rw [List.all_cons, Bool.and_eq_true] at al
      refine SE.of (t := tCB (rDs b.g) (SA C (a :: as))) ?_ fun X hX => ?_
      · refine hs_ok hC xs (a :: as) m4 S e1 fun vs H1 s1 S1 h1 => ?_
        exact ⟨Av F σ ρ1, ds, rv, av_alloc S1, h1.peek S1 e2, e3, fun v H2 xt hv => q v H2 (s1.trans (Stp.ext xt)) (S1.ext xt) (hv.rr S1 xt) (Frs.back S1 s1 hv.frs)⟩
      · have hg : Gl X b.name := by show X.env.scope.names.lookup _ = _; rw [(hC X hX).sc]; exact m2
        have cr := b.ok X (hC X hX).calm (hC X hX).room0 (hC X hX).gd
        have hv := b.hv
        rcases b.kind with ⟨id, hf⟩ | ⟨T, hf⟩
        · rw [hf] at cr hv
          exact pe_callB cr hg ((hC X hX).bl _ m1) hv (pa_SA hX) (okN_3 m3) (okN_1 m3) (starEach_of al.1) (noStars al.2)
        · rw [hf] at cr hv
          exact pe_callTy cr hg ((hC X hX).bl _ m1) hv (pa_SA hX) (okN_3 m3) (okN_1 m3) (starEach_of al.1) (noStars al.2)
    · cases m
/-! ### isinstance(x, T), T a built-in type -/
def tyOf : D → Option String
  | .none => some "NoneType"
  | .bool _ => some "bool"
  | .int _ => some "int"
  | .str _ => some "str"
  | .list _ => some "list"
  | .tuple _ => some "tuple"
  | .dict kvs => match isScr kvs with
    | true => some "list"
    | false => some "dict"
theorem ty_rp {H : Hp} {A : Addr → Prop} {v : V} {d : D} {t : String} {K : PySem.W.Frag} (r : Rw H A v d) (h : tyOf d = some t) : TyX K H v (.type t) := by
  cases d with
  | none => rw [r.non_of]; cases h; exact .base .non
  | bool b => rw [r.bl_of]; cases h; exact .base (.bl _)
  | int i => rw [r.int_of]; cases h; exact .base (.int _)
  | str s => rw [r.str_of]; cases h; exact .base (.str _)
  | list ds =>
    obtain ⟨a, xs, rfl, h1, _⟩ := r.list_of
    cases h
    exact .base (.lst h1)
  | tuple ds =>
    obtain ⟨a, xs, rfl, h1, _⟩ := r.tup_of
    cases h
    exact .base (.tup h1)
  | dict kvs =>
    have h : (match isScr kvs with
      | true => some "list"
      | false => some "dict") = some t := h
    cases hs : isScr kvs with
    | true =>
      rw [hs] at h
      cases h
      have key : ∀ {o : HO}, RpO H A o (.dict kvs) → ∃ ob xs, o = .frz ob (.lst xs) := fun q => by
        cases q with
        | dK r => rw [r.noScr] at hs; cases hs
        | scr r => exact ⟨_, _, rfl⟩
      cases r with
      | of r =>
        cases r with
        | ref n e q =>
          obtain ⟨ob, xs, rfl⟩ := key q
          exact .base (.frz e)
      | own e m q =>
        obtain ⟨ob, xs, rfl⟩ := key q
        exact m.elim
    | false =>
      rw [hs] at h
      cases h
      obtain ⟨a, vs, rfl, h1, _⟩ := r.dict_of hs
      exact .base (.dK h1)
theorem boot_isinstance : bootBuiltins ("isinstance" : Str) = some (.builtin "isinstance") := by decide +kernel
/-- isinstance's answer -/
def isiB (t : String) (T : String) : Option Bool := match T with
  | "int" => some (t == "int" || t == "bool")
  | "bool" => some (t == "bool")
  | "tuple" => some (t == "tuple")
  | "str" => some (t == "str")
  | "list" => some (t == "list")
  | _ => none
def tys : List String := ["NoneType", "bool", "int", "str", "list", "tuple", "dict"]
theorem tyOf_tys {d : D} {t : String} (h : tyOf d = some t) : t ∈ tys := by
  cases d with
  | dict kvs =>
    have h : (match isScr kvs with
      | true => some "list"
      | false => some "dict") = some t := h
    cases hs : isScr kvs <;> (rw [hs] at h; cases h; decide)
  | _ => cases h; decide
theorem isi_int : ∀ t ∈ tys, kitB t "int" = some (t == "int" || t == "bool") := by decide +kernel
theorem isi_bool : ∀ t ∈ tys, kitB t "bool" = some (t == "bool") := by decide +kernel
theorem isi_tuple : ∀ t ∈ tys, kitB t "tuple" = some (t == "tuple") := by decide +kernel
theorem isi_str : ∀ t ∈ tys, kitB t "str" = some (t == "str") := by decide +kernel
theorem isi_list : ∀ t ∈ tys, kitB t "list" = some (t == "list") := by decide +kernel
theorem isi_ok {t T : String} {b : Bool} (ht : t ∈ tys) (h : isiB t T = some b) : kitB t T = some b := by
  unfold isiB at h
  split at h
  · cases h; exact isi_int t ht
  · cases h; exact isi_bool t ht
  · cases h; exact isi_tuple t ht
  · cases h; exact isi_str t ht
  · cases h; exact isi_list t ht
  · cases h
/-- the types by name -/
inductive Tn where
  | int | bool | tuple | str | list
def Tn.s : Tn → String
  | .int => "int"
  | .bool => "bool"
  | .tuple => "tuple"
  | .str => "str"
  | .list => "list"
def Tn.n : Tn → Str
  | .int => "int"
  | .bool => "bool"
  | .tuple => "tuple"
  | .str => "str"
  | .list => "list"
theorem Tn.boot (T : Tn) : bootBuiltins T.n = some (.type T.s) := by
  cases T <;> decide +kernel
@[simp] def isiD : D → Tn → Bool
  | .int _, .int => true
  | .bool _, .int => true
  | .bool _, .bool => true
  | .tuple _, .tuple => true
  | .str _, .str => true
  | .list _, .list => true
  | .dict kvs, .list => isScr kvs
  | _, _ => false
theorem isiD_ok (d : D) (T : Tn) : ∃ t, tyOf d = some t ∧ isiB t T.s = some (isiD d T) := by
  cases d with
  | dict kvs =>
    cases hs : isScr kvs with
    | true => exact ⟨"list", by show (match isScr kvs with | true => some "list" | false => some "dict") = _; rw [hs], by cases T <;> first | rfl | (show _ = some (isScr kvs); rw [hs]; rfl)⟩
    | false => exact ⟨"dict", by show (match isScr kvs with | true => some "list" | false => some "dict") = _; rw [hs], by cases T <;> first | rfl | (show _ = some (isScr kvs); rw [hs]; rfl)⟩
  | _ => exact ⟨_, rfl, by cases T <;> rfl⟩
def isiM (x : SX G N) (T : Tn) (sc : Scope) (cl : Str → Bool) (e : Expr) : Bool := match e with
  | .Call (.Name f _) [a, .Name t _] [] _ => (decide (f = "isinstance") && (decide (t = T.n) && (decide (f ∈ G.bl) && decide (t ∈ G.bl)))) && ((globB sc f && globB sc t) && (notStar a && x.mt sc cl a))
  | _ => false
def sIsi (x : SX G N) (T : Tn) : SX G N where
  mt sc cl e := isiM x T sc cl e
  ev ρ := (x.evH ρ).bind fun p => (peek p.2 p.1).map fun d => (.v (.bool (isiD d T)), p.2)
  ok k sc cl C hC e m σ H F ρ S r ρ' ev Q q := by
    dsimp only at ev
    unfold isiM at m
    split at m
    · rename_i f pf a t pt pos
      simp only [Bool.and_eq_true, decide_eq_true_eq, globB] at m
      obtain ⟨⟨rfl, rfl, m1, m2⟩, ⟨⟨m3, m4⟩, m5, m6⟩, m7, m8⟩ := m
      obtain ⟨⟨r1, ρ1⟩, e1, ev⟩ := Option.bind_eq_some_iff.mp ev
      obtain ⟨d, e2, ev⟩ := Option.map_eq_some_iff.mp ev
      cases ev
      dsimp only at e2 q
      intro X hX
      refine SE.of (C := fun Y => Y = X) (t := tCB (rIsi X.K) (tCons (SE C a) (tCons (tC (.ty T.s)) tNil))) ?_ (fun Y hY => ?_) X rfl
      · refine x.holdH hC m8 S e1 fun v H1 s1 S1 h1 => ?_
        obtain ⟨t, h2, h3⟩ := isiD_ok d T
        exact ⟨v, .ty T.s, .type t, .type T.s, isiD d T, rfl, .ty _, ty_rp (h1.peek S1 e2) h2, kit_ty (isi_ok (tyOf_tys h2) h3), q _ H1 s1 S1 (.bl _) trivial⟩
      · subst hY
        have hg : ∀ y, sc.names.lookup y = some .globalImplicit → Gl Y y := fun y hy => by
          show Y.env.scope.names.lookup _ = _
          rw [(hC Y hX).sc]
          exact hy
        exact pe_callB call_isi (hg _ m3) ((hC Y hX).bl _ m1) boot_isinstance (pa_cons (pe_SE hX) (pa_cons (pe_bltn (hg _ m5) ((hC Y hX).bl _ m2) T.boot rfl (okN_3 m6) (okN_1 m6)) pa_nil rfl) (starEach_of m7)) (okN_3 m4) (okN_1 m4) (starEach_of m7) rfl
    · cases m
end
end Ev
set_option Elab.async false
set_option linter.all false
set_option maxRecDepth 100000
set_option maxHeartbeats 2000000
/-! EvH: methods of a slot's list -/
namespace Ev
open PySem L2
variable [Tbs]
theorem few1 {a : Expr} {env : Env} {cpos : Pos} (h : notStar a = true) : ((backTo cpos (starEach [a] env)).all (fun x => !x.1) && (backToKw cpos (keywordEach [] env)).all (fun x => x.1.isSome)
      && decide ([a].length + ([] : List Keyword).length + (if ([] : List Keyword).isEmpty then 0 else 1) < 30)) = true := by
  rw [starEach_of h]
  rfl
def rM1 (g : List D → D → Option (D × List D)) : V → List V → Hp → VK → Prop := fun x vs H Q => ∃ (l : Addr) (xs : List V) (w : V) (A : Addr → Prop) (ds : List D) (y d : D) (ds' : List D), x = .ref l ∧ vs = [w] ∧ H l = some (.lst xs) ∧ A l ∧ RpL H A xs ds ∧ Rp H A w y ∧ small ds.length = true ∧ small ds'.length = true ∧
  g ds y = some (d, ds') ∧ ∀ v xs', RpL H A xs' ds' → Rp H A v d → Q v (upd H l (.lst xs'))
def rM0 (g : List D → Option (D × List D)) : V → List V → Hp → VK → Prop := fun x vs H Q => ∃ (l : Addr) (xs : List V) (A : Addr → Prop) (ds : List D) (d : D) (ds' : List D), x = .ref l ∧ vs = [] ∧ H l = some (.lst xs) ∧ A l ∧ RpL H A xs ds ∧ small ds.length = true ∧ small ds'.length = true ∧
  g ds = some (d, ds') ∧ ∀ v xs', RpL H A xs' ds' → Rp H A v d → Q v (upd H l (.lst xs'))
/-- a method of a list -/
structure Mt1 where
  name : Str
  id : String
  slot : PySem.Slot "list" name id
  hty : typeOf (.builtin id) = pure (.type "method_descriptor")
  g : List D → D → Option (D × List D)
  ok : ∀ X : Cx, X.calm = true → Room 0 X.A → MtR X id (rM1 g)
structure Mt0 where
  name : Str
  id : String
  slot : PySem.Slot "list" name id
  hty : typeOf (.builtin id) = pure (.type "method_descriptor")
  g : List D → Option (D × List D)
  ok : ∀ X : Cx, X.calm = true → Room 0 X.A → MtR X id (rM0 g)
theorem small_sz {n : Nat} (h : small n = true) : n < sizeLine := Nat.lt_of_le_of_lt (of_decide_eq_true h) (by decide)
theorem MtR.imp {X : Cx} {id : String} {r r' : V → List V → Hp → VK → Prop} (h : MtR X id r) (i : ∀ x xs H Q, r' x xs H Q → r x xs H Q) : MtR X id r' := fun pins s σ H x xs v us Q I rx rs q => h pins s σ H x xs v us Q I rx rs (i _ _ _ _ q)
def mAppend : Mt1 where
  name := "append"
  id := "list.append"
  slot := PySem.F.slot_list_append
  hty := PySem.F.type_list_append
  g ds y := some (.none, ds ++ [y])
  ok X _ _ := MtR.imp mt_append fun x vs H Q ⟨l, xs, w, A, ds, y, d, ds', h1, h2, h3, h4, h5, h6, h7, h8, h9, h10⟩ => by
    cases h9
    exact ⟨l, xs, w, h1, h2, h3, by rw [h5.length]; exact small_sz h7, h10 .non _ (h5.append (.cons h6 .nil)) .non⟩
def mExtend : Mt1 where
  name := "extend"
  id := "list.extend"
  slot := PySem.F.slot_list_extend
  hty := PySem.F.type_list_extend
  g ds y := match y with
    | .list es => some (.none, ds ++ es)
    | _ => none
  ok X _ _ := MtR.imp mt_extend fun x vs H Q ⟨l, xs, w, A, ds, y, d, ds', h1, h2, h3, h4, h5, h6, h7, h8, h9, h10⟩ => by
    dsimp only at h9
    split at h9
    · cases h9
      obtain ⟨b, zs, rfl, g1, _, g2⟩ := h6.list_of
      refine ⟨l, b, xs, zs, h1, h2, h3, g1, ?_, h10 .non _ (h5.append g2) .non⟩
      have := small_ok h8
      rw [List.length_append] at this
      rw [h5.length, g2.length]
      exact this
    · cases h9
def mPopAt : Mt1 where
  name := "pop"
  id := "list.pop"
  slot := PySem.F.slot_list_pop
  hty := PySem.F.type_list_pop
  g ds y := match y with
    | .int i => if 0 ≤ i then (ds[i.toNat]?).map fun d => (d, ds.eraseIdx i.toNat) else none
    | _ => none
  ok X _ _ := MtR.imp mt_popAt fun x vs H Q ⟨l, xs, w, A, ds, y, d, ds', h1, h2, h3, h4, h5, h6, h7, h8, h9, h10⟩ => by
    dsimp only at h9
    split at h9
    · rename_i i
      split at h9
      · rename_i hi
        obtain ⟨d0, g1, g2⟩ := Option.map_eq_some_iff.mp h9
        cases g2
        obtain ⟨u, g3, g4⟩ := h5.get g1
        have hl : i.toNat < xs.length := (List.getElem?_eq_some_iff.mp g3).1
        have hz := small_sz h7
        have hz2 : (sizeLine : Nat) < 2 ^ 63 := line63
        rw [← h5.length] at hz
        have hix : seqIndex? i xs.length = some i.toNat := (ixN_seq (n := xs.length) (i := i) (j := i.toNat) (by unfold ixN; rw [if_pos hi, if_pos (by omega)])).1
        refine ⟨l, xs, i, i.toNat, u, h1, by rw [h2, h6.int_of], h3, by omega, by omega, hix, g3, h10 _ _ (h5.eraseIdx _) g4⟩
      · cases h9
    · cases h9
def mPop : Mt0 where
  name := "pop"
  id := "list.pop"
  slot := PySem.F.slot_list_pop
  hty := PySem.F.type_list_pop
  g ds := (ds[ds.length - 1]?).map fun d => (d, ds.dropLast)
  ok X _ _ := MtR.imp mt_pop fun x vs H Q ⟨l, xs, A, ds, d, ds', h1, h2, h3, h4, h5, h7, h8, h9, h10⟩ => by
    obtain ⟨d0, g1, g2⟩ := Option.map_eq_some_iff.mp h9
    cases g2
    obtain ⟨u, g3, g4⟩ := h5.get g1
    exact ⟨l, xs, u, h1, h2, h3, by rw [h5.length]; exact g3, h10 _ _ h5.dropLast g4⟩
section
variable {G : Gx} {N : List Str}
theorem upd_kp {H : Hp} {l : Addr} {o : HO} : Kp (fun a => a = l) H (upd H l o) := fun a u e n _ => by
  rw [upd_ne n]
  exact e
theorem upd_extP {H : Hp} {l : Addr} {o o0 : HO} (h : H l = some o0) (m : mutO o0) : ExtP l H (upd H l o) := by
  refine ⟨upd_kp, fun a u e => ?_, fun t p hp => ?_⟩
  · by_cases z : a = l
    · subst z; exact ⟨o, upd_same⟩
    · exact ⟨u, by rw [upd_ne z]; exact e⟩
  · obtain ⟨ps, h1, h2, h3⟩ := t p hp
    have ne : ∀ {a : Addr} {u : HO}, H a = some u → ¬ mutO u → a ≠ l := fun e n z => by
      subst z
      rw [h] at e
      cases e
      exact n m
    refine ⟨ps, by rw [upd_ne (ne h1 fun z => z)]; exact h1, h2, fun pos cv hc => ?_⟩
    obtain ⟨c, e1, e2⟩ := h3 pos cv hc
    exact ⟨c, e1, by rw [upd_ne (ne e2 fun z => z)]; exact e2⟩
/-- the end of a method of a slot's list -/
theorem m_end {σ : Sg} {H : Hp} {F : Addr → Prop} {ρ : Rho} {i : Nat} {c : D} {p : Addr} {xs' : List V} {ds' : List D} {v : V} {d : D} (S : RS σ H F ρ) (e : ρ[i]? = some (.ow c)) (hp : σ[i]? = some (some (.ref p)))
    (h1 : RpL H (Av F σ ρ) xs' ds') (h2 : Rp H (Av F σ ρ) v d) : RS σ (upd H p (.lst xs')) F (ρ.set i (.ow (.list ds'))) ∧ Stp σ H ρ (upd H p (.lst xs')) (ρ.set i (.ow (.list ds'))) ∧ Rp (upd H p (.lst xs')) (Av F σ (ρ.set i (.ow (.list ds')))) v d := by
  have pa : Av F σ ρ p := .inr ⟨i, c, e, hp⟩
  have k : Kp (Av F σ ρ) H (upd H p (.lst xs')) := fun a o e2 n _ => by
    rw [upd_ne (fun z => n (by subst z; exact pa))]
    exact e2
  obtain ⟨p2, o2, k1, k2, k3, _⟩ := S.ow i c e
  rw [hp] at k1
  cases k1
  obtain ⟨S', st⟩ := own_set (F' := F) (c' := .list ds') S e hp (upd_extP k2 k3) upd_same (show mutO (.lst xs') from trivial) (.lst (h1.mono k fun _ _ _ z => z)) fun a z => .inl z
  exact ⟨S', st, h2.mono k fun a _ _ => st.av a⟩
def m1M (nm : Str) (i : Nat) (x : SX G N) (sc : Scope) (cl : Str → Bool) (e : Expr) : Bool := match e with
  | .Call (.Attribute o n apos) [a] [] cpos => (decide (n = nm) && decide ((apos.endLine == cpos.line) = true)) && ((sVar (G := G) (N := N) i).mt sc cl o && (notStar a && x.mt sc cl a))
  | _ => false
theorem var_base {i : Nat} {sc : Scope} {cl : Str → Bool} {o : Expr} (h : (sVar (G := G) (N := N) i).mt sc cl o = true) (n : Str) (env : Env) : attributeBase o n env (eval o env) = eval o env := by
  cases o <;> first | rfl | cases h
def sM1 (m : Mt1) (i : Nat) (x : SX G N) : SX G N where
  mt sc cl e := m1M m.name i x sc cl e
  ev ρ := match ρ[i]? with
    | some (.ow (.list _)) => (x.evD ρ).bind fun p => match p.2[i]? with
      | some (.ow (.list ds)) => match small ds.length with
        | true => (m.g ds p.1).bind fun r => match small r.2.length with
          | true => some (.v r.1, p.2.set i (.ow (.list r.2)))
          | false => none
        | false => none
      | _ => none
    | _ => none
  ok k sc cl C hC e mm σ H F ρ S r ρ' ev Q q := by
    dsimp only at ev
    unfold m1M at mm
    split at mm
    · rename_i o n apos a cpos
      simp only [Bool.and_eq_true, decide_eq_true_eq] at mm
      obtain ⟨⟨rfl, m1⟩, m2, m3, m4⟩ := mm
      split at ev
      · rename_i ds0 h0
        obtain ⟨⟨d, ρ1⟩, e1, ev⟩ := Option.bind_eq_some_iff.mp ev
        dsimp only at ev
        split at ev
        · rename_i ds h1
          split at ev
          · rename_i hs
            obtain ⟨⟨d2, ds2⟩, e2, ev⟩ := Option.bind_eq_some_iff.mp ev
            dsimp only at ev
            split at ev
            · rename_i hs2
              cases ev
              intro X hX
              refine SE.of (C := fun Y => Y = X) (t := tBM X.K "list" (rM1 m.g) (SE C o) (tCons (SE C a) tNil)) ?_ (fun Y hY => ?_) X rfl
              · refine (sVar i).ok k sc cl C hC o m2 σ H F ρ S (.bo i) ρ (by show (match ρ[i]? with | some (.va d) => some (R.v d, ρ) | some (.ow _) => some (R.bo i, ρ) | _ => none) = _; rw [h0]) _ fun v H1 s1 S1 hv _ => ?_
                obtain ⟨hv, _⟩ := hv
                obtain ⟨p, ob, g1, g2, g3, g4, g5⟩ := S1.ow i _ h0
                rw [hv] at g1
                cases g1
                cases g4 with
                | lst g4 =>
                  refine ⟨.inl ⟨rfl, _, .inl (.inl g2)⟩, ?_⟩
                  refine x.dat hC m4 S1 e1 fun w H2 s2 S2 r2 => ?_
                  obtain ⟨p', ob', k1, k2, k3, k4, k5⟩ := S2.ow i _ h1
                  rw [hv] at k1
                  cases k1
                  cases k4 with
                  | lst k4 =>
                    refine ⟨p, _, w, Av F σ ρ1, ds, d, d2, ds2, rfl, rfl, k2, .inr ⟨i, _, h1, hv⟩, k4, r2, hs, hs2, e2, fun u xs' z1 z2 => ?_⟩
                    obtain ⟨S3, s3, r3⟩ := m_end S2 h1 hv z1 z2
                    exact q u _ ((s1.trans s2).trans s3) S3 r3 trivial
              · subst hY
                exact pe_bm PySem.F.plainAttrs_list m.slot m.hty (m.ok Y (hC Y hX).calm (hC Y hX).room0) (pe_SE hX) (pa_cons (pe_SE hX) pa_nil (starEach_of m3)) (var_base m2 _ _) (few1 m3) m1 (starEach_of m3) rfl
            · cases ev
          · cases ev
        · cases ev
      · cases ev
    · cases mm
def m0M (nm : Str) (i : Nat) (sc : Scope) (cl : Str → Bool) (e : Expr) : Bool := match e with
  | .Call (.Attribute o n apos) [] [] cpos => (decide (n = nm) && decide ((apos.endLine == cpos.line) = true)) && (sVar (G := G) (N := N) i).mt sc cl o
  | _ => false
def sM0 (m : Mt0) (i : Nat) : SX G N where
  mt sc cl e := m0M (G := G) (N := N) m.name i sc cl e
  ev ρ := match ρ[i]? with
    | some (.ow (.list ds)) => match small ds.length with
        | true => (m.g ds).bind fun r => match small r.2.length with
          | true => some (.v r.1, ρ.set i (.ow (.list r.2)))
          | false => none
        | false => none
    | _ => none
  ok k sc cl C hC e mm σ H F ρ S r ρ' ev Q q := by
    dsimp only at ev
    unfold m0M at mm
    split at mm
    · rename_i o n apos cpos
      simp only [Bool.and_eq_true, decide_eq_true_eq] at mm
      obtain ⟨⟨rfl, m1⟩, m2⟩ := mm
      split at ev
      · rename_i ds h0
        split at ev
        · rename_i hs
          obtain ⟨⟨d2, ds2⟩, e2, ev⟩ := Option.bind_eq_some_iff.mp ev
          dsimp only at ev
          split at ev
          · rename_i hs2
            cases ev
            intro X hX
            refine SE.of (C := fun Y => Y = X) (t := tBM0 X.K "list" (rM0 m.g) (SE C o)) ?_ (fun Y hY => ?_) X rfl
            · refine (sVar i).ok k sc cl C hC o m2 σ H F ρ S (.bo i) ρ (by show (match ρ[i]? with | some (.va d) => some (R.v d, ρ) | some (.ow _) => some (R.bo i, ρ) | _ => none) = _; rw [h0]) _ fun v H1 s1 S1 hv _ => ?_
              obtain ⟨hv, _⟩ := hv
              obtain ⟨p, ob, g1, g2, g3, g4, g5⟩ := S1.ow i _ h0
              rw [hv] at g1
              cases g1
              cases g4 with
              | lst g4 =>
                refine ⟨.inl ⟨rfl, _, .inl (.inl g2)⟩, ?_⟩
                refine ⟨p, _, Av F σ ρ, ds, d2, ds2, rfl, rfl, g2, .inr ⟨i, _, h0, hv⟩, g4, hs, hs2, e2, fun u xs' z1 z2 => ?_⟩
                obtain ⟨S3, s3, r3⟩ := m_end S1 h0 hv z1 z2
                exact q u _ (s1.trans s3) S3 r3 trivial
            · subst hY
              exact pe_bm0 PySem.F.plainAttrs_list m.slot m.hty (m.ok Y (hC Y hX).calm (hC Y hX).room0) (pe_SE hX) (var_base m2 _ _) m1
          · cases ev
        · cases ev
      · cases ev
    · cases mm
end
end Ev
set_option Elab.async false
set_option linter.all false
set_option maxRecDepth 100000
set_option maxHeartbeats 2000000
/-! EvI: targets, what is walked, comprehensions -/
namespace Ev
open PySem L2
variable [Tbs]
/-! ### targets -/
def SG (C : Cx → Prop) (e : Expr) : TG := fun v σ H Q => ∀ X, C X → ∀ pins s u, Inv X pins σ H s → RelV v u → wpAny (model X.prog X.w) X.A (assign e X.env u) (fun _ s' => ∃ σ' H', Inv X pins σ' H' s' ∧ Q σ' H') X.xe s
theorem pg_SG {C : Cx → Prop} {X : Cx} (h : C X) {e : Expr} : PG X e (SG C e) := ⟨fun pins s σ H v u Q I r q => q X h pins s u I r⟩
theorem SG.of {C : Cx → Prop} {e : Expr} {v : V} {σ : Sg} {H : Hp} {Q : Sg → Hp → Prop} {t : TG} (h : t v σ H Q) (p : ∀ X, C X → PG X e t) : SG C e v σ H Q := fun X hX pins s u I r => (p X hX).run pins s σ H v u Q I r h
def SGs (C : Cx → Prop) (es : List Expr) : TGs := fun vs σ H Q => ∀ X, C X → ∀ pins s us, Inv X pins σ H s → Vals vs us → wpAny (model X.prog X.w) X.A (assignInOrder ((assignEach es X.env).map (·.2)) us) (fun _ s' => ∃ σ' H', Inv X pins σ' H' s' ∧ Q σ' H') X.xe s
theorem pgs_SGs {C : Cx → Prop} {X : Cx} (h : C X) {e : List Expr} : PGs X e (SGs C e) := ⟨fun pins s σ H v u Q I r q => q X h pins s u I r⟩
theorem SGs.of {C : Cx → Prop} {e : List Expr} {v : List V} {σ : Sg} {H : Hp} {Q : Sg → Hp → Prop} {t : TGs} (h : t v σ H Q) (p : ∀ X, C X → PGs X e t) : SGs C e v σ H Q := fun X hX pins s u I r => (p X hX).run pins s σ H v u Q I r h
/-- what a target's store leaves -/
structure TgS (slots : List Nat) (σ : Sg) (ρ : Rho) (σ' : Sg) (ρ' : Rho) : Prop where
  out : ∀ (i : Nat), i ∉ slots → σ'[i]? = σ[i]? ∧ ρ'[i]? = ρ[i]?
  own : ∀ a, ownA σ' ρ' a → ownA σ ρ a
  len : ρ'.length = ρ.length
theorem TgS.mono {s t : List Nat} {σ σ' : Sg} {ρ ρ' : Rho} (h : TgS s σ ρ σ' ρ') (i : ∀ x ∈ s, x ∈ t) : TgS t σ ρ σ' ρ' := ⟨fun j n => h.out j fun z => n (i j z), h.own, h.len⟩
theorem TgS.trans {s : List Nat} {σ σ1 σ2 : Sg} {ρ ρ1 ρ2 : Rho} (h : TgS s σ ρ σ1 ρ1) (g : TgS s σ1 ρ1 σ2 ρ2) : TgS s σ ρ σ2 ρ2 :=
  ⟨fun j n => ⟨(g.out j n).1.trans (h.out j n).1, (g.out j n).2.trans (h.out j n).2⟩, fun a z => h.own a (g.own a z), g.len.trans h.len⟩
def locB (sc : Scope) (cl : Str → Bool) (x : Str) : Bool := match sc.names.lookup x with
  | some .local => true
  | some .cell => cl x
  | _ => false
theorem locB_ok {sc : Scope} {cl : Str → Bool} {x : Str} (h : locB sc cl x = true) : L2.Loc sc x ∧ (cl x = true ∨ sc.names.lookup x = some .local) := by
  unfold locB at h
  unfold L2.Loc
  split at h
  · rename_i e; exact ⟨.inl e, .inr e⟩
  · rename_i e; exact ⟨.inr e, .inl h⟩
  · cases h
section
variable {G : Gx} {N : List Str}
structure STg (G : Gx) (N : List Str) where
  slots : List Nat
  mt : Mt
  st : D → Rho → Option Rho
  ok : ∀ (k : Nat) (sc : Scope) (cl : Str → Bool) (C : Cx → Prop), (∀ X, C X → COk G k N sc cl X) → ∀ e, mt sc cl e = true → ∀ (σ : Sg) (H : Hp) (F : Addr → Prop) (ρ : Rho) (v : V) (d : D) (ρ' : Rho), RS σ H F ρ → Rp H (Av F σ ρ) v d → st d ρ = some ρ' →
    ∀ Q : Sg → Hp → Prop, (∀ σ', RS σ' H F ρ' → TgS slots σ ρ σ' ρ' → Q σ' H) → SG C e v σ H Q
/-- data into a slot -/
theorem put_va {σ : Sg} {H : Hp} {F : Addr → Prop} {ρ : Rho} {i : Nat} {v : V} {d : D} (S : RS σ H F ρ) (hi : i < ρ.length) (r : Rp H (Av F σ ρ) v d) : RS (σ.set i (some v)) H F (ρ.set i (.va d)) ∧ TgS [i] σ ρ (σ.set i (some v)) (ρ.set i (.va d)) := by
  have hs : i < σ.length := by rw [S.len]; exact hi
  have gs : ∀ j : Nat, (σ.set i (some v))[j]? = if i = j then some (some v) else σ[j]? := fun j => by
    by_cases e : i = j
    · subst e; rw [List.getElem?_set_self hs, if_pos rfl]
    · rw [List.getElem?_set_ne e, if_neg e]
  have own : ∀ a, ownA (σ.set i (some v)) (ρ.set i (.va d)) a → ownA σ ρ a := fun a ⟨j, c, h1, h2⟩ => by
    rw [setGet hi] at h1
    rw [gs] at h2
    by_cases e : i = j
    · rw [if_pos e] at h1; cases h1
    · rw [if_neg e] at h1 h2
      exact ⟨j, c, h1, h2⟩
  have im : ∀ a (o : HO), H a = some o → Av F (σ.set i (some v)) (ρ.set i (.va d)) a → Av F σ ρ a := fun a _ _ z => z.imp id (own a)
  refine ⟨⟨by rw [List.length_set, List.length_set]; exact S.len, fun j d2 e => ?_, fun j c e => ?_, fun j l c c' p h1 h2 h3 h4 => ?_, S.fd, S.tb⟩, fun j n => ?_, own, List.length_set⟩
  · rw [setGet hi] at e
    rw [gs]
    by_cases z : i = j
    · rw [if_pos z] at e ⊢
      cases e
      exact ⟨v, rfl, r.mono (fun _ _ e _ _ => e) im⟩
    · rw [if_neg z] at e ⊢
      obtain ⟨w, h1, h2⟩ := S.va j d2 e
      exact ⟨w, h1, h2.mono (fun _ _ e _ _ => e) im⟩
  · rw [setGet hi] at e
    rw [gs]
    by_cases z : i = j
    · rw [if_pos z] at e; cases e
    · rw [if_neg z] at e ⊢
      obtain ⟨p, o, h1, h2, h3, h4, h5⟩ := S.ow j c e
      exact ⟨p, o, h1, h2, h3, h4.mono (fun _ _ e _ _ => e) im, h5⟩
  · rw [setGet hi] at h1 h2
    rw [gs] at h3 h4
    by_cases z : i = j
    · rw [if_pos z] at h1; cases h1
    · by_cases y : i = l
      · rw [if_pos y] at h2; cases h2
      · rw [if_neg z] at h1 h3
        rw [if_neg y] at h2 h4
        exact S.dj j l c c' p h1 h2 h3 h4
  · have z : i ≠ j := fun e => n (by subst e; simp)
    rw [gs, if_neg z, setGet hi, if_neg z]
    exact ⟨rfl, rfl⟩
def gNm (i : Nat) : STg G N where
  slots := [i]
  mt sc cl e := match e with
    | .Name x _ => decide (N[i]? = some x) && locB sc cl x
    | _ => false
  st d ρ := if i < ρ.length then some (ρ.set i (.va d)) else none
  ok k sc cl C hC e m σ H F ρ v d ρ' S r ev Q q := by
    try dsimp only at ev
    cases e <;> first | (cases m; done) | skip
    rename_i x pos
    simp only [Bool.and_eq_true, decide_eq_true_eq] at m
    obtain ⟨m1, m2⟩ := m
    split at ev
    · rename_i hi
      cases ev
      obtain ⟨S', t⟩ := put_va S hi r
      obtain ⟨l1, l2⟩ := locB_ok m2
      refine SG.of (t := gName i) (q _ S' t) fun X hX => pg_name (by rw [(hC X hX).nm]; exact (hC X hX).nd) (by rw [(hC X hX).nm]; exact m1) (by rw [(hC X hX).sc]; exact l1) ?_
      rcases l2 with z | z
      · exact .inl ((hC X hX).cl x z)
      · exact .inr (by rw [(hC X hX).sc]; exact z)
    · cases ev
theorem asgEach_of {e : Expr} {es : List Expr} {env : Env} (h : notStar e = true) : assignEach (e :: es) env = (false, assign e env) :: assignEach es env := by
  cases e <;> first | rfl | cases h
theorem asgEach_len {env : Env} : ∀ {es : List Expr}, es.all notStar = true → (assignEach es env).length = es.length ∧ (assignEach es env).findIdx? (·.1) = none
  | [], _ => ⟨rfl, rfl⟩
  | e :: es, h => by
    rw [List.all_cons, Bool.and_eq_true] at h
    rw [asgEach_of h.1]
    obtain ⟨h1, h2⟩ := asgEach_len (env := env) h.2
    exact ⟨by rw [List.length_cons, List.length_cons, h1], by rw [List.findIdx?_cons, h2]; rfl⟩
def gsMt (sc : Scope) (cl : Str → Bool) : List (STg G N) → List Expr → Bool
  | [], [] => true
  | t :: ts, e :: es => (notStar e && t.mt sc cl e) && gsMt sc cl ts es
  | _, _ => false
theorem gsMt_all {sc : Scope} {cl : Str → Bool} : ∀ {xs : List (STg G N)} {es : List Expr}, gsMt sc cl xs es = true → es.all notStar = true
  | [], [], _ => rfl
  | x :: xs, e :: es, h => by
    obtain ⟨h1, h2⟩ := Bool.and_eq_true_iff.mp h
    rw [List.all_cons, (Bool.and_eq_true_iff.mp h1).1, gsMt_all h2]
    rfl
theorem gsMt_len {sc : Scope} {cl : Str → Bool} : ∀ {xs : List (STg G N)} {es : List Expr}, gsMt sc cl xs es = true → es.length = xs.length
  | [], [], _ => rfl
  | x :: xs, e :: es, h => by
    rw [List.length_cons, List.length_cons, gsMt_len (Bool.and_eq_true_iff.mp h).2]
@[simp] def gsSt : List (STg G N) → List D → Rho → Option Rho
  | [], [], ρ => some ρ
  | t :: ts, d :: ds, ρ => (t.st d ρ).bind fun ρ1 => gsSt ts ds ρ1
  | _, _, _ => none
theorem gsSt_len : ∀ {ts : List (STg G N)} {ds : List D} {ρ ρ' : Rho}, gsSt ts ds ρ = some ρ' → ds.length = ts.length
  | [], [], _, _, _ => rfl
  | t :: ts, d :: ds, ρ, ρ', h => by
    obtain ⟨ρ1, _, h2⟩ := Option.bind_eq_some_iff.mp h
    rw [List.length_cons, List.length_cons, gsSt_len h2]
def gsSlots (ts : List (STg G N)) : List Nat := ts.flatMap STg.slots
theorem gs_ok {k : Nat} {sc : Scope} {cl : Str → Bool} {C : Cx → Prop} (hC : ∀ X, C X → COk G k N sc cl X) : ∀ (ts : List (STg G N)) (es : List Expr), gsMt sc cl ts es = true → ∀ {σ : Sg} {H : Hp} {F : Addr → Prop} {ρ ρ' : Rho} {vs : List V} {ds : List D}, RS σ H F ρ → RpL H (Av F σ ρ) vs ds → gsSt ts ds ρ = some ρ' →
    ∀ {Q : Sg → Hp → Prop}, (∀ σ', RS σ' H F ρ' → TgS (gsSlots ts) σ ρ σ' ρ' → Q σ' H) → SGs C es vs σ H Q
  | [], [], _, σ, H, F, ρ, ρ', vs, ds, S, r, ev, Q, q => by
    match ds, ev with
    | [], ev =>
      cases ev
      cases r
      exact SGs.of (t := gNil) ⟨rfl, q σ S ⟨fun _ _ => ⟨rfl, rfl⟩, fun _ z => z, rfl⟩⟩ fun X hX => pgs_nil
  | t :: ts, e :: es, m, σ, H, F, ρ, ρ', vs, ds, S, r, ev, Q, q => by
    match ds, ev with
    | d :: ds, ev =>
      obtain ⟨m1, m2⟩ := Bool.and_eq_true_iff.mp m
      obtain ⟨m0, m1⟩ := Bool.and_eq_true_iff.mp m1
      obtain ⟨ρ1, e1, e2⟩ := Option.bind_eq_some_iff.mp ev
      cases r with
      | cons r1 r2 =>
        rename_i v vs
        refine SGs.of (t := gCons (SG C e) (SGs C es)) ⟨v, vs, rfl, ?_⟩ fun X hX => pgs_cons (pg_SG hX) (pgs_SGs hX) (by rw [asgEach_of m0]; rfl)
        refine t.ok k sc cl C hC e m1 σ H F ρ v d ρ1 S r1 e1 _ fun σ1 S1 t1 => ?_
        refine gs_ok hC ts es m2 S1 (r2.mono (fun _ _ e _ _ => e) fun a _ _ z => z.imp id (t1.own a)) e2 fun σ2 S2 t2 => ?_
        exact q σ2 S2 ((t1.mono fun x hx => List.mem_flatMap.mpr ⟨t, List.mem_cons_self .., hx⟩).trans (t2.mono fun x hx => by
          obtain ⟨y, h1, h2⟩ := List.mem_flatMap.mp hx
          exact List.mem_flatMap.mpr ⟨y, List.mem_cons_of_mem _ h1, h2⟩))
def gTp (ts : List (STg G N)) : STg G N where
  slots := gsSlots ts
  mt sc cl e := match e with
    | .Tuple es _ _ => gsMt sc cl ts es
    | _ => false
  st d ρ := match d with
    | .tuple ds => gsSt ts ds ρ
    | _ => none
  ok k sc cl C hC e m σ H F ρ v d ρ' S r ev Q q := by
    try dsimp only at ev
    cases e <;> first | (cases m; done) | skip
    rename_i es x1 pos
    split at ev
    · rename_i ds
      obtain ⟨a, xs, rfl, h1, h2, h3⟩ := r.tup_of
      intro X hX
      refine SG.of (C := fun Y => Y = X) (t := gTup X.K es.length (SGs C es)) ?_ (fun Y hY => ?_) X rfl
      · refine ⟨a, xs, rfl, .inl (.inl h1), ?_, gs_ok hC ts es m S h3 ev q⟩
        rw [h3.length, gsSt_len ev, gsMt_len m]
      · subst hY
        obtain ⟨l1, l2⟩ := asgEach_len (env := Y.env) (gsMt_all m)
        exact pg_tup (hC Y hX).calm (pgs_SGs hX) l1 l2
    · cases ev
/-! ### what is walked -/
def SIt (C : Cx → Prop) (tg it : Expr) : TI := fun σ H R => ∀ X, C X → ∀ pins s, Inv X pins σ H s → wpAny (model X.prog X.w) X.A (eval it X.env) (fun v s1 => wpAny (model X.prog X.w) X.A (pyIter v) (PIE X pins σ tg R) X.xe s1) X.xe s
theorem pi_SIt {C : Cx → Prop} {X : Cx} (h : C X) {tg it : Expr} : PI X tg it (SIt C tg it) := ⟨fun pins s σ H R I q => q X h pins s I⟩
theorem SIt.of {C : Cx → Prop} {tg it : Expr} {σ : Sg} {H : Hp} {R : It → Hp → Prop} {t : TI} (h : t σ H R) (p : ∀ X, C X → PI X tg it t) : SIt C tg it σ H R := fun X hX pins s I => (p X hX).run pins s σ H R I h
def ItOk (J : It) (A0 : Addr → Prop) (H1 : Hp) (items : List D) : Prop := ∃ (Gd : Hp → Prop) (Y : Nat → Hp → V → Hp → Prop), Walk J items.length Gd Y ∧ (∀ H, Kp A0 H1 H → Gd H) ∧
  ∀ i H x H', i < items.length → Kp A0 H1 H → Y i H x H' → Ext H H' ∧ ∀ A' : Addr → Prop, (∀ a, A' a → (A0 a ∨ H1 a = none) ∧ ∃ o, H a = some o) → ∃ d, items[i]? = some d ∧ Rp H' A' x d
structure SI (G : Gx) (N : List Str) where
  mt : Scope → (Str → Bool) → Expr → Expr → Bool
  ev : Rho → Option (List D × Rho)
  ok : ∀ (k : Nat) (sc : Scope) (cl : Str → Bool) (C : Cx → Prop), (∀ X, C X → COk G k N sc cl X) → ∀ tg it, mt sc cl tg it = true → ∀ (σ : Sg) (H : Hp) (F : Addr → Prop) (ρ : Rho), RS σ H F ρ → ∀ items ρ', ev ρ = some (items, ρ') → ∀ R : It → Hp → Prop,
    (∀ J H', Stp σ H ρ H' ρ' → RS σ H' F ρ' → ItOk J (Av F σ ρ') H' items → R J H') → SIt C tg it σ H R
def notSet : Expr → Bool
  | .Set .. => false
  | _ => true
theorem notSet_ok {e : Expr} {env : Env} (h : notSet e = true) (x : Value) : foldedSetIterable e env x = pure x := by
  cases e <;> first | rfl | cases h
theorem itok_list {K : PySem.W.Frag} {a : Addr} {xs : List V} {ds : List D} {A0 : Addr → Prop} {H1 : Hp} (h : H1 a = some (.lst xs)) (n : ¬ A0 a) (r : RpL H1 A0 xs ds) : ItOk (Itl K a) A0 H1 ds := by
  refine ⟨fun H => SqL K H a xs, YAt xs, ?_, fun H k => .inl (.inl (k a _ h n (fun _ z => nomatch z))), fun i H x H' hi k y => ?_⟩
  · have := walk_list (K := K) (a := a) (xs := xs)
    rw [r.length] at this
    exact this
  · obtain ⟨rfl, y⟩ := y
    refine ⟨Ext.refl, fun A' hA => ?_⟩
    obtain ⟨d, h1, h2⟩ := r.get' y
    exact ⟨d, h1, h2.mono k fun a o e z => by
      rcases (hA a z).1 with z | z
      · exact z
      · rw [z] at e; cases e⟩
theorem itok_tup {K : PySem.W.Frag} {a : Addr} {xs : List V} {ds : List D} {A0 : Addr → Prop} {H1 : Hp} (h : H1 a = some (.tup xs)) (n : ¬ A0 a) (r : RpL H1 A0 xs ds) : ItOk (Itt K a) A0 H1 ds := by
  refine ⟨fun H => SqT K H a xs, YAt xs, ?_, fun H k => .inl (.inl (k a _ h n (fun _ z => nomatch z))), fun i H x H' hi k y => ?_⟩
  · have := walk_tup (K := K) (a := a) (xs := xs)
    rw [r.length] at this
    exact this
  · obtain ⟨rfl, y⟩ := y
    refine ⟨Ext.refl, fun A' hA => ?_⟩
    obtain ⟨d, h1, h2⟩ := r.get' y
    exact ⟨d, h1, h2.mono k fun a o e z => by
      rcases (hA a z).1 with z | z
      · exact z
      · rw [z] at e; cases e⟩
/-- a list, a tuple: any expression -/
def iSeq (x : SX G N) : SI G N where
  mt sc cl tg it := x.mt sc cl it
  ev ρ := (x.evD ρ).bind fun p => (elems p.1).map fun ds => (ds, p.2)
  ok k sc cl C hC tg it m σ H F ρ S items ρ' ev R q := by
    try dsimp only at ev
    obtain ⟨⟨d, ρ1⟩, e1, ev⟩ := Option.bind_eq_some_iff.mp ev
    obtain ⟨ds, e2, ev⟩ := Option.map_eq_some_iff.mp ev
    cases ev
    intro X hX
    unfold elems at e2
    dsimp only at e2
    split at e2
    · cases e2
      refine SIt.of (C := fun Y => Y = X) (t := iList X.K (SE C it)) ?_ (fun Y hY => ?_) X rfl
      · refine x.dat hC m S e1 fun v H1 s1 S1 r => ?_
        obtain ⟨a, xs, rfl, h1, h2, h3⟩ := r.list_of
        exact ⟨a, rfl, ⟨xs, .inl (.inl h1)⟩, q _ H1 s1 S1 (itok_list h1 h2 h3)⟩
      · subst hY; exact pi_list (pe_SE hX)
    · cases e2
      refine SIt.of (C := fun Y => Y = X) (t := iTup X.K (SE C it)) ?_ (fun Y hY => ?_) X rfl
      · refine x.dat hC m S e1 fun v H1 s1 S1 r => ?_
        obtain ⟨a, xs, rfl, h1, h2, h3⟩ := r.tup_of
        exact ⟨a, rfl, ⟨xs, .inl (.inl h1)⟩, q _ H1 s1 S1 (itok_tup h1 h2 h3)⟩
      · subst hY; exact pi_tup (pe_SE hX)
    · cases e2
def rangeD (lo : Int) (n : Nat) : List D := (List.range n).map fun i => .int (lo + (i : Nat))
theorem itok_range {lo : Int} {n : Nat} {A0 : Addr → Prop} {H1 : Hp} : ItOk (Itr lo n) A0 H1 (rangeD lo n) := by
  have hl : (rangeD lo n).length = n := by unfold rangeD; rw [List.length_map, List.length_range]
  refine ⟨fun _ => True, YFn fun i => .int (lo + (i : Nat)), by rw [hl]; exact walk_range, fun _ _ => trivial, fun i H x H' hi k y => ?_⟩
  obtain ⟨rfl, rfl⟩ := y
  rw [hl] at hi
  refine ⟨Ext.refl, fun A' hA => ⟨.int (lo + (i : Nat)), ?_, .int _⟩⟩
  unfold rangeD
  rw [List.getElem?_map, List.getElem?_range hi]
  rfl
@[simp] def okR (i : Int) : Bool := decide (-1000 ≤ i) && decide (i ≤ 1000)
theorem okR_ok {i : Int} (h : okR i = true) : -(2 ^ 62) ≤ i ∧ i < 2 ^ 62 := by
  unfold okR at h
  rw [Bool.and_eq_true, decide_eq_true_eq, decide_eq_true_eq] at h
  have e : (2 ^ 62 : Int) = 4611686018427387904 := by decide
  rw [e]
  omega
theorem mtNs_len {sc : Scope} {cl : Str → Bool} : ∀ {xs : List (SX G N)} {es : List Expr}, mtNs sc cl xs es = true → es.length = xs.length
  | [], [], _ => rfl
  | x :: xs, e :: es, h => by
    rw [List.length_cons, List.length_cons, mtNs_len (Bool.and_eq_true_iff.mp h).2]
theorem evDs_len : ∀ {xs : List (SX G N)} {ρ ρ' : Rho} {ds : List D}, evDs xs ρ = some (ds, ρ') → ds.length = xs.length
  | [], _, _, _, h => by cases h; rfl
  | x :: xs, _, _, _, h => by
    obtain ⟨_, _, h⟩ := Option.bind_eq_some_iff.mp h
    obtain ⟨⟨_, _⟩, h1, h⟩ := Option.map_eq_some_iff.mp h
    cases h
    rw [List.length_cons, List.length_cons, evDs_len h1]
def rangeM (xs : List (SX G N)) (sc : Scope) (cl : Str → Bool) (it : Expr) : Bool := match it with
  | .Call (.Name f _) as [] _ => (decide (f = "range") && decide (f ∈ G.bl)) && (globB sc f && mtNs sc cl xs as)
  | _ => false
/-- range(n), range(a, b) -/
def iRange (xs : List (SX G N)) : SI G N where
  mt sc cl tg it := rangeM xs sc cl it
  ev ρ := (evDs xs ρ).bind fun p => match p.1 with
    | [.int n] => match okR n with
      | true => some (rangeD 0 n.toNat, p.2)
      | false => none
    | [.int a, .int b] => match okR a && okR b with
      | true => some (rangeD a (b - a).toNat, p.2)
      | false => none
    | _ => none
  ok k sc cl C hC tg it m σ H F ρ S items ρ' ev R q := by
    try dsimp only at ev
    unfold rangeM at m
    split at m
    · rename_i f pf as pos
      simp only [Bool.and_eq_true, decide_eq_true_eq, globB] at m
      obtain ⟨⟨rfl, m1⟩, ⟨m2, m3⟩, m4⟩ := m
      obtain ⟨⟨ds, ρ1⟩, e1, ev⟩ := Option.bind_eq_some_iff.mp ev
      have hg : ∀ X, C X → Gl X "range" := fun X hX => by
        show X.env.scope.names.lookup _ = _
        rw [(hC X hX).sc]
        exact m2
      try dsimp only at ev
      split at ev
      · rename_i n
        split at ev
        · rename_i hn
          cases ev
          obtain ⟨n1, n2⟩ := okR_ok hn
          have hl : as.length = 1 := by rw [mtNs_len m4, ← evDs_len e1]; rfl
          obtain ⟨a, rfl⟩ := List.length_eq_one_iff.mp hl
          have al := mtNs_all m4
          rw [List.all_cons, Bool.and_eq_true] at al
          refine SIt.of (t := iRng1 (SA C [a])) ?_ fun X hX => pi_range1 (hg X hX) ((hC X hX).bl _ m1) (pa_SA hX) (starEach_of al.1)
          refine ds_ok hC xs [a] m4 S e1 fun vs H1 s1 S1 r => ?_
          cases r with
          | cons r1 r2 =>
            cases r2
            exact ⟨n, by rw [r1.int_of], n1, n2, q _ H1 s1 S1 itok_range⟩
        · cases ev
      · rename_i a0 b0
        split at ev
        · rename_i hn
          cases ev
          obtain ⟨hn1, hn2⟩ := Bool.and_eq_true_iff.mp hn
          obtain ⟨n1, n2⟩ := okR_ok hn1
          obtain ⟨n3, n4⟩ := okR_ok hn2
          have hl : as.length = 2 := by rw [mtNs_len m4, ← evDs_len e1]; rfl
          obtain ⟨a, b, rfl⟩ : ∃ a b, as = [a, b] := by
            match as, hl with
            | [a, b], _ => exact ⟨a, b, rfl⟩
          have al := mtNs_all m4
          rw [List.all_cons, Bool.and_eq_true, List.all_cons, Bool.and_eq_true] at al
          have q1 := al.1
          have q2 := al.2.1
          refine SIt.of (t := iRng2 (SA C [a, b])) ?_ fun X hX => pi_range2 (hg X hX) ((hC X hX).bl _ m1) (pa_SA hX) (by rw [starEach_of q1, starEach_of q2]; rfl) (by rw [starEach_of q2]; rfl)
          refine ds_ok hC xs [a, b] m4 S e1 fun vs H1 s1 S1 r => ?_
          cases r with
          | cons r1 r2 =>
            cases r2 with
            | cons r2 r3 =>
              cases r3
              exact ⟨a0, b0, by rw [r1.int_of, r2.int_of], ⟨n1, n2, n3, n4⟩, q _ H1 s1 S1 itok_range⟩
        · cases ev
      · cases ev
    · cases m
end
end Ev
set_option Elab.async false
set_option linter.all false
set_option maxRecDepth 100000
set_option maxHeartbeats 2000000
/-! EvJ: list comprehensions -/
namespace Ev
open PySem L2
variable [Tbs]
@[simp] def wipeR (ρ : Rho) : List Nat → Rho
  | [] => ρ
  | v :: vs => (wipeR ρ vs).set v .un
@[simp] def back (ρ r : Rho) : List Nat → Rho
  | [] => r
  | v :: vs => match ρ[v]? with
    | some s => (back ρ r vs).set v s
    | none => back ρ r vs
theorem wipeR_len (ρ : Rho) : ∀ vs, (wipeR ρ vs).length = ρ.length
  | [] => rfl
  | v :: vs => by show ((wipeR ρ vs).set v .un).length = _; rw [List.length_set, wipeR_len ρ vs]
theorem wipeR_get (ρ : Rho) (i : Nat) : ∀ vs, (wipeR ρ vs)[i]? = if i ∈ vs then (ρ[i]?).map (fun _ => Slot.un) else ρ[i]?
  | [] => by rw [if_neg (by simp)]; rfl
  | v :: vs => by
    show ((wipeR ρ vs).set v .un)[i]? = _
    by_cases e : v = i
    · subst e
      rw [if_pos (by simp), List.getElem?_set]
      simp only [if_true]
      by_cases h : v < (wipeR ρ vs).length
      · rw [if_pos h]
        rw [wipeR_len] at h
        rw [List.getElem?_eq_getElem h]; rfl
      · rw [if_neg h]
        rw [wipeR_len] at h
        rw [List.getElem?_eq_none (by omega)]; rfl
    · rw [List.getElem?_set_ne e, wipeR_get ρ i vs]
      by_cases h : i ∈ vs
      · rw [if_pos h, if_pos (List.mem_cons_of_mem _ h)]
      · rw [if_neg h, if_neg (by simp only [List.mem_cons, not_or]; exact ⟨fun z => e z.symm, h⟩)]
theorem wipe_get (σ : Sg) (i : Nat) : ∀ vs, (wipe σ vs)[i]? = if i ∈ vs then (σ[i]?).map (fun _ => (none : Option V)) else σ[i]?
  | [] => by rw [if_neg (by simp)]; rfl
  | v :: vs => by
    show ((wipe σ vs).set v none)[i]? = _
    by_cases e : v = i
    · subst e
      rw [if_pos (by simp), List.getElem?_set]
      simp only [if_true]
      by_cases h : v < (wipe σ vs).length
      · rw [if_pos h]
        rw [wipe_length] at h
        rw [List.getElem?_eq_getElem h]; rfl
      · rw [if_neg h]
        rw [wipe_length] at h
        rw [List.getElem?_eq_none (by omega)]; rfl
    · rw [List.getElem?_set_ne e, wipe_get σ i vs]
      by_cases h : i ∈ vs
      · rw [if_pos h, if_pos (List.mem_cons_of_mem _ h)]
      · rw [if_neg h, if_neg (by simp only [List.mem_cons, not_or]; exact ⟨fun z => e z.symm, h⟩)]
theorem back_len (ρ r : Rho) : ∀ vs, (back ρ r vs).length = r.length
  | [] => rfl
  | v :: vs => by
    show (match ρ[v]? with | some s => (back ρ r vs).set v s | none => back ρ r vs).length = _
    cases ρ[v]? with
    | none => exact back_len ρ r vs
    | some s => show ((back ρ r vs).set v s).length = _; rw [List.length_set, back_len ρ r vs]
theorem back_get (ρ r : Rho) (hl : r.length = ρ.length) (i : Nat) : ∀ vs, (back ρ r vs)[i]? = if i ∈ vs then ρ[i]? else r[i]?
  | [] => by rw [if_neg (by simp)]; rfl
  | v :: vs => by
    show (match ρ[v]? with | some s => (back ρ r vs).set v s | none => back ρ r vs)[i]? = _
    by_cases e : v = i
    · subst e
      rw [if_pos (by simp)]
      cases h : ρ[v]? with
      | none =>
        show (back ρ r vs)[v]? = none
        exact List.getElem?_eq_none (by rw [back_len, hl]; exact List.getElem?_eq_none_iff.mp h)
      | some s =>
        show ((back ρ r vs).set v s)[v]? = _
        exact List.getElem?_set_self (by rw [back_len, hl]; exact (List.getElem?_eq_some_iff.mp h).1)
    · have key : (match ρ[v]? with | some s => (back ρ r vs).set v s | none => back ρ r vs)[i]? = (back ρ r vs)[i]? := by
        cases ρ[v]? with
        | none => rfl
        | some s => exact List.getElem?_set_ne e
      rw [key, back_get ρ r hl i vs]
      by_cases h : i ∈ vs
      · rw [if_pos h, if_pos (List.mem_cons_of_mem _ h)]
      · rw [if_neg h, if_neg (by simp only [List.mem_cons, not_or]; exact ⟨fun z => e z.symm, h⟩)]
@[simp] def noOw (ρ : Rho) (vs : List Nat) : Bool := vs.all fun i => match ρ[i]? with
  | some (.ow _) => false
  | _ => true
theorem noOw_of {ρ : Rho} {vs : List Nat} (h : noOw ρ vs = true) {i : Nat} (hi : i ∈ vs) (c : D) : ρ[i]? ≠ some (.ow c) := fun e => by
  have := List.all_eq_true.mp h i hi
  rw [e] at this
  cases this
section
variable {σ σ2 : Sg} {H H' : Hp} {ρ ρ4 : Rho} {F F' : Addr → Prop} {vs : List Nat}
theorem RS.weaken (S : RS σ H F' ρ) (i : ∀ a, F a → F' a) : RS σ H F ρ :=
  ⟨S.len, fun j d e => by
    obtain ⟨v, h1, h2⟩ := S.va j d e
    exact ⟨v, h1, h2.mono (fun _ _ e _ _ => e) fun a _ _ z => z.imp (i a) id⟩, fun j c e => by
    obtain ⟨p, o, h1, h2, h3, h4, h5⟩ := S.ow j c e
    exact ⟨p, o, h1, h2, h3, h4.mono (fun _ _ e _ _ => e) fun a _ _ z => z.imp (i a) id, fun z => h5 (i p z)⟩, S.dj, fun a z => S.fd a (i a z), S.tb⟩
theorem RS.updF (S : RS σ H F ρ) {p : Addr} (hp : F p) {o0 : HO} (h0 : H p = some o0) (m0 : mutO o0) (o : HO) : RS σ (upd H p o) F ρ := by
  have k : Kp (Av F σ ρ) H (upd H p o) := fun a u e n _ => by
    rw [upd_ne (fun z => n (by subst z; exact .inl hp))]
    exact e
  exact ⟨S.len, fun j d e => by
    obtain ⟨v, h1, h2⟩ := S.va j d e
    exact ⟨v, h1, h2.mono k fun a _ _ z => z⟩, fun j c e => by
    obtain ⟨q, o2, h1, h2, h3, h4, h5⟩ := S.ow j c e
    exact ⟨q, o2, h1, by rw [upd_ne (fun z => h5 (by subst z; exact hp))]; exact h2, h3, h4.mono k fun a _ _ z => z, h5⟩, S.dj, fun a z => by
    by_cases e : a = p
    · subst e; exact ⟨o, upd_same⟩
    · rw [upd_ne e]; exact S.fd a z, (upd_extP h0 m0).tb S.tb⟩
theorem own_wipe (hn : noOw ρ vs = true) (a : Addr) : ownA (wipe σ vs) (wipeR ρ vs) a → ownA σ ρ a := fun ⟨i, c, h1, h2⟩ => by
  rw [wipeR_get] at h1
  rw [wipe_get] at h2
  by_cases h : i ∈ vs
  · rw [if_pos h] at h1
    cases e : ρ[i]? with
    | none => rw [e] at h1; cases h1
    | some s => rw [e] at h1; cases h1
  · rw [if_neg h] at h1 h2
    exact ⟨i, c, h1, h2⟩
theorem RS.wipe (S : RS σ H F ρ) (hn : noOw ρ vs = true) : RS (L2.wipe σ vs) H F (wipeR ρ vs) := by
  refine ⟨by rw [wipe_length, wipeR_len]; exact S.len, fun i d e => ?_, fun i c e => ?_, fun i j c c' p h1 h2 h3 h4 => ?_, S.fd, S.tb⟩
  · rw [wipeR_get] at e
    rw [wipe_get]
    by_cases h : i ∈ vs
    · rw [if_pos h] at e
      cases e2 : ρ[i]? with
      | none => rw [e2] at e; cases e
      | some s => rw [e2] at e; cases e
    · rw [if_neg h] at e ⊢
      obtain ⟨v, h1, h2⟩ := S.va i d e
      exact ⟨v, h1, h2.mono (fun _ _ e _ _ => e) fun a _ _ z => z.imp id (own_wipe hn a)⟩
  · rw [wipeR_get] at e
    rw [wipe_get]
    by_cases h : i ∈ vs
    · rw [if_pos h] at e
      cases e2 : ρ[i]? with
      | none => rw [e2] at e; cases e
      | some s => rw [e2] at e; cases e
    · rw [if_neg h] at e ⊢
      obtain ⟨p, o, h1, h2, h3, h4, h5⟩ := S.ow i c e
      exact ⟨p, o, h1, h2, h3, h4.mono (fun _ _ e _ _ => e) fun a _ _ z => z.imp id (own_wipe hn a), h5⟩
  · have key : ∀ (i : Nat) (c : D), (wipeR ρ vs)[i]? = some (.ow c) → (L2.wipe σ vs)[i]? = some (some (.ref p)) → ρ[i]? = some (.ow c) ∧ σ[i]? = some (some (.ref p)) := fun i c h1 h2 => by
      rw [wipeR_get] at h1
      rw [wipe_get] at h2
      by_cases h : i ∈ vs
      · rw [if_pos h] at h1
        cases e2 : ρ[i]? with
        | none => rw [e2] at h1; cases h1
        | some s => rw [e2] at h1; cases h1
      · rw [if_neg h] at h1 h2
        exact ⟨h1, h2⟩
    obtain ⟨a1, a2⟩ := key i c h1 h3
    obtain ⟨b1, b2⟩ := key j c' h2 h4
    exact S.dj i j c c' p a1 b1 a2 b2
/-- out of the block -/
theorem RS.back (S0 : RS σ H F ρ) (hn : noOw ρ vs = true) (S : RS σ2 H' F ρ4) (k : Kp (ownA σ ρ) H H') (al : ∀ a o, H a = some o → ∃ o', H' a = some o') (hs : ∀ (i : Nat), i ∉ vs → σ2[i]? = σ[i]? ∧ SlOk ρ[i]? ρ4[i]?) (hl : ρ4.length = ρ.length) :
    RS σ H' F (Ev.back ρ ρ4 vs) ∧ Stp σ H ρ H' (Ev.back ρ ρ4 vs) ∧ ∀ a, ownA σ (Ev.back ρ ρ4 vs) a → ownA σ2 ρ4 a := by
  have st : Stp σ H ρ H' (Ev.back ρ ρ4 vs) := ⟨k, al, fun i => by
    rw [back_get ρ ρ4 hl]
    by_cases h : i ∈ vs
    · rw [if_pos h]; exact SlOk.refl _
    · rw [if_neg h]; exact (hs i h).2⟩
  have ow2 : ∀ a, ownA σ (Ev.back ρ ρ4 vs) a → ownA σ2 ρ4 a := fun a ⟨i, c, h1, h2⟩ => by
    rw [back_get ρ ρ4 hl] at h1
    by_cases h : i ∈ vs
    · rw [if_pos h] at h1; exact absurd h1 (noOw_of hn h c)
    · rw [if_neg h] at h1
      exact ⟨i, c, h1, by rw [(hs i h).1]; exact h2⟩
  refine ⟨⟨by rw [back_len, hl]; exact S0.len, fun i d e => ?_, fun i c e => ?_, fun i j c c' p h1 h2 h3 h4 => ?_, S.fd, S.tb⟩, st, ow2⟩
  · rw [back_get ρ ρ4 hl] at e
    by_cases h : i ∈ vs
    · rw [if_pos h] at e
      obtain ⟨v, h1, h2⟩ := S0.va i d e
      exact ⟨v, h1, h2.stp st⟩
    · rw [if_neg h] at e
      obtain ⟨v, h1, h2⟩ := S.va i d e
      exact ⟨v, by rw [← (hs i h).1]; exact h1, h2.mono (fun _ _ e _ _ => e) fun a _ _ z => z.imp id (ow2 a)⟩
  · rw [back_get ρ ρ4 hl] at e
    by_cases h : i ∈ vs
    · rw [if_pos h] at e; exact absurd e (noOw_of hn h c)
    · rw [if_neg h] at e
      obtain ⟨p, o, h1, h2, h3, h4, h5⟩ := S.ow i c e
      exact ⟨p, o, by rw [← (hs i h).1]; exact h1, h2, h3, h4.mono (fun _ _ e _ _ => e) fun a _ _ z => z.imp id (ow2 a), h5⟩
  · have key : ∀ (i : Nat) (c : D), (Ev.back ρ ρ4 vs)[i]? = some (.ow c) → σ[i]? = some (some (.ref p)) → ρ4[i]? = some (.ow c) ∧ σ2[i]? = some (some (.ref p)) := fun i c h1 h2 => by
      rw [back_get ρ ρ4 hl] at h1
      by_cases h : i ∈ vs
      · rw [if_pos h] at h1; exact absurd h1 (noOw_of hn h c)
      · rw [if_neg h] at h1
        exact ⟨h1, by rw [(hs i h).1]; exact h2⟩
    obtain ⟨a1, a2⟩ := key i c h1 h3
    obtain ⟨b1, b2⟩ := key j c' h2 h4
    exact S.dj i j c c' p a1 b1 a2 b2
end
section
variable {G : Gx} {N : List Str}
@[simp] def evC : Option (SXT G N) → Rho → Option (Bool × Rho)
  | none, ρ => some (true, ρ)
  | some c, ρ => c.ev ρ
def compF (vs : List Nat) (tg : STg G N) (c : Option (SXT G N)) (elt : SX G N) : List D → Rho → Option (List D × Rho)
  | [], ρ => some ([], ρ)
  | x :: xs, ρ => (tg.st x (wipeR ρ vs)).bind fun ρ1 => (evC c ρ1).bind fun p => match p.1 with
    | true => (elt.evD p.2).bind fun q => (compF vs tg c elt xs (back ρ q.2 vs)).map fun r => (q.1 :: r.1, r.2)
    | false => compF vs tg c elt xs (back ρ p.2 vs)
def mtC (sc : Scope) (cl : Str → Bool) : Option (SXT G N) → List Expr → Bool
  | none, [] => true
  | some c, [f] => c.mt sc cl f
  | _, _ => false
def clOf (scope : Scope) (x : Str) : Bool := scope.names.lookup x == some .cell
theorem COk.blk {k : Nat} {sc : Scope} {cl : Str → Bool} {X : Cx} (h : COk G k N sc cl X) (s : Shared) (H : Hp) (scope : Scope) (C : Addr) (cs : List (Str × Addr)) (fp : List Addr) :
    COk G k N (relS scope sc) (clOf scope) (X.blk s H scope (compEnvC scope cs C X.env) fp) :=
  ⟨h.nm, h.nd, by rw [← h.sc]; rfl, h.calm, rfl, h.room, h.gd, fun x z => z, fun p hp => ⟨(h.fns p hp).h⟩, h.bl, h.cs, h.lm⟩
def lcM (own : List (Str × Nat)) (tg : STg G N) (it : SI G N) (c : Option (SXT G N)) (elt : SX G N) (sc : Scope) (cl : Str → Bool) (e : Expr) : Bool := match e with
  | .ListComp el [⟨t, i, ifs, a⟩] scope _ => (decide (a = 0) && (blkC N sc scope own && (notSet i && it.mt sc cl t i))) && ((tg.mt (relS scope sc) (clOf scope) t && mtC (relS scope sc) (clOf scope) c ifs) && (elt.mt (relS scope sc) (clOf scope) el && tg.slots.all fun j => decide (j ∈ own.map (·.2))))
  | _ => false
@[simp] def lcE (own : List (Str × Nat)) (tg : STg G N) (it : SI G N) (c : Option (SXT G N)) (elt : SX G N) (ρ : Rho) : Option (R × Rho) := (it.ev ρ).bind fun p => match small p.1.length && noOw p.2 (own.map (·.2)) with
    | true => (compF (own.map (·.2)) tg c elt p.1 p.2).map fun r => (.fr (.list r.1), r.2)
    | false => none
def condT (C : Cx → Prop) : List Expr → TT
  | [] => tYes
  | f :: _ => ST C f
theorem condT_ok {k : Nat} {sc : Scope} {cl : Str → Bool} {C : Cx → Prop} (hC : ∀ X, C X → COk G k N sc cl X) {c : Option (SXT G N)} {ifs : List Expr} (m : mtC sc cl c ifs = true) {σ : Sg} {H : Hp} {F : Addr → Prop} {ρ ρ' : Rho} {b : Bool} (S : RS σ H F ρ) (ev : evC c ρ = some (b, ρ'))
    {Q : Bool → Hp → Prop} (q : ∀ H', Stp σ H ρ H' ρ' → RS σ H' F ρ' → Q b H') : condT C ifs σ H Q := by
  match c, ifs, m with
  | none, [], _ => cases ev; exact q H Stp.refl S
  | some c, [f], m => exact c.ok k sc cl C hC f m σ H F ρ S b ρ' ev Q q
theorem condT_pts {C : Cx → Prop} {sc : Scope} {cl : Str → Bool} {c : Option (SXT G N)} {ifs : List Expr} (m : mtC sc cl c ifs = true) {X : Cx} (h : C X) : PTs X ifs (condT C ifs) := by
  match c, ifs, m with
  | none, [], _ => exact pts_nil
  | some c, [f], m => exact pts_one (pt_ST h)
def noF : Str → Bool := fun _ => false
/-- the reading of a comprehension -/
theorem lc_read {own : List (Str × Nat)} {tg : STg G N} {it : SI G N} {c : Option (SXT G N)} {elt : SX G N} {k : Nat} {sc : Scope} {cl : Str → Bool} {C : Cx → Prop} (hC : ∀ X, C X → COk G k N sc cl X) {el t i : Expr} {ifs : List Expr} {scope : Scope}
    (m2 : it.mt sc cl t i = true) (m3 : tg.mt (relS scope sc) (clOf scope) t = true) (m4 : mtC (relS scope sc) (clOf scope) c ifs = true) (m5 : elt.mt (relS scope sc) (clOf scope) el = true) (m6 : (tg.slots.all fun j => decide (j ∈ own.map (·.2))) = true)
    {σ : Sg} {H : Hp} {F : Addr → Prop} {ρ ρ' : Rho} {r : R} (S : RS σ H F ρ) (ev : lcE own tg it c elt ρ = some (r, ρ')) {Q : VK} (q : ∀ v H', Stp σ H ρ H' ρ' → RS σ H' F ρ' → RR σ H' F ρ' v r → Frs H v r → Q v H') :
    tLc (SIt C t i) (SG (COk G k N (relS scope sc) (clOf scope)) t) (condT (COk G k N (relS scope sc) (clOf scope)) ifs) (SE (COk G k N (relS scope sc) (clOf scope)) el) (own.map (·.2)) σ H Q := by
  generalize hvs : own.map (·.2) = vs at ev m6 ⊢
  obtain ⟨⟨items, ρ1⟩, e1, ev⟩ := Option.bind_eq_some_iff.mp ev
  rw [hvs] at ev
  dsimp only at ev
  split at ev
  · rename_i hsm
    obtain ⟨hsm, hn1⟩ := Bool.and_eq_true_iff.mp hsm
    obtain ⟨⟨total, ρE⟩, e2, ev⟩ := Option.map_eq_some_iff.mp ev
    cases ev
    dsimp only at q
    refine it.ok k sc cl C hC t i m2 σ H F ρ S items ρ1 e1 _ fun J H1 s1 S1 hit => fun Dl hD => ?_
    obtain ⟨Gd, Y, w, hGd, hY⟩ := hit
    have kp0 : ∀ {Hc : Hp} {ρi : Rho}, Stp σ H1 ρ1 Hc ρi → Kp (Av F σ ρ1) H1 Hc := fun st a o e n y => st.keep a o e (fun z => n (.inr z)) y
    refine lc_it w (fun n Hc => ∃ (ρi : Rho) (accV : List V) (acc rest : List D), Hc Dl = some (.lst accV) ∧ RpL Hc (Av (orA F Dl) σ ρi) accV acc ∧ RS σ Hc (orA F Dl) ρi ∧ Stp σ H1 ρ1 Hc ρi ∧ noOw ρi vs = true ∧
      compF vs tg c elt (items.drop n) ρi = some (rest, ρE) ∧ acc ++ rest = total ∧ acc.length ≤ n) ?_ ?_ ?_ ?_
    · refine ⟨ρ1, [], [], total, upd_same, .nil, S1.extN (Ext.new hD) hD upd_same, ⟨fun a o e n y => (Ext.new hD).k a o e y, (Ext.new hD).al, fun _ => SlOk.refl _⟩, hn1, e2, rfl, Nat.le_refl _⟩
    · rintro n Hc hn ⟨ρi, accV, acc, rest, h1, h2, h3, h4, h5, h6, h7, h8⟩
      exact hGd Hc (kp0 h4)
    · rintro n x Hc H' hn ⟨ρi, accV, acc, rest, h1, h2, h3, h4, h5, h6, h7, h8⟩ hy
      obtain ⟨xt, hy⟩ := hY n Hc x H' hn (kp0 h4) hy
      have hdr : items.drop n = items[n] :: items.drop (n + 1) := List.drop_eq_getElem_cons hn
      rw [hdr] at h6
      obtain ⟨ρ2, g1, h6⟩ := Option.bind_eq_some_iff.mp h6
      obtain ⟨⟨b, ρ3⟩, g2, h6⟩ := Option.bind_eq_some_iff.mp h6
      -- into the block
      have Si : RS σ H' (orA F Dl) ρi := h3.ext xt
      have Sb : RS (L2.wipe σ vs) H' (orA F Dl) (wipeR ρi vs) := Si.wipe h5
      have rx : Rp H' (Av (orA F Dl) (L2.wipe σ vs) (wipeR ρi vs)) x items[n] := by
        obtain ⟨d, d1, d2⟩ := hy (Av (orA F Dl) (L2.wipe σ vs) (wipeR ρi vs)) fun a z => by
          rcases z with (z | z) | z
          · exact ⟨.inl (.inl z), h3.fd a (.inl z)⟩
          · subst z; exact ⟨.inr hD, _, h1⟩
          · have z2 := own_wipe h5 a z
            exact ⟨.inl (.inr (h4.own a z2)), av_alloc h3 a (.inr z2)⟩
        rw [List.getElem?_eq_getElem hn] at d1
        cases d1
        exact d2
      refine tg.ok k _ _ _ (fun _ z => z) t m3 _ _ _ _ x items[n] ρ2 Sb rx g1 _ fun σ2 S2 tgs => ?_
      have hσ2 : ∀ (j : Nat), j ∉ vs → σ2[j]? = σ[j]? := fun j hj => by
        rw [(tgs.out j fun z => hj (of_decide_eq_true (List.all_eq_true.mp m6 j z))).1, wipe_get, if_neg hj]
      have hρ2 : ∀ (j : Nat), j ∉ vs → ρ2[j]? = ρi[j]? := fun j hj => by
        rw [(tgs.out j fun z => hj (of_decide_eq_true (List.all_eq_true.mp m6 j z))).2, wipeR_get, if_neg hj]
      have hl2 : σ2.length = σ.length := by rw [S2.len, tgs.len, wipeR_len, ← Si.len]
      refine ⟨?_, ?_⟩
      · apply List.ext_getElem?
        intro j
        rw [wipe_get, wipe_get]
        by_cases hj : j ∈ vs
        · rw [if_pos hj, if_pos hj]
          by_cases hjl : j < σ.length
          · rw [List.getElem?_eq_getElem hjl, List.getElem?_eq_getElem (by omega : j < σ2.length)]; rfl
          · rw [List.getElem?_eq_none (by omega), List.getElem?_eq_none (by omega)]
        · rw [if_neg hj, if_neg hj, hσ2 j hj]
      · refine condT_ok (fun _ z => z) m4 S2 g2 fun H3 st3 S3 => ?_
        have own2 : ∀ a, ownA σ2 ρ2 a → ownA σ ρi a := fun a z => own_wipe h5 a (tgs.own a z)
        -- what stands through the turn
        have keep : ∀ {H4 : Hp} {ρ4 : Rho}, Stp σ2 H' ρ2 H4 ρ4 → Kp (ownA σ ρi) Hc H4 := fun st a o e n y => st.keep a o (xt.k a o e y) (fun z => n (own2 a z)) y
        have all : ∀ {H4 : Hp} {ρ4 : Rho}, Stp σ2 H' ρ2 H4 ρ4 → ∀ a o, Hc a = some o → ∃ o', H4 a = some o' := fun st a o e => (xt.al a o e).elim fun o1 e1 => st.al a o1 e1
        have slok : ∀ {H4 : Hp} {ρ4 : Rho}, Stp σ2 H' ρ2 H4 ρ4 → ∀ (j : Nat), j ∉ vs → σ2[j]? = σ[j]? ∧ SlOk ρi[j]? ρ4[j]? := fun st j hj => ⟨hσ2 j hj, by rw [← hρ2 j hj]; exact st.sl j⟩
        have nD : ¬ ownA σ ρi Dl := fun ⟨j, c', z1, z2⟩ => by
          obtain ⟨p, o, z3, _, _, _, z7⟩ := h3.ow j c' z1
          rw [z2] at z3
          cases z3
          exact z7 (.inr rfl)
        cases b with
        | false =>
          rw [if_neg Bool.false_ne_true]
          have hl3 : ρ3.length = ρi.length := by rw [← S3.len, hl2, Si.len]
          obtain ⟨Sn, stn, _⟩ := RS.back h3 h5 S3 (keep st3) (all st3) (slok st3) hl3
          refine ⟨back ρi ρ3 vs, accV, acc, rest, keep st3 Dl _ h1 nD (fun _ z => nomatch z), h2.stp stn, Sn, h4.trans stn, ?_, h6, h7, by omega⟩
          refine List.all_eq_true.mpr fun j hj => ?_
          rw [back_get ρi ρ3 hl3, if_pos hj]
          exact List.all_eq_true.mp h5 j hj
        | true =>
          rw [if_pos rfl]
          obtain ⟨⟨dE, ρ4⟩, g3, h6⟩ := Option.bind_eq_some_iff.mp h6
          obtain ⟨⟨rest2, ρE2⟩, g4, h6⟩ := Option.map_eq_some_iff.mp h6
          cases h6
          refine elt.dat (fun _ z => z) m5 S3 g3 fun y H4 st4 S4 ry => ?_
          have st34 := st3.trans st4
          have hl4 : ρ4.length = ρi.length := by rw [← S4.len, hl2, Si.len]
          obtain ⟨Sn, stn, ow4⟩ := RS.back h3 h5 S4 (keep st34) (all st34) (slok st34) hl4
          have hD4 : H4 Dl = some (.lst accV) := keep st34 Dl _ h1 nD (fun _ z => nomatch z)
          have pD : Av (orA F Dl) σ (back ρi ρ4 vs) Dl := .inl (.inr rfl)
          have kD : ∀ o', Kp (Av (orA F Dl) σ (back ρi ρ4 vs)) H4 (upd H4 Dl o') := fun o' a u e n _ => by
            rw [upd_ne (fun z => n (by subst z; exact pD))]
            exact e
          refine ⟨accV, hD4, ?_, back ρi ρ4 vs, accV ++ [y], acc ++ [dE], rest2, upd_same, ?_, Sn.updF (.inr rfl) hD4 trivial _, ?_, ?_, g4, by rw [List.append_assoc]; exact h7, by rw [List.length_append, List.length_singleton]; omega⟩
          · rw [h2.length]
            have z1 : acc.length ≤ items.length := by omega
            exact Nat.lt_of_le_of_lt z1 (small_sz hsm)
          · refine RpL.append ((h2.stp stn).mono (kD _) fun _ _ _ z => z) (.cons ?_ .nil)
            exact (ry.mono (fun _ _ e _ _ => e) (fun a _ _ z => z.imp id (ow4 a)) : Rp H4 (Av (orA F Dl) σ (back ρi ρ4 vs)) y dE).mono (kD _) fun _ _ _ z => z
          · refine ⟨fun a o e n y => ?_, fun a o e => ?_, (h4.trans stn).sl⟩
            · rw [upd_ne (fun z => by subst z; rw [hD] at e; cases e)]
              exact (h4.trans stn).keep a o e n y
            · rw [upd_ne (fun z => by subst z; rw [hD] at e; cases e)]
              exact (h4.trans stn).al a o e
          · refine List.all_eq_true.mpr fun j hj => ?_
            rw [back_get ρi ρ4 hl4, if_pos hj]
            exact List.all_eq_true.mp h5 j hj
    · rintro Hc ⟨ρi, accV, acc, rest, h1, h2, h3, h4, h5, h6, h7, h8⟩
      rw [List.drop_length] at h6
      cases h6
      rw [List.append_nil] at h7
      subst h7
      refine q (.ref Dl) Hc (s1.trans h4) (h3.weaken fun a z => .inl z) ⟨Dl, _, rfl, h1, trivial, .lst h2, h3, fun z => ?_⟩ ⟨Dl, rfl, s1.none S1 hD⟩
      obtain ⟨o, e⟩ := S1.fd _ z
      rw [hD] at e
      cases e
  · cases ev
def sLc (own : List (Str × Nat)) (tg : STg G N) (it : SI G N) (c : Option (SXT G N)) (elt : SX G N) : SX G N where
  mt sc cl e := lcM own tg it c elt sc cl e
  ev ρ := lcE own tg it c elt ρ
  ok k sc cl C hC e m σ H F ρ S r ρ' ev Q q := by
    unfold lcM at m
    split at m
    · rename_i el t i ifs a scope pos
      simp only [Bool.and_eq_true, decide_eq_true_eq] at m
      obtain ⟨⟨rfl, m1, m0, m2⟩, ⟨m3, m4⟩, m5, m6⟩ := m
      refine SE.of (lc_read hC m2 m3 m4 m5 m6 S ev q) fun X hX => ?_
      exact pe_lc (hC X hX).calm (by rw [(hC X hX).nm]; exact (hC X hX).nd) (pi_SIt hX) (by rw [(hC X hX).nm, (hC X hX).sc]; exact blkOk_by m1)
        (fun s H C cs fp => pg_SG ((hC X hX).blk s H scope C cs fp)) (fun s H C cs fp => condT_pts m4 ((hC X hX).blk s H scope C cs fp)) (fun s H C cs fp => pe_SE ((hC X hX).blk s H scope C cs fp)) (notSet_ok m0)
    · cases m
end
end Ev
set_option Elab.async false
set_option linter.all false
set_option maxRecDepth 100000
set_option maxHeartbeats 2000000
/-! EvK: statements -/
namespace Ev
open PySem L2
variable [Tbs]
inductive Out where
  | nx
  | bk
  | ct
  | rt (r : R)
structure StpS (nio : Nat) (σ : Sg) (H : Hp) (ρ : Rho) (σ' : Sg) (H' : Hp) (ρ' : Rho) : Prop where
  keep : Kp (ownA σ ρ) H H'
  own : ∀ a, ownA σ' ρ' a → ownA σ ρ a ∨ H a = none
  io : ∀ (i : Nat), i < nio → σ'[i]? = σ[i]?
  al : ∀ a o, H a = some o → ∃ o', H' a = some o'
section
variable {nio : Nat} {σ σ1 σ2 : Sg} {H H1 H2 : Hp} {ρ ρ1 ρ2 : Rho} {F : Addr → Prop}
theorem StpS.refl : StpS nio σ H ρ σ H ρ := ⟨fun _ _ e _ _ => e, fun _ z => .inl z, fun _ _ => rfl, fun _ o e => ⟨o, e⟩⟩
theorem StpS.trans (s : StpS nio σ H ρ σ1 H1 ρ1) (t : StpS nio σ1 H1 ρ1 σ2 H2 ρ2) : StpS nio σ H ρ σ2 H2 ρ2 := by
  refine ⟨fun a o e n y => t.keep a o (s.keep a o e n y) (fun z => ?_) y, fun a z => ?_, fun i hi => (t.io i hi).trans (s.io i hi), fun a o e => by
    obtain ⟨o', e'⟩ := s.al a o e
    exact t.al a o' e'⟩
  · rcases s.own a z with z | z
    · exact n z
    · rw [e] at z; cases z
  · rcases t.own a z with z | z
    · exact s.own a z
    · cases e : H a with
      | none => exact .inr rfl
      | some o =>
        obtain ⟨o', e'⟩ := s.al a o e
        rw [z] at e'; cases e'
theorem Stp.s (s : Stp σ H ρ H1 ρ1) (S1 : RS σ H1 F ρ1) : StpS nio σ H ρ σ H1 ρ1 := ⟨s.keep, fun a z => .inl (s.own a z), fun _ _ => rfl, s.al⟩
theorem Frs.backS (s : StpS nio σ H ρ σ1 H1 ρ1) {v : V} {r : R} (h : Frs H1 v r) : Frs H v r := by
  cases r with
  | fr c =>
    obtain ⟨p, h1, h2⟩ := h
    refine ⟨p, h1, ?_⟩
    cases e : H p with
    | none => rfl
    | some o =>
      obtain ⟨o', e'⟩ := s.al p o e
      rw [h2] at e'; cases e'
  | _ => trivial
theorem TgS.s {sl : List Nat} (t : TgS sl σ ρ σ1 ρ1) (h : ∀ i ∈ sl, nio ≤ i) : StpS nio σ H ρ σ1 H ρ1 :=
  ⟨fun _ _ e _ _ => e, fun a z => .inl (t.own a z), fun i hi => (t.out i fun z => by have := h i z; omega).1, fun _ o e => ⟨o, e⟩⟩
theorem StpS.av (s : StpS nio σ H ρ σ1 H1 ρ1) {a : Addr} {o : HO} (e : H a = some o) : Av F σ1 ρ1 a → Av F σ ρ a := fun z => z.imp id fun z => by
  rcases s.own a z with z | z
  · exact z
  · rw [e] at z; cases z
theorem Rp.stpS {v : V} {d : D} (r : Rp H (Av F σ ρ) v d) (s : StpS nio σ H ρ σ1 H1 ρ1) : Rp H1 (Av F σ1 ρ1) v d :=
  r.mono (fun a o e n y => s.keep a o e (fun z => n (.inr z)) y) fun a o e z => s.av e z
theorem RpL.stpS {v : List V} {d : List D} (r : RpL H (Av F σ ρ) v d) (s : StpS nio σ H ρ σ1 H1 ρ1) : RpL H1 (Av F σ1 ρ1) v d :=
  r.mono (fun a o e n y => s.keep a o e (fun z => n (.inr z)) y) fun a o e z => s.av e z
end
def SSd (C : Cx → Prop) (st : Stmt) : TS := fun D σ H => ∀ X, C X → ∀ pins s, Inv X pins σ H s → wpAny (model X.prog X.w) X.A (exec st X.env) (SP X pins D) X.xe s
theorem ps_SSd {C : Cx → Prop} {X : Cx} (h : C X) {st : Stmt} : PS X st (SSd C st) := ⟨fun pins s σ H D I q => q X h pins s I⟩
theorem SSd.of {C : Cx → Prop} {st : Stmt} {D : Ends} {σ : Sg} {H : Hp} {t : TS} (h : t D σ H) (p : ∀ X, C X → PS X st t) : SSd C st D σ H := fun X hX pins s I => (p X hX).run pins s σ H D I h
def SSs (C : Cx → Prop) (st : List Stmt) : TS := fun D σ H => ∀ X, C X → ∀ pins s, Inv X pins σ H s → wpAny (model X.prog X.w) X.A (execs st X.env) (SP X pins D) X.xe s
theorem pss_SSs {C : Cx → Prop} {X : Cx} (h : C X) {st : List Stmt} : PSs X st (SSs C st) := ⟨fun pins s σ H D I q => q X h pins s I⟩
theorem SSs.of {C : Cx → Prop} {st : List Stmt} {D : Ends} {σ : Sg} {H : Hp} {t : TS} (h : t D σ H) (p : ∀ X, C X → PSs X st t) : SSs C st D σ H := fun X hX pins s I => (p X hX).run pins s σ H D I h
/-- what is wanted at an end -/
def EndO (nio : Nat) (F : Addr → Prop) (σ : Sg) (H : Hp) (ρ : Rho) (D : Ends) (ρ' : Rho) : Out → Prop
  | .nx => ∀ σ' H', StpS nio σ H ρ σ' H' ρ' → RS σ' H' F ρ' → D.nx σ' H'
  | .bk => ∀ σ' H', StpS nio σ H ρ σ' H' ρ' → RS σ' H' F ρ' → D.bk σ' H'
  | .ct => ∀ σ' H', StpS nio σ H ρ σ' H' ρ' → RS σ' H' F ρ' → D.ct σ' H'
  | .rt r => ∀ v σ' H', StpS nio σ H ρ σ' H' ρ' → RS σ' H' F ρ' → RR σ' H' F ρ' v r → Frs H v r → D.rt v H'
theorem EndO.from {nio : Nat} {F : Addr → Prop} {σ σ1 : Sg} {H H1 : Hp} {ρ ρ1 ρ' : Rho} {D : Ends} {o : Out} (h : EndO nio F σ H ρ D ρ' o) (s : StpS nio σ H ρ σ1 H1 ρ1) : EndO nio F σ1 H1 ρ1 D ρ' o := by
  cases o with
  | nx => exact fun σ' H' t => h σ' H' (s.trans t)
  | bk => exact fun σ' H' t => h σ' H' (s.trans t)
  | ct => exact fun σ' H' t => h σ' H' (s.trans t)
  | rt r => exact fun v σ' H' t S' rr f => h v σ' H' (s.trans t) S' rr (Frs.backS s f)
abbrev MtS := Scope → (Str → Bool) → Stmt → Bool
structure SS (G : Gx) (N : List Str) (nio : Nat) where
  mt : MtS
  ex : Rho → Option (Out × Rho)
  ok : ∀ (k : Nat) (sc : Scope) (cl : Str → Bool) (C : Cx → Prop), (∀ X, C X → COk G k N sc cl X) → ∀ st, mt sc cl st = true → ∀ (σ : Sg) (H : Hp) (F : Addr → Prop) (ρ : Rho), RS σ H F ρ → ∀ o ρ', ex ρ = some (o, ρ') → ∀ D : Ends, EndO nio F σ H ρ D ρ' o → SSd C st D σ H
section
variable {G : Gx} {N : List Str} {nio : Nat}
/-! ### blocks -/
def mtB (sc : Scope) (cl : Str → Bool) : List (SS G N nio) → List Stmt → Bool
  | [], [] => true
  | x :: xs, e :: es => x.mt sc cl e && mtB sc cl xs es
  | _, _ => false
@[simp] def exB : List (SS G N nio) → Rho → Option (Out × Rho)
  | [], ρ => some (.nx, ρ)
  | x :: xs, ρ => (x.ex ρ).bind fun p => match p.1 with
    | .nx => exB xs p.2
    | o => some (o, p.2)
theorem blk_ok {k : Nat} {sc : Scope} {cl : Str → Bool} {C : Cx → Prop} (hC : ∀ X, C X → COk G k N sc cl X) : ∀ (xs : List (SS G N nio)) (es : List Stmt), mtB sc cl xs es = true → ∀ {σ : Sg} {H : Hp} {F : Addr → Prop} {ρ : Rho}, RS σ H F ρ → ∀ {o : Out} {ρ' : Rho}, exB xs ρ = some (o, ρ') → ∀ {D : Ends}, EndO nio F σ H ρ D ρ' o → SSs C es D σ H
  | [], [], _, σ, H, F, ρ, S, o, ρ', ev, D, q => by
    cases ev
    exact SSs.of (t := tNext) (q σ H StpS.refl S) fun X hX => pss_nil
  | x :: xs, e :: es, m, σ, H, F, ρ, S, o, ρ', ev, D, q => by
    obtain ⟨m1, m2⟩ := Bool.and_eq_true_iff.mp m
    obtain ⟨⟨o1, ρ1⟩, e1, ev⟩ := Option.bind_eq_some_iff.mp ev
    refine SSs.of (t := tSeq (SSd C e) (SSs C es)) ?_ fun X hX => pss_cons (ps_SSd hX) (pss_SSs hX)
    refine x.ok k sc cl C hC e m1 σ H F ρ S o1 ρ1 e1 _ ?_
    try dsimp only at ev
    cases o1 with
    | nx => exact fun σ1 H1 s1 S1 => blk_ok hC xs es m2 S1 ev (q.from s1)
    | bk => cases ev; exact q
    | ct => cases ev; exact q
    | rt r => cases ev; exact q
/-! ### small statements -/
def xDead : SS G N nio where
  mt _ _ _ := true
  ex _ := none
  ok k sc cl C hC st m σ H F ρ S o ρ' ev D q := by cases ev
def xPass : SS G N nio where
  mt _ _ st := match st with
    | .Pass _ => true
    | _ => false
  ex ρ := some (.nx, ρ)
  ok k sc cl C hC st m σ H F ρ S o ρ' ev D q := by
    cases ev
    cases st <;> first | (cases m; done) | skip
    exact SSd.of (t := tNext) (q σ H StpS.refl S) fun X hX => ps_pass
def xBreak : SS G N nio where
  mt _ _ st := match st with
    | .Break _ => true
    | _ => false
  ex ρ := some (.bk, ρ)
  ok k sc cl C hC st m σ H F ρ S o ρ' ev D q := by
    cases ev
    cases st <;> first | (cases m; done) | skip
    exact SSd.of (t := tBreak) (q σ H StpS.refl S) fun X hX => ps_break
def xCont : SS G N nio where
  mt _ _ st := match st with
    | .Continue _ => true
    | _ => false
  ex ρ := some (.ct, ρ)
  ok k sc cl C hC st m σ H F ρ S o ρ' ev D q := by
    cases ev
    cases st <;> first | (cases m; done) | skip
    exact SSd.of (t := tCont) (q σ H StpS.refl S) fun X hX => ps_continue
def xExpr (x : SX G N) : SS G N nio where
  mt sc cl st := match st with
    | .Expr e _ => notComp e && x.mt sc cl e
    | _ => false
  ex ρ := (x.ev ρ).map fun p => (.nx, p.2)
  ok k sc cl C hC st m σ H F ρ S o ρ' ev D q := by
    try dsimp only at ev
    cases st <;> first | (cases m; done) | skip
    rename_i e pos
    obtain ⟨m1, m2⟩ := Bool.and_eq_true_iff.mp m
    obtain ⟨⟨r, ρ1⟩, e1, ev⟩ := Option.map_eq_some_iff.mp ev
    cases ev
    exact SSd.of (t := tDrop (SE C e)) (x.ok k sc cl C hC e m2 σ H F ρ S r ρ1 e1 _ fun v H1 s1 S1 _ _ => q σ H1 (s1.s S1) S1) fun X hX => ps_expr (pe_SE hX) (swapsWith_of m1)
def xRet (x : SX G N) : SS G N nio where
  mt sc cl st := match st with
    | .Return (some e) _ => x.mt sc cl e
    | _ => false
  ex ρ := (x.ev ρ).map fun p => (.rt p.1, p.2)
  ok k sc cl C hC st m σ H F ρ S o ρ' ev D q := by
    try dsimp only at ev
    cases st <;> first | (cases m; done) | skip
    rename_i e pos
    cases e <;> first | (cases m; done) | skip
    rename_i e
    obtain ⟨⟨r, ρ1⟩, e1, ev⟩ := Option.map_eq_some_iff.mp ev
    cases ev
    exact SSd.of (t := tRet (SE C e)) (x.ok k sc cl C hC e m σ H F ρ S r ρ1 e1 _ fun v H1 s1 S1 h f => q v σ H1 (s1.s S1) S1 h f) fun X hX => ps_ret (pe_SE hX)
def xIf (c : SXT G N) (a b : List (SS G N nio)) : SS G N nio where
  mt sc cl st := match st with
    | .If t x y _ => c.mt sc cl t && (mtB sc cl a x && mtB sc cl b y)
    | _ => false
  ex ρ := (c.ev ρ).bind fun p => match p.1 with
    | true => exB a p.2
    | false => exB b p.2
  ok k sc cl C hC st m σ H F ρ S o ρ' ev D q := by
    try dsimp only at ev
    cases st <;> first | (cases m; done) | skip
    rename_i t x y pos
    simp only [Bool.and_eq_true] at m
    obtain ⟨m1, m2, m3⟩ := m
    obtain ⟨⟨d, ρ1⟩, e1, ev⟩ := Option.bind_eq_some_iff.mp ev
    try dsimp only at ev
    refine SSd.of (t := tIfS (ST C t) (SSs C x) (SSs C y)) ?_ fun X hX => ps_if (pt_ST hX) (pss_SSs hX) (pss_SSs hX)
    refine c.ok k sc cl C hC t m1 σ H F ρ S d ρ1 e1 _ fun H1 s1 S1 => ?_
    cases d with
    | true =>
      rw [if_pos rfl]
      exact blk_ok hC a x m2 S1 ev (q.from (s1.s S1))
    | false =>
      rw [if_neg Bool.false_ne_true]
      exact blk_ok hC b y m3 S1 ev (q.from (s1.s S1))
/-! ### stores -/
/-- a new list or dict into a slot -/
theorem put_ow {σ : Sg} {H : Hp} {F F2 : Addr → Prop} {ρ : Rho} {i : Nat} {p : Addr} {o : HO} {c : D} (S : RS σ H F ρ) (hi : i < ρ.length) (hF : F p) (h1 : H p = some o) (h2 : mutO o) (h3 : RpO H (Av F σ ρ) o c) (h4 : ∀ a, F2 a → F a ∧ a ≠ p) :
    RS (σ.set i (some (.ref p))) H F2 (ρ.set i (.ow c)) ∧ (∀ a, ownA (σ.set i (some (.ref p))) (ρ.set i (.ow c)) a → ownA σ ρ a ∨ a = p) ∧ ∀ a, Av F2 (σ.set i (some (.ref p))) (ρ.set i (.ow c)) a → Av F σ ρ a := by
  have hs : i < σ.length := by rw [S.len]; exact hi
  have gs : ∀ j : Nat, (σ.set i (some (.ref p)))[j]? = if i = j then some (some (.ref p)) else σ[j]? := fun j => by
    by_cases e : i = j
    · subst e; rw [List.getElem?_set_self hs, if_pos rfl]
    · rw [List.getElem?_set_ne e, if_neg e]
  have own : ∀ a, ownA (σ.set i (some (.ref p))) (ρ.set i (.ow c)) a → ownA σ ρ a ∨ a = p := fun a ⟨j, c2, h1, h2⟩ => by
    rw [setGet hi] at h1
    rw [gs] at h2
    by_cases e : i = j
    · rw [if_pos e] at h2; cases h2; exact .inr rfl
    · rw [if_neg e] at h1 h2
      exact .inl ⟨j, c2, h1, h2⟩
  have av : ∀ a, Av F2 (σ.set i (some (.ref p))) (ρ.set i (.ow c)) a → Av F σ ρ a := fun a z => by
    rcases z with z | z
    · exact .inl (h4 a z).1
    · rcases own a z with z | z
      · exact .inr z
      · subst z; exact .inl hF
  have nown : ∀ (j : Nat) (c2 : D) (q : Addr), ρ[j]? = some (.ow c2) → σ[j]? = some (some (.ref q)) → q ≠ p := fun j c2 q e1 e2 z => by
    obtain ⟨p2, o2, g1, _, _, _, g5⟩ := S.ow j c2 e1
    rw [e2] at g1
    cases g1
    subst z
    exact g5 hF
  refine ⟨⟨by rw [List.length_set, List.length_set]; exact S.len, fun j d2 e => ?_, fun j c2 e => ?_, fun j l c1 c2 p2 k1 k2 k3 k4 => ?_, fun a z => S.fd a (h4 a z).1, S.tb⟩, own, av⟩
  · rw [setGet hi] at e
    rw [gs]
    by_cases z : i = j
    · rw [if_pos z] at e; cases e
    · rw [if_neg z] at e ⊢
      obtain ⟨w, g1, g2⟩ := S.va j d2 e
      exact ⟨w, g1, g2.mono (fun _ _ e _ _ => e) fun a _ _ => av a⟩
  · rw [setGet hi] at e
    rw [gs]
    by_cases z : i = j
    · rw [if_pos z] at e ⊢
      cases e
      exact ⟨p, o, rfl, h1, h2, h3.mono (fun _ _ e _ _ => e) fun a _ _ => av a, fun z => (h4 p z).2 rfl⟩
    · rw [if_neg z] at e ⊢
      obtain ⟨q, o2, g1, g2, g3, g4, g5⟩ := S.ow j c2 e
      exact ⟨q, o2, g1, g2, g3, g4.mono (fun _ _ e _ _ => e) fun a _ _ => av a, fun z => g5 (h4 q z).1⟩
  · rw [setGet hi] at k1 k2
    rw [gs] at k3 k4
    by_cases z : i = j
    · by_cases y : i = l
      · exact z.symm.trans y
      · rw [if_pos z] at k3
        cases k3
        rw [if_neg y] at k2 k4
        exact absurd rfl (nown l c2 p k2 k4)
    · by_cases y : i = l
      · rw [if_pos y] at k4
        cases k4
        rw [if_neg z] at k1 k3
        exact absurd rfl (nown j c1 p k1 k3)
      · rw [if_neg z] at k1 k3
        rw [if_neg y] at k2 k4
        exact S.dj j l c1 c2 p2 k1 k2 k3 k4
/-- a value into a slot -/
@[simp] def putR (i : Nat) (r : R) (ρ : Rho) : Option Rho := if i < ρ.length then match r with
    | .v d => some (ρ.set i (.va d))
    | .fr c => some (ρ.set i (.ow c))
    | .bo _ => (toD r ρ).map fun p => p.2.set i (.va p.1)
  else none
theorem put_ok {σ : Sg} {H : Hp} {F : Addr → Prop} {ρ ρ' : Rho} {i : Nat} {v : V} {r : R} (S : RS σ H F ρ) (h : RR σ H F ρ v r) (e : putR i r ρ = some ρ') (hn : nio ≤ i) {H0 : Hp} {ρ0 : Rho} (st : Stp σ H0 ρ0 H ρ) (hf : Frs H0 v r) :
    RS (σ.set i (some v)) H F ρ' ∧ StpS nio σ H0 ρ0 (σ.set i (some v)) H ρ' := by
  unfold putR at e
  split at e
  · rename_i hi
    cases r with
    | v d =>
      cases e
      obtain ⟨S', t⟩ := put_va S hi h
      exact ⟨S', (st.s S).trans (t.s (by simpa using hn))⟩
    | fr c =>
      cases e
      obtain ⟨p, o, rfl, h1, h2, h3, h4, h5⟩ := h
      obtain ⟨S', own, _⟩ := put_ow (F2 := F) h4 hi (.inr rfl) h1 h2 h3 fun a z => ⟨.inl z, fun z2 => h5 (by subst z2; exact z)⟩
      refine ⟨S', st.keep, fun a z => ?_, fun j hj => ?_, (st.s (nio := nio) S).al⟩
      · rcases own a z with z | z
        · exact .inl (st.own a z)
        · subst z; obtain ⟨p2, g1, g2⟩ := hf; cases g1; exact .inr g2
      · rw [List.getElem?_set_ne (by omega)]
    | bo j =>
      obtain ⟨⟨d, ρ1⟩, e1, e2⟩ := Option.map_eq_some_iff.mp e
      cases e2
      obtain ⟨s1, S1, r1⟩ := toD_ok S h e1
      have hl : i < ρ1.length := by rw [← S1.len, S.len]; exact hi
      obtain ⟨S', t⟩ := put_va S1 hl r1
      exact ⟨S', ((st.trans s1).s S1).trans (t.s (by simpa using hn))⟩
  · cases e
end
end Ev
set_option Elab.async false
set_option linter.all false
set_option maxRecDepth 100000
set_option maxHeartbeats 2000000
/-! EvL: stores, loops -/
namespace Ev
open PySem L2
variable [Tbs]
def isLc : Expr → Bool
  | .ListComp .. => true
  | _ => false
theorem swaps_lc {e : Expr} {t : Str} {p : Pos} {l : Nat} {env : Env} (h : isLc e = true) (hn : env.scope.names.lookup t ≠ some .local) : swapsWith e (some (.Name t p)) l env = pure false := by
  cases e <;> first | (cases h; done) | skip
  unfold swapsWith
  have : (env.kindOf t == some NameKind.local) = false := by
    unfold Env.kindOf
    exact beq_false_of_ne hn
  simp only [this, Bool.and_false, Bool.false_and]
  try rfl
def swC1 (sc : Scope) (ts vs : List Expr) : Bool := !(ts.length == 2 || ts.length == 3) || vs.length != ts.length || (if sc.kind.isAnnotationScope then ScopeKind.function else sc.kind) != .function
def swC2 (vs : List Expr) : Bool := vs.any fun | .Starred .. => true | _ => false
def swNm (sc : Scope) (ts : List Expr) : List Str :=
    let line := (ts.head?.map (·.pos.line)).getD 0
    ts.filterMap fun
      | .Name id pos => if sc.names.lookup id == some .local && pos.line == line then some id else none
      | _ => none
def swC3 (sc : Scope) (ts : List Expr) : Bool := (swNm sc ts).length != ts.length || (swNm sc ts).eraseDups.length != (swNm sc ts).length
def swB (sc : Scope) (ts vs : List Expr) : Option (Option (List Str)) :=
  match swC1 sc ts vs with
  | true => some none
  | false => match swC2 vs with
    | true => some none
    | false => match swC3 sc ts with
      | true => some none
      | false => match vs.all (foldedForSure 8) with
        | true => some none
        | false => match vs.all (constantsAlone 8) with
          | true => none
          | false => some (some (swNm sc ts))
theorem swB_ok {env : Env} {ts vs : List Expr} {r : Option (List Str)} {k k2 : Nat} {p p2 : Pos} (h : swB env.scope ts vs = some r) : swappedStores [.Tuple ts k p] (.Tuple vs k2 p2) env = pure r := by
  have e : swappedStores [.Tuple ts k p] (.Tuple vs k2 p2) env = (if swC1 env.scope ts vs = true then pure none else if swC2 vs = true then pure none else if swC3 env.scope ts = true then pure none else if vs.all (foldedForSure 8) = true then pure none else if vs.all (constantsAlone 8) = true then (do let r ← (unsupported "assign.tuple-of-constant-expressions:order-of-the-stores" : Sem PUnit); pure (some (swNm env.scope ts))) else pure (some (swNm env.scope ts))) := by
    unfold swappedStores
    rfl
  rw [e]
  unfold swB at h
  cases h1 : swC1 env.scope ts vs with
  | true => rw [h1] at h; cases h; rfl
  | false =>
    rw [h1] at h
    cases h2 : swC2 vs with
    | true => rw [h2] at h; cases h; rfl
    | false =>
      rw [h2] at h
      cases h3 : swC3 env.scope ts with
      | true => rw [h3] at h; cases h; rfl
      | false =>
        rw [h3] at h
        cases h4 : vs.all (foldedForSure 8) with
        | true => rw [h4] at h; cases h; rfl
        | false =>
          rw [h4] at h
          cases h5 : vs.all (constantsAlone 8) with
          | true => rw [h5] at h; cases h
          | false => rw [h5] at h; cases h; rfl
end Ev
set_option Elab.async false
set_option linter.all false
set_option maxRecDepth 100000
set_option maxHeartbeats 2000000
/-! EvM: assignments -/
namespace Ev
open PySem L2
variable [Tbs]
section
variable {G : Gx} {N : List Str} {nio : Nat}
theorem COk.loc {k : Nat} {sc : Scope} {cl : Str → Bool} {X : Cx} (h : COk G k N sc cl X) {x : Str} (m : locB sc cl x = true) : L2.Loc X.env.scope x ∧ (X.fn x = true ∨ X.env.scope.names.lookup x = some .local) := by
  obtain ⟨l1, l2⟩ := locB_ok m
  refine ⟨by rw [h.sc]; exact l1, ?_⟩
  rcases l2 with z | z
  · exact .inl (h.cl x z)
  · exact .inr (by rw [h.sc]; exact z)
def setM (i : Nat) (x : SX G N) (sc : Scope) (cl : Str → Bool) (st : Stmt) : Bool := match st with
  | .Assign [.Name y _] e _ => (decide (N[i]? = some y) && locB sc cl y) && ((notComp e || (isLc e && decide (sc.names.lookup y ≠ some .local))) && x.mt sc cl e)
  | _ => false
/-- name = e -/
def xSet (i : Nat) (x : SX G N) : SS G N nio where
  mt sc cl st := setM i x sc cl st
  ex ρ := match decide (nio ≤ i) with
    | true => (x.ev ρ).bind fun p => (putR i p.1 p.2).map fun ρ' => (.nx, ρ')
    | false => none
  ok k sc cl C hC st m σ H F ρ S o ρ' ev D q := by
    try dsimp only at ev
    split at ev
    · rename_i hn
      have hn := of_decide_eq_true hn
      unfold setM at m
      split at m
      · rename_i y py e pos
        simp only [Bool.and_eq_true, Bool.or_eq_true, decide_eq_true_eq] at m
        obtain ⟨⟨m1, m2⟩, m3, m4⟩ := m
        obtain ⟨⟨r, ρ1⟩, e1, ev⟩ := Option.bind_eq_some_iff.mp ev
        obtain ⟨ρ2, e2, ev⟩ := Option.map_eq_some_iff.mp ev
        cases ev
        refine SSd.of (t := tAsg (SE C e) (gName i)) ?_ fun X hX => ps_set (by rw [(hC X hX).nm]; exact (hC X hX).nd) (by rw [(hC X hX).nm]; exact m1) ((hC X hX).loc m2).1 (pe_SE hX) ?_ ((hC X hX).loc m2).2
        · refine x.ok k sc cl C hC e m4 σ H F ρ S r ρ1 e1 _ fun v H1 s1 S1 h f => ?_
          obtain ⟨S2, s2⟩ := put_ok S1 h e2 hn s1 f
          exact q _ _ s2 S2
        · rcases m3 with z | ⟨z, z2⟩
          · exact swapsWith_of z
          · exact swaps_lc z (by rw [(hC X hX).sc]; exact z2)
      · cases m
    · cases ev
def setLcM (i : Nat) (own : List (Str × Nat)) (tg : STg G N) (it : SI G N) (c : Option (SXT G N)) (elt : SX G N) (sc : Scope) (cl : Str → Bool) (st : Stmt) : Bool := match st with
  | .Assign [.Name y py] (.ListComp el gs scope pos) _ => (decide (N[i]? = some y) && decide (sc.names.lookup y = some .local)) && ((py.line == pos.line && !(scope.names.any fun (n, k) => n == y && (k == .local || k == .cell))) && (decide (sc.kind = .function) && lcM own tg it c elt sc cl (.ListComp el gs scope pos)))
  | _ => false
/-- name = [.. for .. in ..], the name a local, on one line -/
def xSetLc (i : Nat) (own : List (Str × Nat)) (tg : STg G N) (it : SI G N) (c : Option (SXT G N)) (elt : SX G N) : SS G N nio where
  mt sc cl st := setLcM i own tg it c elt sc cl st
  ex ρ := match decide (nio ≤ i) with
    | true => (lcE own tg it c elt ρ).bind fun p => (putR i p.1 p.2).map fun ρ' => (.nx, ρ')
    | false => none
  ok k sc cl C hC st m σ H F ρ S o ρ' ev D q := by
    try dsimp only at ev
    split at ev
    · rename_i hn
      have hn := of_decide_eq_true hn
      unfold setLcM at m
      split at m
      · rename_i y py el gs scope pos spos
        simp only [Bool.and_eq_true, decide_eq_true_eq, Bool.not_eq_true'] at m
        obtain ⟨⟨m1, m2⟩, ⟨m3, m4⟩, m5, m6⟩ := m
        obtain ⟨⟨r, ρ1⟩, e1, ev⟩ := Option.bind_eq_some_iff.mp ev
        obtain ⟨ρ2, e2, ev⟩ := Option.map_eq_some_iff.mp ev
        cases ev
        unfold lcM at m6
        split at m6
        · rename_i el2 t it2 ifs a scope2 pos2 heq
          cases heq
          simp only [Bool.and_eq_true, decide_eq_true_eq] at m6
          obtain ⟨⟨rfl, k1, k0, k2⟩, ⟨k3, k4⟩, k5, k6⟩ := m6
          refine SSd.of (t := tAsg (tLc (SIt C t it2) (SG (COk G k N (relS scope sc) (clOf scope)) t) (condT (COk G k N (relS scope sc) (clOf scope)) ifs) (SE (COk G k N (relS scope sc) (clOf scope)) el) (own.map (·.2))) (gName i)) ?_ fun X hX => ?_
          · refine lc_read hC k2 k3 k4 k5 k6 S e1 fun v H1 s1 S1 h f => ?_
            obtain ⟨S2, s2⟩ := put_ok S1 h e2 hn s1 f
            exact q _ _ s2 S2
          · have hx := hC X hX
            exact ps_setLc hx.calm (by rw [hx.nm]; exact hx.nd) (by rw [hx.nm]; exact m1) (by rw [hx.sc]; exact m2) (sw_true (by rw [hx.sc]; exact m5) (by rw [hx.sc]; exact m2) m3 m4) (pi_SIt hX) (by rw [hx.nm, hx.sc]; exact blkOk_by k1)
              (fun s H C cs fp => pg_SG (hx.blk s H scope C cs fp)) (fun s H C cs fp => condT_pts k4 (hx.blk s H scope C cs fp)) (fun s H C cs fp => pe_SE (hx.blk s H scope C cs fp)) (notSet_ok k0)
        · cases m6
      · cases m
    · cases ev
/-! ### any targets -/
structure SGt (G : Gx) (N : List Str) (nio : Nat) where
  mt : Mt
  st : D → Rho → Option Rho
  ok : ∀ (k : Nat) (sc : Scope) (cl : Str → Bool) (C : Cx → Prop), (∀ X, C X → COk G k N sc cl X) → ∀ e, mt sc cl e = true → ∀ (σ : Sg) (H : Hp) (F : Addr → Prop) (ρ : Rho) (v : V) (d : D) (ρ' : Rho), RS σ H F ρ → Rp H (Av F σ ρ) v d → st d ρ = some ρ' →
    ∀ Q : Sg → Hp → Prop, (∀ σ' H', StpS nio σ H ρ σ' H' ρ' → RS σ' H' F ρ' → Q σ' H') → SG C e v σ H Q
def gtOf (t : STg G N) : SGt G N nio where
  mt := t.mt
  st d ρ := match t.slots.all fun i => decide (nio ≤ i) with
    | true => t.st d ρ
    | false => none
  ok k sc cl C hC e m σ H F ρ v d ρ' S r ev Q q := by
    try dsimp only at ev
    split at ev
    · rename_i hn
      exact t.ok k sc cl C hC e m σ H F ρ v d ρ' S r ev Q fun σ' S' g => q σ' H (g.s fun i hi => of_decide_eq_true (List.all_eq_true.mp hn i hi)) S'
    · cases ev
def gtsMt (sc : Scope) (cl : Str → Bool) : List (SGt G N nio) → List Expr → Bool
  | [], [] => true
  | t :: ts, e :: es => (notStar e && t.mt sc cl e) && gtsMt sc cl ts es
  | _, _ => false
theorem gtsMt_all {sc : Scope} {cl : Str → Bool} : ∀ {xs : List (SGt G N nio)} {es : List Expr}, gtsMt sc cl xs es = true → es.all notStar = true
  | [], [], _ => rfl
  | x :: xs, e :: es, h => by
    obtain ⟨h1, h2⟩ := Bool.and_eq_true_iff.mp h
    rw [List.all_cons, (Bool.and_eq_true_iff.mp h1).1, gtsMt_all h2]
    rfl
theorem gtsMt_len {sc : Scope} {cl : Str → Bool} : ∀ {xs : List (SGt G N nio)} {es : List Expr}, gtsMt sc cl xs es = true → es.length = xs.length
  | [], [], _ => rfl
  | x :: xs, e :: es, h => by
    rw [List.length_cons, List.length_cons, gtsMt_len (Bool.and_eq_true_iff.mp h).2]
@[simp] def gtsSt : List (SGt G N nio) → List D → Rho → Option Rho
  | [], [], ρ => some ρ
  | t :: ts, d :: ds, ρ => (t.st d ρ).bind fun ρ1 => gtsSt ts ds ρ1
  | _, _, _ => none
theorem gtsSt_len : ∀ {ts : List (SGt G N nio)} {ds : List D} {ρ ρ' : Rho}, gtsSt ts ds ρ = some ρ' → ds.length = ts.length
  | [], [], _, _, _ => rfl
  | t :: ts, d :: ds, ρ, ρ', h => by
    obtain ⟨ρ1, _, h2⟩ := Option.bind_eq_some_iff.mp h
    rw [List.length_cons, List.length_cons, gtsSt_len h2]
theorem gts_ok {k : Nat} {sc : Scope} {cl : Str → Bool} {C : Cx → Prop} (hC : ∀ X, C X → COk G k N sc cl X) : ∀ (ts : List (SGt G N nio)) (es : List Expr), gtsMt sc cl ts es = true → ∀ {σ : Sg} {H : Hp} {F : Addr → Prop} {ρ ρ' : Rho} {vs : List V} {ds : List D}, RS σ H F ρ → RpL H (Av F σ ρ) vs ds → gtsSt ts ds ρ = some ρ' →
    ∀ {Q : Sg → Hp → Prop}, (∀ σ' H', StpS nio σ H ρ σ' H' ρ' → RS σ' H' F ρ' → Q σ' H') → SGs C es vs σ H Q
  | [], [], _, σ, H, F, ρ, ρ', vs, ds, S, r, ev, Q, q => by
    match ds, ev with
    | [], ev =>
      cases ev
      cases r
      exact SGs.of (t := gNil) ⟨rfl, q σ H StpS.refl S⟩ fun X hX => pgs_nil
  | t :: ts, e :: es, m, σ, H, F, ρ, ρ', vs, ds, S, r, ev, Q, q => by
    match ds, ev with
    | d :: ds, ev =>
      obtain ⟨m1, m2⟩ := Bool.and_eq_true_iff.mp m
      obtain ⟨m0, m1⟩ := Bool.and_eq_true_iff.mp m1
      obtain ⟨ρ1, e1, e2⟩ := Option.bind_eq_some_iff.mp ev
      cases r with
      | cons r1 r2 =>
        rename_i v vs
        refine SGs.of (t := gCons (SG C e) (SGs C es)) ⟨v, vs, rfl, ?_⟩ fun X hX => pgs_cons (pg_SG hX) (pgs_SGs hX) (by rw [asgEach_of m0]; rfl)
        refine t.ok k sc cl C hC e m1 σ H F ρ v d ρ1 S r1 e1 _ fun σ1 H1 t1 S1 => ?_
        refine gts_ok hC ts es m2 S1 (r2.stpS t1) e2 fun σ2 H2 t2 S2 => ?_
        exact q σ2 H2 (t1.trans t2) S2
def gtTp (ts : List (SGt G N nio)) : SGt G N nio where
  mt sc cl e := match e with
    | .Tuple es _ _ => gtsMt sc cl ts es
    | _ => false
  st d ρ := match d with
    | .tuple ds => gtsSt ts ds ρ
    | _ => none
  ok k sc cl C hC e m σ H F ρ v d ρ' S r ev Q q := by
    try dsimp only at ev
    cases e <;> first | (cases m; done) | skip
    rename_i es x1 pos
    split at ev
    · rename_i ds
      obtain ⟨a, xs, rfl, h1, h2, h3⟩ := r.tup_of
      intro X hX
      refine SG.of (C := fun Y => Y = X) (t := gTup X.K es.length (SGs C es)) ?_ (fun Y hY => ?_) X rfl
      · refine ⟨a, xs, rfl, .inl (.inl h1), ?_, gts_ok hC ts es m S h3 ev q⟩
        rw [h3.length, gtsSt_len ev, gtsMt_len m]
      · subst hY
        obtain ⟨l1, l2⟩ := asgEach_len (env := Y.env) (gtsMt_all m)
        exact pg_tup (hC Y hX).calm (pgs_SGs hX) l1 l2
    · cases ev
/-- a dict with k put -/
def putD (k : Key) (d : D) (kvs : List (D × D)) : List (D × D) := match kvs.any fun p => eqK k p.1 with
  | true => kvs.map fun p => match eqK k p.1 with
    | true => (p.1, d)
    | false => p
  | false => kvs ++ [(keyD k, d)]
theorem any_rp {H : Hp} {A : Addr → Prop} {k : Key} : ∀ {kvs : List (Key × V)} {ds : List (D × D)}, RpK H A kvs ds → (kvs.any fun kv => decide (kv.1 = k)) = ds.any fun p => eqK k p.1
  | _, _, .nil => rfl
  | _, _, .cons (k := k') r t => by
    rw [List.any_cons, List.any_cons, any_rp t]
    show (decide (k' = k) || _) = (eqK k (keyD k') || _)
    rw [eqK_key]
theorem map_rp {H : Hp} {A : Addr → Prop} {k : Key} {v : V} {d : D} (r : Rp H A v d) : ∀ {kvs : List (Key × V)} {ds : List (D × D)}, RpK H A kvs ds → RpK H A (kvs.map fun kv => if kv.1 = k then (kv.1, v) else kv) (ds.map fun p => match eqK k p.1 with
    | true => (p.1, d)
    | false => p)
  | _, _, .nil => .nil
  | _, _, .cons (k := k') (v := v') (d := d') r' t => by
    rw [List.map_cons, List.map_cons]
    show RpK H A ((if k' = k then (k', v) else (k', v')) :: _) ((match eqK k (keyD k') with | true => (keyD k', d) | false => (keyD k', d')) :: _)
    rw [eqK_key]
    by_cases e : k' = k
    · rw [if_pos e, decide_eq_true e]
      exact .cons r (map_rp r t)
    · rw [if_neg e, decide_eq_false e]
      exact .cons r' (map_rp r t)
theorem appK {H : Hp} {A : Addr → Prop} {k : Key} {v : V} {d : D} (r : Rp H A v d) : ∀ {kvs : List (Key × V)} {ds : List (D × D)}, RpK H A kvs ds → RpK H A (kvs ++ [(k, v)]) (ds ++ [(keyD k, d)])
  | _, _, .nil => .cons r .nil
  | _, _, .cons r' t => .cons r' (appK r t)
theorem putD_rp {H : Hp} {A : Addr → Prop} {k : Key} {v : V} {d : D} (r : Rp H A v d) {kvs : List (Key × V)} {ds : List (D × D)} (h : RpK H A kvs ds) : RpK H A (putK kvs k v) (putD k d ds) := by
  unfold putK putD
  rw [any_rp h]
  cases (ds.any fun p => eqK k p.1) with
  | true =>
    rw [if_pos rfl]
    exact map_rp r h
  | false =>
    rw [if_neg Bool.false_ne_true]
    exact appK r h
theorem RpK.length {H : Hp} {A : Addr → Prop} : ∀ {kvs : List (Key × V)} {ds : List (D × D)}, RpK H A kvs ds → kvs.length = ds.length
  | _, _, .nil => rfl
  | _, _, .cons _ t => by rw [List.length_cons, List.length_cons, RpK.length t]
/-- o[i] = .., o the list or dict of a slot -/
def gtSub (i : Nat) (ix : SX G N) : SGt G N nio where
  mt sc cl e := match e with
    | .Subscript o j _ => (sVar (G := G) (N := N) i).mt sc cl o && (ix.mt sc cl j && plainI j)
    | _ => false
  st d ρ := match ρ[i]? with
    | some (.ow _) => (ix.evD ρ).bind fun p => match p.2[i]? with
      | some (.ow (.list ds)) => match p.1 with
        | .int z => (ixN ds.length z).map fun j => p.2.set i (.ow (.list (ds.set j d)))
        | _ => none
      | some (.ow (.dict kvs)) => match !isScr kvs && small kvs.length with
        | true => (keyOf p.1).map fun k => p.2.set i (.ow (.dict (putD k d kvs)))
        | false => none
      | _ => none
    | _ => none
  ok k sc cl C hC e m σ H F ρ v d ρ' S r ev Q q := by
    try dsimp only at ev
    cases e <;> first | (cases m; done) | skip
    rename_i oe je pos
    simp only [Bool.and_eq_true] at m
    obtain ⟨m1, m2, m3⟩ := m
    split at ev
    · rename_i c0 h0
      obtain ⟨⟨y, ρ1⟩, e1, ev⟩ := Option.bind_eq_some_iff.mp ev
      refine SG.of (t := gSub (SE C oe) (SE C je) fun o i v H Q => rSetL o i v H Q ∨ rSetD o i v H Q) ?_ fun X hX => pg_sub (pe_SE hX) (pe_SE hX) ?_ ?_
      · refine (sVar i).ok k sc cl C hC oe m1 σ H F ρ S (.bo i) ρ (by show (match ρ[i]? with | some (.va d) => some (R.v d, ρ) | some (.ow _) => some (R.bo i, ρ) | _ => none) = _; rw [h0]) _ fun w H1 s1 S1 hv _ => ?_
        refine ix.dat hC m2 S1 e1 fun u H2 s2 S2 ru => ?_
        obtain ⟨hv, _⟩ := hv
        have st := s1.trans s2
        have rv := (r.stp st : Rp H2 (Av F σ ρ1) v d)
        dsimp only at ev
        split at ev
        · rename_i ds h1
          split at ev
          · rename_i z
            obtain ⟨j, e2, ev⟩ := Option.map_eq_some_iff.mp ev
            cases ev
            obtain ⟨p, o, g1, g2, g3, g4, g5⟩ := S2.ow i _ h1
            rw [hv] at g1
            cases g1
            cases g4 with
            | lst g4 =>
              refine .inl ⟨p, _, z, j, rfl, ru.int_of, g2, by rw [g4.length]; exact e2, ?_⟩
              obtain ⟨S3, s3, _⟩ := m_end S2 h1 hv (g4.set rv j) rv
              exact q σ _ ((st.s S2).trans (s3.s S3)) S3
          · cases ev
        · rename_i kvs h1
          split at ev
          · rename_i hs
            obtain ⟨kk, e2, ev⟩ := Option.map_eq_some_iff.mp ev
            cases ev
            obtain ⟨hs1, hs2⟩ := Bool.and_eq_true_iff.mp hs
            obtain ⟨p, o, g1, g2, g3, g4, g5⟩ := S2.ow i _ h1
            rw [hv] at g1
            cases g1
            cases g4 with
            | scr g4 => exact g3.elim
            | dK g4 =>
              rename_i vs
              have pa : Av F σ ρ1 p := .inr ⟨i, _, h1, hv⟩
              have k2 : Kp (Av F σ ρ1) H2 (upd H2 p (.dK (putK vs kk v))) := fun a o e2 n _ => by
                rw [upd_ne (fun z => n (by subst z; exact pa))]
                exact e2
              obtain ⟨S3, s3⟩ := own_set (F' := F) (c' := .dict (putD kk d kvs)) S2 h1 hv (upd_extP g2 trivial) upd_same (show mutO (.dK (putK vs kk v)) from trivial) (.dK (RpK.mono k2 (fun _ _ _ z => z) (putD_rp rv g4))) fun a z => .inl z
              refine .inr ⟨p, upd H2 p (.dK (putK vs kk v)), rfl, ?_, q σ _ ((st.s S2).trans (s3.s S3)) S3⟩
              rw [keyOf_v e2 (.of ru)]
              exact DPut.k g2 (by rw [g4.length]; exact small_sz hs2)
          · cases ev
        · cases ev
      · exact fun pins s σ H o i v ov iv u Q I ro ri rv h => h.elim (set_list pins s σ H o i v ov iv u Q I ro ri rv) (set_dict (hC X hX).hu pins s σ H o i v ov iv u Q I ro ri rv)
      · intro _
        cases je <;> first | rfl | cases m3
    · cases ev
end
end Ev
set_option Elab.async false
set_option linter.all false
set_option maxRecDepth 100000
set_option maxHeartbeats 2000000
/-! EvN: assignments of several, operators in place -/
namespace Ev
open PySem L2
variable [Tbs]
section
variable {G : Gx} {N : List Str} {nio : Nat}
def asgB (sc : Scope) (tg e : Expr) : Bool := match tg with
  | .Tuple ts _ _ => match e with
    | .Tuple vs _ _ => decide (swB sc ts vs = some none)
    | _ => true
  | .List .. => false
  | _ => true
theorem asgB_ok {env : Env} {tg e : Expr} (h : asgB env.scope tg e = true) : swappedStores [tg] e env = pure none := by
  cases tg <;> first | (cases h; done) | skip
  all_goals cases e <;> first | rfl | exact swB_ok (of_decide_eq_true h)
def asgM (t : SGt G N nio) (x : SX G N) (sc : Scope) (cl : Str → Bool) (st : Stmt) : Bool := match st with
  | .Assign [tg] e _ => (notStar tg && (asgB sc tg e && notComp e)) && (t.mt sc cl tg && x.mt sc cl e)
  | _ => false
/-- target = e, any target, e as data -/
def xAsg (t : SGt G N nio) (x : SX G N) : SS G N nio where
  mt sc cl st := asgM t x sc cl st
  ex ρ := (x.evD ρ).bind fun p => (t.st p.1 p.2).map fun ρ' => (.nx, ρ')
  ok k sc cl C hC st m σ H F ρ S o ρ' ev D q := by
    try dsimp only at ev
    unfold asgM at m
    split at m
    · rename_i tg e pos
      simp only [Bool.and_eq_true] at m
      obtain ⟨⟨m1, m2, m3⟩, m4, m5⟩ := m
      obtain ⟨⟨d, ρ1⟩, e1, ev⟩ := Option.bind_eq_some_iff.mp ev
      obtain ⟨ρ2, e2, ev⟩ := Option.map_eq_some_iff.mp ev
      cases ev
      refine SSd.of (t := tAsg (SE C e) (SG C tg)) ?_ fun X hX => ps_asg (pe_SE hX) (pg_SG hX) (swapsWith_of m3) (asgB_ok (by rw [(hC X hX).sc]; exact m2)) (by rw [asgEach_of m1]; rfl)
      refine x.dat hC m5 S e1 fun v H1 s1 S1 r => ?_
      exact t.ok k sc cl C hC tg m4 σ H1 F ρ1 v d _ S1 r e2 _ fun σ2 H2 s2 S2 => q σ2 H2 ((s1.s S1).trans s2) S2
    · cases m
/-! ### several values at once -/
@[simp] def evRs : List (SX G N) → Rho → Option (List R × Rho)
  | [], ρ => some ([], ρ)
  | x :: r, ρ => (x.ev ρ).bind fun p => match p.1 with
    | .v d => (evRs r p.2).map fun s => (.v d :: s.1, s.2)
    | .fr c => (evRs r p.2).map fun s => (.fr c :: s.1, s.2)
    | .bo j => (toD (.bo j) p.2).bind fun q => (evRs r q.2).map fun s => (.v q.1 :: s.1, s.2)
inductive RRL (H0 : Hp) (σ : Sg) (H : Hp) (F' : Addr → Prop) (ρ : Rho) : (Addr → Prop) → List V → List R → Prop
  | nil {F : Addr → Prop} : RRL H0 σ H F' ρ F [] []
  | v {F : Addr → Prop} {w : V} {d : D} {vs : List V} {rs : List R} : Rp H (Av F' σ ρ) w d → RRL H0 σ H F' ρ F vs rs → RRL H0 σ H F' ρ F (w :: vs) (.v d :: rs)
  | fr {F : Addr → Prop} {p : Addr} {o : HO} {c : D} {vs : List V} {rs : List R} : F' p → ¬ F p → H0 p = none → H p = some o → mutO o → RpO H (Av F' σ ρ) o c → RRL H0 σ H F' ρ (orA F p) vs rs → RRL H0 σ H F' ρ F (.ref p :: vs) (.fr c :: rs)
theorem RRL.back {H0 H1 : Hp} (h : ∀ p, H1 p = none → H0 p = none) {σ : Sg} {H : Hp} {F' : Addr → Prop} {ρ : Rho} : ∀ {F : Addr → Prop} {vs : List V} {rs : List R}, RRL H1 σ H F' ρ F vs rs → RRL H0 σ H F' ρ F vs rs
  | _, _, _, .nil => .nil
  | _, _, _, .v r t => .v r (RRL.back h t)
  | _, _, _, .fr a b c d e f t => .fr a b (h _ c) d e f (RRL.back h t)
theorem RRL.length {H0 : Hp} {σ : Sg} {H : Hp} {F' : Addr → Prop} {ρ : Rho} : ∀ {F : Addr → Prop} {vs : List V} {rs : List R}, RRL H0 σ H F' ρ F vs rs → vs.length = rs.length
  | _, _, _, .nil => rfl
  | _, _, _, .v _ t => by rw [List.length_cons, List.length_cons, t.length]
  | _, _, _, .fr _ _ _ _ _ _ t => by rw [List.length_cons, List.length_cons, t.length]
theorem rs_ok {k : Nat} {sc : Scope} {cl : Str → Bool} {C : Cx → Prop} (hC : ∀ X, C X → COk G k N sc cl X) : ∀ (xs : List (SX G N)) (es : List Expr), mtNs sc cl xs es = true → ∀ {σ : Sg} {H : Hp} {F : Addr → Prop} {ρ ρ' : Rho} {rs : List R}, RS σ H F ρ → evRs xs ρ = some (rs, ρ') →
    ∀ {Q : List V → Hp → Prop}, (∀ vs H' F', (∀ a, F a → F' a) → (∀ a, F' a → F a ∨ H a = none) → Stp σ H ρ H' ρ' → RS σ H' F' ρ' → RRL H σ H' F' ρ' F vs rs → Q vs H') → SA C es σ H Q
  | [], [], _, σ, H, F, ρ, ρ', rs, S, ev, Q, q => by
    cases ev
    exact SA.of (t := tNil) (q [] H F (fun _ z => z) (fun _ z => .inl z) Stp.refl S .nil) fun X hX => pa_nil
  | x :: r, e :: es, m, σ, H, F, ρ, ρ', rs, S, ev, Q, q => by
    obtain ⟨m1, m2⟩ := Bool.and_eq_true_iff.mp m
    obtain ⟨m0, m1⟩ := Bool.and_eq_true_iff.mp m1
    obtain ⟨⟨r1, ρ1⟩, e1, ev⟩ := Option.bind_eq_some_iff.mp ev
    refine SA.of (t := tCons (SE C e) (SA C es)) ?_ fun X hX => pa_cons (pe_SE hX) (pa_SA hX) (starEach_of m0)
    refine x.ok k sc cl C hC e m1 σ H F ρ S r1 ρ1 e1 _ fun w H1 s1 S1 h f => ?_
    have bk : ∀ p, H1 p = none → H p = none := fun p => s1.none S1
    dsimp only at ev
    cases r1 with
    | v d =>
      obtain ⟨⟨rs2, ρ2⟩, e2, ev⟩ := Option.map_eq_some_iff.mp ev
      cases ev
      refine rs_ok hC r es m2 S1 e2 fun vs H2 F' i1 i2 s2 S2 t => q (w :: vs) H2 F' i1 (fun a z => (i2 a z).imp id (bk a)) (s1.trans s2) S2 (.v ?_ (t.back bk))
      exact Rp.mono (fun a o e n y => s2.keep a o e (fun z => n (.inr z)) y) (fun a o e z => by
        rcases z with z | z
        · rcases i2 a z with z | z
          · exact .inl z
          · rw [z] at e; cases e
        · exact .inr (s2.own a z)) h
    | bo j =>
      obtain ⟨⟨d, ρ2⟩, e2, ev⟩ := Option.bind_eq_some_iff.mp ev
      obtain ⟨⟨rs2, ρ3⟩, e3, ev⟩ := Option.map_eq_some_iff.mp ev
      cases ev
      obtain ⟨t1, T1, h1⟩ := toD_ok S1 h e2
      have s12 := s1.trans t1
      refine rs_ok hC r es m2 T1 e3 fun vs H2 F' i1 i2 s2 S2 t => q (w :: vs) H2 F' i1 (fun a z => (i2 a z).imp id (bk a)) (s12.trans s2) S2 (.v ?_ (t.back bk))
      exact Rp.mono (fun a o e n y => s2.keep a o e (fun z => n (.inr z)) y) (fun a o e z => by
        rcases z with z | z
        · rcases i2 a z with z | z
          · exact .inl z
          · rw [z] at e; cases e
        · exact .inr (s2.own a z)) h1
    | fr c =>
      obtain ⟨⟨rs2, ρ2⟩, e2, ev⟩ := Option.map_eq_some_iff.mp ev
      cases ev
      obtain ⟨p, o, rfl, h1, h2, h3, h4, h5⟩ := h
      obtain ⟨p', f1, f2⟩ := f
      cases f1
      have np : ¬ ownA σ ρ1 p := fun ⟨j, c', z1, z2⟩ => by
        obtain ⟨p2, o2, g1, _, _, _, g5⟩ := h4.ow j c' z1
        rw [z2] at g1
        cases g1
        exact g5 (.inr rfl)
      refine rs_ok hC r es m2 h4 e2 fun vs H2 F' i1 i2 s2 S2 t => q (.ref p :: vs) H2 F' (fun a z => i1 a (.inl z)) (fun a z => ?_) (s1.trans s2) S2 (.fr (i1 p (.inr rfl)) h5 f2 (s2.keep p o h1 np (mutO.nt h2)) h2 ?_ (t.back bk))
      · rcases i2 a z with (z | z) | z
        · exact .inl z
        · subst z; exact .inr f2
        · exact .inr (bk a z)
      · exact h3.mono (fun a o e n y => s2.keep a o e (fun z => n (.inr z)) y) fun a o e z => by
          rcases z with z | z
          · rcases i2 a z with z | z
            · exact .inl z
            · rw [z] at e; cases e
          · exact .inr (s2.own a z)
@[simp] def setsR : List Nat → List R → Rho → Option Rho
  | [], [], ρ => some ρ
  | i :: is, r :: rs, ρ => if i < ρ.length then match r with
      | .v d => setsR is rs (ρ.set i (.va d))
      | .fr c => setsR is rs (ρ.set i (.ow c))
      | .bo _ => none
    else none
  | _, _, _ => none
def setsV : List Nat → List V → Sg → Sg
  | i :: is, v :: vs, σ => setsV is vs (σ.set i (some v))
  | _, _, σ => σ
theorem RRL.move {H0 : Hp} {σ σ' : Sg} {H : Hp} {F1 F2 : Addr → Prop} {ρ ρ' : Rho} (av : ∀ a, Av F2 σ' ρ' a → Av F1 σ ρ a) : ∀ {F : Addr → Prop} {vs : List V} {rs : List R}, (∀ p, F1 p → ¬ F p → F2 p) → RRL H0 σ H F1 ρ F vs rs → RRL H0 σ' H F2 ρ' F vs rs
  | _, _, _, _, .nil => .nil
  | _, _, _, g, .v r t => .v (r.mono (fun _ _ e _ _ => e) fun a _ _ => av a) (RRL.move av g t)
  | _, _, _, g, .fr a b c d e f t => .fr (g _ a b) b c d e (f.mono (fun _ _ e _ _ => e) fun a _ _ => av a) (RRL.move av (fun p z n => g p z fun z2 => n (.inl z2)) t)
theorem RRL.weakF {H0 : Hp} {σ : Sg} {H : Hp} {F' : Addr → Prop} {ρ : Rho} : ∀ {F F2 : Addr → Prop} {vs : List V} {rs : List R}, RRL H0 σ H F' ρ F vs rs → (∀ a, F2 a → F a) → RRL H0 σ H F' ρ F2 vs rs
  | _, _, _, _, .nil, _ => .nil
  | _, _, _, _, .v r t, i => .v r (t.weakF i)
  | _, _, _, _, .fr a b c d e f t, i => .fr a (fun z => b (i _ z)) c d e f (t.weakF fun x z => z.imp (i x) id)
theorem sets_ok {H0 : Hp} {ρ0 : Rho} {σ0 : Sg} : ∀ (is : List Nat) (rs : List R) {σ : Sg} {H : Hp} {F F' : Addr → Prop} {ρ ρ' : Rho} {vs : List V}, (∀ i ∈ is, nio ≤ i) → RS σ H F' ρ → (∀ a, F a → F' a) → RRL H0 σ H F' ρ F vs rs → setsR is rs ρ = some ρ' → StpS nio σ0 H0 ρ0 σ H ρ →
    RS (setsV is vs σ) H F ρ' ∧ StpS nio σ0 H0 ρ0 (setsV is vs σ) H ρ'
  | [], [], σ, H, F, F', ρ, ρ', vs, hn, S, i1, t, ev, st => by
    cases ev
    cases t
    exact ⟨S.weaken i1, st⟩
  | i :: is, r :: rs, σ, H, F, F', ρ, ρ', vs, hn, S, i1, t, ev, st => by
    have hni : nio ≤ i := hn i (List.mem_cons_self ..)
    unfold setsR at ev
    split at ev
    · rename_i hi
      cases t with
      | v r t =>
        rename_i w d vs
        obtain ⟨S', g⟩ := put_va S hi r
        exact sets_ok is rs (fun j hj => hn j (List.mem_cons_of_mem _ hj)) S' i1 (t.move (fun a z => z.imp id (g.own a)) fun _ z _ => z) ev (st.trans (g.s (by simpa using hni)))
      | fr a b c d e f t =>
        rename_i p o cc vs
        obtain ⟨S', own, av⟩ := put_ow (F2 := fun x => F' x ∧ x ≠ p) S hi a d e f fun x z => z
        refine sets_ok is rs (F := F) (fun j hj => hn j (List.mem_cons_of_mem _ hj)) S' (fun x z => ⟨i1 x z, fun z2 => b (by subst z2; exact z)⟩) ?_ ev ⟨st.keep, fun x z => ?_, fun j hj => ?_, st.al⟩
        · exact (t.move av fun q z n => ⟨z, fun z2 => n (.inr z2)⟩).weakF fun q z => .inl z
        · rcases own x z with z | z
          · exact st.own x z
          · subst z; exact .inr c
        · rw [List.getElem?_set_ne (by omega)]
          exact st.io j hj
    · cases ev
@[simp] def exPar (is : List Nat) (xs : List (SX G N)) (ρ : Rho) : Option (Out × Rho) := match is.all fun i => decide (nio ≤ i) with
    | true => (evRs xs ρ).bind fun p => (setsR is p.1 p.2).map fun ρ' => (.nx, ρ')
    | false => none
theorem setsR_len : ∀ {is : List Nat} {rs : List R} {ρ ρ' : Rho}, setsR is rs ρ = some ρ' → rs.length = is.length
  | [], [], _, _, _ => rfl
  | i :: is, r :: rs, ρ, ρ', h => by
    unfold setsR at h
    split at h
    · rw [List.length_cons, List.length_cons]
      cases r with
      | v d => rw [setsR_len h]
      | fr c => rw [setsR_len h]
      | bo j => cases h
    · cases h
theorem par_read (is : List Nat) (xs : List (SX G N)) {k : Nat} {sc : Scope} {cl : Str → Bool} {C : Cx → Prop} (hC : ∀ X, C X → COk G k N sc cl X) {es : List Expr} (m : mtNs sc cl xs es = true) {σ : Sg} {H : Hp} {F : Addr → Prop} {ρ ρ' : Rho} {o : Out} (S : RS σ H F ρ) (ev : exPar (nio := nio) is xs ρ = some (o, ρ'))
    {D : Ends} (q : EndO nio F σ H ρ D ρ' o) : SA C es σ H fun vs H1 => vs.length = is.length ∧ D.nx (setsV is vs σ) H1 := by
  unfold exPar at ev
  split at ev
  · rename_i hn
    obtain ⟨⟨rs, ρ1⟩, e1, ev⟩ := Option.bind_eq_some_iff.mp ev
    obtain ⟨ρ2, e2, ev⟩ := Option.map_eq_some_iff.mp ev
    cases ev
    refine rs_ok hC xs es m S e1 fun vs H1 F' i1 i2 s1 S1 t => ?_
    obtain ⟨S2, s2⟩ := sets_ok (nio := nio) is rs (fun i hi => of_decide_eq_true (List.all_eq_true.mp hn i hi)) S1 i1 t e2 (s1.s S1)
    exact ⟨t.length.trans (setsR_len e2), q _ _ s2 S2⟩
  · cases ev
def parM2 (i j : Nat) (x y : SX G N) (sc : Scope) (cl : Str → Bool) (st : Stmt) : Bool := match st with
  | .Assign [.Tuple [.Name a pa, .Name b pb] kt pt] (.Tuple [e, f] _ _) _ => (decide (swB sc [.Name a pa, .Name b pb] [e, f] = some (some [a, b])) && mtNs sc cl [x, y] [e, f]) && ((decide (N[i]? = some a) && decide (N[j]? = some b)) && ((decide (sc.names.lookup a = some .local) && decide (sc.names.lookup b = some .local)) && decide (i ≠ j)))
  | _ => false
/-- a, b = x, y, plain local names -/
def xPar2 (i j : Nat) (x y : SX G N) : SS G N nio where
  mt sc cl st := parM2 i j x y sc cl st
  ex ρ := exPar (nio := nio) [i, j] [x, y] ρ
  ok k sc cl C hC st m σ H F ρ S o ρ' ev D q := by
    try dsimp only at ev
    unfold parM2 at m
    split at m
    · simp only [Bool.and_eq_true, decide_eq_true_eq] at m
      obtain ⟨⟨m1, m2⟩, ⟨m3, m4⟩, ⟨m5, m6⟩, m7⟩ := m
      refine SSd.of (t := tPar i j (SA C _)) ?_ fun X hX => ps_par (hC X hX).calm (by rw [(hC X hX).nm]; exact (hC X hX).nd) (by rw [(hC X hX).nm]; exact m3) (by rw [(hC X hX).nm]; exact m4) m7 (by rw [(hC X hX).sc]; exact m5) (by rw [(hC X hX).sc]; exact m6) (pa_SA hX) (swB_ok (by rw [(hC X hX).sc]; exact m1)) (by rfl)
      have rd := par_read [i, j] [x, y] hC m2 S ev q
      intro X hX pos pins s I
      refine thn (rd X hX pos pins s I) fun us s' ⟨vs, H1, I1, r1, hl, q1⟩ => ⟨vs, H1, I1, r1, ?_⟩
      match vs, hl with
      | [u, v], _ => exact ⟨u, v, rfl, q1⟩
    · cases m
def parM3 (i j l : Nat) (x y z : SX G N) (sc : Scope) (cl : Str → Bool) (st : Stmt) : Bool := match st with
  | .Assign [.Tuple [.Name a pa, .Name b pb, .Name c pc] kt pt] (.Tuple [e, f, g] _ _) _ => (decide (swB sc [.Name a pa, .Name b pb, .Name c pc] [e, f, g] = some (some [a, b, c])) && mtNs sc cl [x, y, z] [e, f, g]) && (((decide (N[i]? = some a) && decide (N[j]? = some b)) && decide (N[l]? = some c)) && (((decide (sc.names.lookup a = some .local) && decide (sc.names.lookup b = some .local)) && decide (sc.names.lookup c = some .local)) && ((decide (i ≠ j) && decide (i ≠ l)) && decide (j ≠ l))))
  | _ => false
def xPar3 (i j l : Nat) (x y z : SX G N) : SS G N nio where
  mt sc cl st := parM3 i j l x y z sc cl st
  ex ρ := exPar (nio := nio) [i, j, l] [x, y, z] ρ
  ok k sc cl C hC st m σ H F ρ S o ρ' ev D q := by
    try dsimp only at ev
    unfold parM3 at m
    split at m
    · simp only [Bool.and_eq_true, decide_eq_true_eq] at m
      obtain ⟨⟨m1, m2⟩, ⟨⟨m3, m4⟩, m4'⟩, ⟨⟨m5, m6⟩, m6'⟩, ⟨m7, m8⟩, m9⟩ := m
      refine SSd.of (t := tPar3 i j l (SA C _)) ?_ fun X hX => ps_par3 (hC X hX).calm (by rw [(hC X hX).nm]; exact (hC X hX).nd) (by rw [(hC X hX).nm]; exact m3) (by rw [(hC X hX).nm]; exact m4) (by rw [(hC X hX).nm]; exact m4') m7 m8 m9 (by rw [(hC X hX).sc]; exact m5) (by rw [(hC X hX).sc]; exact m6) (by rw [(hC X hX).sc]; exact m6') (pa_SA hX) (swB_ok (by rw [(hC X hX).sc]; exact m1)) (by rfl)
      have rd := par_read [i, j, l] [x, y, z] hC m2 S ev q
      intro X hX pos pins s I
      refine thn (rd X hX pos pins s I) fun us s' ⟨vs, H1, I1, r1, hl, q1⟩ => ⟨vs, H1, I1, r1, ?_⟩
      match vs, hl with
      | [u, v, w], _ => exact ⟨u, v, w, rfl, q1⟩
    · cases m
/-! ### name op= e -/
def rIp (g : D → D → Option D) : TIp := fun x y H Q => ∃ A a b d, Rp H A x a ∧ Rw H A y b ∧ g a b = some d ∧ ∀ v H', Ext H H' → Rp H' A v d → Q v H'
def AugD (op : Operator) (g : D → D → Option D) : Prop := ∀ X : Cx, X.calm = true → Room 0 X.A → PIp X op (rIp g)
def augM (op : Operator) (i : Nat) (x : SX G N) (sc : Scope) (cl : Str → Bool) (st : Stmt) : Bool := match st with
  | .AugAssign (.Name y _) o e _ => (decide (o = op) && decide (N[i]? = some y)) && (locB sc cl y && x.mt sc cl e)
  | _ => false
def xAug (op : Operator) (g : D → D → Option D) (h : AugD op g) (i : Nat) (x : SX G N) : SS G N nio where
  mt sc cl st := augM op i x sc cl st
  ex ρ := match decide (nio ≤ i) with
    | true => match ρ[i]? with
      | some (.va a) => (x.evD ρ).bind fun p => (g a p.1).map fun d => (.nx, p.2.set i (.va d))
      | _ => none
    | false => none
  ok k sc cl C hC st m σ H F ρ S o ρ' ev D q := by
    try dsimp only at ev
    split at ev
    · rename_i hn
      have hn := of_decide_eq_true hn
      split at ev
      · rename_i a h0
        unfold augM at m
        split at m
        · rename_i y py o2 e pos
          simp only [Bool.and_eq_true, decide_eq_true_eq] at m
          obtain ⟨⟨rfl, m1⟩, m2, m3⟩ := m
          obtain ⟨⟨d, ρ1⟩, e1, ev⟩ := Option.bind_eq_some_iff.mp ev
          obtain ⟨d2, e2, ev⟩ := Option.map_eq_some_iff.mp ev
          cases ev
          obtain ⟨v, h1, h2⟩ := S.va i a h0
          refine SSd.of (t := tAug i (SE C e) (rIp g)) ⟨v, h1, ?_⟩ fun X hX => ps_aug (by rw [(hC X hX).nm]; exact (hC X hX).nd) (by rw [(hC X hX).nm]; exact m1) ((hC X hX).loc m2).1 (pe_SE hX) (h X (hC X hX).calm (hC X hX).room0) ((hC X hX).loc m2).2
          refine x.dat hC m3 S e1 fun w H1 s1 S1 r => ?_
          refine ⟨Av F σ ρ1, a, d, d2, h2.stp s1, .of r, e2, fun u H2 xt ru => ?_⟩
          have S2 := S1.ext xt
          have hi : i < ρ1.length := by rw [← S1.len, S.len]; exact (List.getElem?_eq_some_iff.mp h0).1
          obtain ⟨S3, t⟩ := put_va S2 hi ru
          exact q _ _ (((s1.trans (Stp.ext xt)).s S2).trans (t.s (by simpa using hn))) S3
        · cases m
      · cases ev
    · cases ev
end
end Ev
set_option Elab.async false
set_option linter.all false
set_option maxRecDepth 100000
set_option maxHeartbeats 2000000
/-! EvO: loops, defs -/
namespace Ev
open PySem L2 PyProof.Rows PySem.Spec
variable [Tbs]
section
variable {G : Gx} {N : List Str} {nio : Nat}
def forF (tg : STg G N) (body : List (SS G N nio)) : List D → Rho → Option (Out × Rho)
  | [], ρ => some (.nx, ρ)
  | x :: xs, ρ => (tg.st x ρ).bind fun ρ1 => (exB body ρ1).bind fun p => match p.1 with
    | .nx => forF tg body xs p.2
    | .ct => forF tg body xs p.2
    | .bk => some (.nx, p.2)
    | .rt r => some (.rt r, p.2)
def forM (tg : STg G N) (it : SI G N) (body : List (SS G N nio)) (sc : Scope) (cl : Str → Bool) (st : Stmt) : Bool := match st with
  | .For t i b [] _ => (notSet i && it.mt sc cl t i) && (tg.mt sc cl t && mtB sc cl body b)
  | _ => false
def xFor (tg : STg G N) (it : SI G N) (body : List (SS G N nio)) : SS G N nio where
  mt sc cl st := forM tg it body sc cl st
  ex ρ := match tg.slots.all fun i => decide (nio ≤ i) with
    | true => (it.ev ρ).bind fun p => forF tg body p.1 p.2
    | false => none
  ok k sc cl C hC st m σ H F ρ S o ρ' ev D q := by
    try dsimp only at ev
    split at ev
    · rename_i hn
      unfold forM at m
      split at m
      · rename_i t i b pos
        simp only [Bool.and_eq_true] at m
        obtain ⟨⟨m0, m1⟩, m2, m3⟩ := m
        obtain ⟨⟨items, ρ1⟩, e1, ev⟩ := Option.bind_eq_some_iff.mp ev
        dsimp only at ev
        refine SSd.of (t := tFor (SIt C t i) (SG C t) (SSs C b)) ?_ fun X hX => ps_for (by rw [(hC X hX).xe]; exact PassesOwn.never) (hC X hX).calm (pi_SIt hX) (pg_SG hX) (pss_SSs hX) (notSet_ok m0)
        refine it.ok k sc cl C hC t i m1 σ H F ρ S items ρ1 e1 _ fun J H1 s1 S1 hit => ?_
        obtain ⟨Gd, Y, w, hGd, hY⟩ := hit
        have kp0 : ∀ {σi : Sg} {Hc : Hp} {ρi : Rho}, StpS nio σ H1 ρ1 σi Hc ρi → Kp (Av F σ ρ1) H1 Hc := fun st a o e n => st.keep a o e fun z => n (.inr z)
        have q1 := q.from (s1.s S1)
        refine for_it w (fun n σi Hc => ∃ ρi : Rho, RS σi Hc F ρi ∧ StpS nio σ H1 ρ1 σi Hc ρi ∧ forF tg body (items.drop n) ρi = some (o, ρ')) ⟨ρ1, S1, StpS.refl, ev⟩ ?_ ?_ ?_
        · rintro n σi Hc hle ⟨ρi, h1, h2, h3⟩
          exact hGd Hc (kp0 h2)
        · rintro n x σi Hc H' hlt ⟨ρi, h1, h2, h3⟩ hy
          obtain ⟨xt, hy⟩ := hY n Hc x H' hlt (kp0 h2) hy
          have hdr : items.drop n = items[n] :: items.drop (n + 1) := List.drop_eq_getElem_cons hlt
          rw [hdr] at h3
          obtain ⟨ρ2, g1, h3⟩ := Option.bind_eq_some_iff.mp h3
          obtain ⟨⟨ob, ρ3⟩, g2, h3⟩ := Option.bind_eq_some_iff.mp h3
          have Si : RS σi H' F ρi := h1.ext xt
          have rx : Rp H' (Av F σi ρi) x items[n] := by
            obtain ⟨d, d1, d2⟩ := hy (Av F σi ρi) fun a z => by
              refine ⟨?_, av_alloc h1 a z⟩
              rcases z with z | z
              · exact .inl (.inl z)
              · rcases h2.own a z with z | z
                · exact .inl (.inr z)
                · exact .inr z
            rw [List.getElem?_eq_getElem hlt] at d1
            cases d1
            exact d2
          have st2 : StpS nio σ H1 ρ1 σi H' ρi := h2.trans ((Stp.ext (σ := σi) (ρ := ρi) xt).s Si)
          refine tg.ok k sc cl C hC t m2 σi H' F ρi x items[n] ρ2 Si rx g1 _ fun σ2 S2 tgs => ?_
          have st3 := st2.trans (tgs.s (H := H') fun i hi => of_decide_eq_true (List.all_eq_true.mp hn i hi))
          refine blk_ok hC body b m3 S2 g2 ?_
          dsimp only at h3
          cases ob with
          | nx => exact fun σ4 H4 s4 S4 => ⟨ρ3, S4, st3.trans s4, h3⟩
          | ct => exact fun σ4 H4 s4 S4 => ⟨ρ3, S4, st3.trans s4, h3⟩
          | bk =>
            cases h3
            exact fun σ4 H4 s4 S4 => q1 σ4 H4 (st3.trans s4) S4
          | rt r =>
            cases h3
            exact fun v σ4 H4 s4 S4 rr f => q1 v σ4 H4 (st3.trans s4) S4 rr (Frs.backS st3 f)
        · rintro σi Hc ⟨ρi, h1, h2, h3⟩
          rw [List.drop_length] at h3
          cases h3
          exact q1 σi Hc h2 h1
      · cases m
    · cases ev
def whileF (c : SXT G N) (body : List (SS G N nio)) : Nat → Rho → Option (Out × Rho)
  | 0, _ => none
  | n + 1, ρ => (c.ev ρ).bind fun p => match p.1 with
    | false => some (.nx, p.2)
    | true => (exB body p.2).bind fun r => match r.1 with
      | .nx => whileF c body n r.2
      | .ct => whileF c body n r.2
      | .bk => some (.nx, r.2)
      | .rt x => some (.rt x, r.2)
def whileM (c : SXT G N) (body : List (SS G N nio)) (sc : Scope) (cl : Str → Bool) (st : Stmt) : Bool := match st with
  | .While t b [] _ => c.mt sc cl t && mtB sc cl body b
  | _ => false
def xWhile (fuel : Nat) (c : SXT G N) (body : List (SS G N nio)) : SS G N nio where
  mt sc cl st := whileM c body sc cl st
  ex ρ := whileF c body fuel ρ
  ok k sc cl C hC st m σ H F ρ S o ρ' ev D q := by
    try dsimp only at ev
    unfold whileM at m
    split at m
    · rename_i t b pos
      simp only [Bool.and_eq_true] at m
      obtain ⟨m1, m2⟩ := m
      refine SSd.of (t := tWhile (ST C t) (SSs C b)) ?_ fun X hX => ps_while (by rw [(hC X hX).xe]; exact PassesOwn.never) (pt_ST hX) (pss_SSs hX)
      refine ⟨fun n σi Hc => ∃ ρi : Rho, RS σi Hc F ρi ∧ StpS nio σ H ρ σi Hc ρi ∧ whileF c body n ρi = some (o, ρ'), ⟨fuel, ρ, S, StpS.refl, ev⟩, ?_⟩
      rintro n σi Hc ⟨ρi, h1, h2, h3⟩
      cases n with
      | zero => cases h3
      | succ n =>
        obtain ⟨⟨d, ρ2⟩, g1, h3⟩ := Option.bind_eq_some_iff.mp h3
        refine c.ok k sc cl C hC t m1 σi Hc F ρi h1 d ρ2 g1 _ fun H2 s2 S2 => ?_
        have st2 := h2.trans (s2.s S2)
        cases d with
        | false =>
          cases h3
          rw [if_neg Bool.false_ne_true]
          exact q σi H2 st2 S2
        | true =>
          rw [if_pos rfl]
          obtain ⟨⟨ob, ρ3⟩, g2, h3⟩ := Option.bind_eq_some_iff.mp h3
          refine ⟨fun σ4 H4 => ∃ ρi : Rho, RS σ4 H4 F ρi ∧ StpS nio σ H ρ σ4 H4 ρi ∧ whileF c body n ρi = some (o, ρ'), fun σ4 H4 z => ⟨n, Nat.lt_succ_self n, z⟩, ?_⟩
          refine blk_ok hC body b m2 S2 g2 ?_
          dsimp only at h3
          cases ob with
          | nx => exact fun σ4 H4 s4 S4 => ⟨ρ3, S4, st2.trans s4, h3⟩
          | ct => exact fun σ4 H4 s4 S4 => ⟨ρ3, S4, st2.trans s4, h3⟩
          | bk =>
            cases h3
            exact fun σ4 H4 s4 S4 => q σ4 H4 (st2.trans s4) S4
          | rt r =>
            cases h3
            exact fun v σ4 H4 s4 S4 rr f => q v σ4 H4 (st2.trans s4) S4 rr (Frs.backS st2 f)
    · cases m
/-! ### a def -/
def initR (nN : Nat) (ds : List D) : Rho := ds.map Slot.va ++ List.replicate (nN - ds.length) Slot.un
def initI (nN : Nat) : List D → Rho
  | c :: ds => (.ow c :: ds.map Slot.va) ++ List.replicate (nN - (ds.length + 1)) Slot.un
  | [] => []
@[simp] def rvOf (r : R) (ρ : Rho) : Option Rv := match r with
  | .v d => some (.v d)
  | .fr c => some (.fr c)
  | .bo i => match ρ[i]? with
    | some (.ow c) => some (.fr c)
    | _ => none
@[simp] def finO (o : Out) (ρ : Rho) : Option Rv := match o with
  | .nx => some (.v .none)
  | .rt r => rvOf r ρ
  | _ => none
/-- a def of np parameters as a function on data -/
def semD (np : Nat) (body : List (SS G N 0)) : FnSem where
  nio := false
  run ds := if ds.length = np then (exB body (initR N.length ds)).bind fun p => (finO p.1 p.2).map fun r => (r, .none) else none
theorem RpL.va_get {H : Hp} {A : Addr → Prop} {vs : List V} {ds : List D} {n : Nat} (r : RpL H A vs ds) {i : Nat} {s : Slot} (h : (ds.map Slot.va ++ List.replicate n Slot.un)[i]? = some s) :
    (s = .un) ∨ ∃ d v, s = .va d ∧ ds[i]? = some d ∧ vs[i]? = some v ∧ Rp H A v d := by
  rw [List.getElem?_append] at h
  split at h
  · rename_i hi
    rw [List.getElem?_map] at h
    obtain ⟨d, h1, h2⟩ := Option.map_eq_some_iff.mp h
    obtain ⟨v, h3, h4⟩ := r.get h1
    exact .inr ⟨d, v, h2.symm, h1, h3, h4⟩
  · obtain ⟨_, h2⟩ := List.getElem?_eq_some_iff.mp h
    rw [List.getElem_replicate] at h2
    exact .inl h2.symm
theorem init_RS {H : Hp} {A : Addr → Prop} {vs : List V} {ds : List D} {nN : List Str} (r : RpL H A vs ds) (hA : ∀ a, A a → ∃ o, H a = some o) (tb : LamX.Tabs Tbs.T H) (hl : ds.length ≤ nN.length) : RS (L2.start nN vs) H A (initR nN.length ds) ∧ ∀ a, ¬ ownA (L2.start nN vs) (initR nN.length ds) a := by
  have no : ∀ (i : Nat) (c : D), (initR nN.length ds)[i]? ≠ some (.ow c) := fun i c h => by
    rcases r.va_get h with z | ⟨d, v, z, _⟩ <;> cases z
  have nown : ∀ a, ¬ ownA (L2.start nN vs) (initR nN.length ds) a := fun a ⟨i, c, h, _⟩ => no i c h
  refine ⟨⟨?_, fun i d h => ?_, fun i c h => absurd h (no i c), fun i j c c' p h => absurd h (no i c), hA, tb⟩, nown⟩
  · unfold L2.start initR
    rw [List.length_append, List.length_append, List.length_map, List.length_map, List.length_replicate, List.length_replicate, r.length]
  · rcases r.va_get h with z | ⟨d2, v, z, h1, h2, h3⟩
    · cases z
    · cases z
      refine ⟨v, ?_, h3.mono (fun _ _ e _ _ => e) fun a _ _ z => z.elim id fun z => absurd z (nown a)⟩
      unfold L2.start
      rw [List.getElem?_append_left (by rw [List.length_map]; exact (List.getElem?_eq_some_iff.mp h2).1), List.getElem?_map, h2]
      rfl
theorem rv_of {A : Addr → Prop} {σ σ' : Sg} {H H' : Hp} {ρ ρ' : Rho} {v : V} {r : R} {x : Rv} (st : StpS nio σ H ρ σ' H' ρ') (S : RS σ' H' A ρ') (h : RR σ' H' A ρ' v r) (f : Frs H v r) (e : rvOf r ρ' = some x) (hb : ∀ p i, r = .bo i → σ'[i]? = some (some (.ref p)) → H p = none) : RV H H' A v x := by
  cases r with
  | v d =>
    cases e
    exact Rp.mono (fun _ _ e _ _ => e) (fun a _ _ z => .inl z) h
  | fr c =>
    cases e
    obtain ⟨p, o, rfl, h1, h2, h3, h4, h5⟩ := h
    obtain ⟨p', f1, f2⟩ := f
    cases f1
    exact ⟨p, o, rfl, f2, h1, h2, h3.mono (fun _ _ e _ _ => e) fun a _ _ z => .inl z⟩
  | bo i =>
    obtain ⟨h1, c, h2⟩ := h
    have e2 : (match ρ'[i]? with
      | some (.ow c) => some (Rv.fr c)
      | _ => none) = some x := e
    rw [h2] at e2
    cases e2
    obtain ⟨p, o, g1, g2, g3, g4, g5⟩ := S.ow i c h2
    rw [h1] at g1
    cases g1
    refine ⟨p, o, rfl, hb p i rfl h1, g2, g3, g4.mono (fun _ _ e _ _ => e) fun a _ _ z => ?_⟩
    rcases z with z | z
    · exact .inl z
    · subst z; exact .inr ⟨i, c, h2, h1⟩
/-- the code object of the def at f -/
def CodeOf (K : PySem.W.Frag) (f : Addr) (cdv : Value) : Prop := ∃ (o : Obj) (fd : FuncData), K.lookup f = some o ∧ o.data = .func fd ∧ fd.code = cdv
/-- a def by its body, where no repr is under way -/
theorem FunD.okG {CX : CXT} {P : Program} {w : World} {K : PySem.W.Frag} {mg : Str → Option Value} {base : Heap} {x qual : Str} {params : Arguments} {body : List Stmt} {scope : Scope} {dvs : List V} {kws : List (Str × V)} {f : Addr} {fd : FuncData} {M ps : List Str} {k : Nat} {sp : Sp} (F : FunD K x qual params body scope dvs kws f fd) (S : FnScope M ps scope) (len : ∀ vs H Q E, sp vs H Q E → vs.length = ps.length)
    (hbody : ∀ (cdv : Value), CodeOf K f cdv → ∀ (A : Around) (outer : List Env) (s : Shared) (H : Hp) (vs : List V) (Q : VK) (E : XK), Room k (A.deeper (envOfC qual scope s.heap.objs.size f cdv)) → A.guards = some [] → sp vs H Q E →
      ∃ t, PSs (cxOf CX P w K mg base M qual scope f cdv A outer s H E) body t ∧ t { nx := fun _ H' => Q .non H', rt := Q } (L2.start M vs) H) : FnG P w K mg base CX (k + 1) f fd ps sp := by
  obtain ⟨oc, od, dV, kV, doc, pm, an, cdv, ct, osl, rfl, lk, hcd, _, _⟩ := F.ex
  refine ⟨len, fun A outer s H args us vs Q E hr hgd e0 hb r hsp => ?_⟩
  have hl := len _ _ _ _ hsp
  have KX : K.In s.heap := e0.mod.kin.keeps fun b o e => (e0.bs b o e).1
  have lim : s.heap.NoLimit := e0.mod.nolimit.keeps fun b o e => (e0.bs b o e).1
  have hkind : ∀ y ∈ ps.zip us, scope.names.lookup y.1 = some .local ∨ (scope.names.lookup y.1 = some .cell ∧ ((cellsFrom (s.heap.objs.size + 1) scope.names []).lookup y.1).isSome = true) := fun ⟨n, v⟩ hy => by
    rcases S.par n (List.of_mem_zip hy).1 with q | q
    · exact .inl q
    · exact .inr ⟨q, PySem.W.cellsFrom_some _ _ _ (.inl q)⟩
  refine codeAny_call_function hr.depth (KX _ _ lk) rfl S.co S.gen rfl (PySem.W.codeRec_of KX hcd) (hb _ _ _ _ ?_)
  refine wpAny_newFunctionEnv_cells S.kind hkind fun env he s1 x => ?_
  subst he
  refine ⟨lim.keeps x.toInCall.keep, codeAny_func ?_⟩
  obtain ⟨t, ht, hq⟩ := hbody cdv ⟨_, _, lk, rfl, rfl⟩ A outer s H vs Q E (hr.deeper _) hgd hsp
  have I : Inv (cxOf CX P w K mg base M qual scope f cdv A outer s H E) [] (L2.start M vs) H s1 := inv_start S hr.hd e0 hl r x
  refine wpAny_mono (ht.run [] s1 (L2.start M vs) H _ I hq) (fun fl s' hs => ?_) fun e s' hs => hs
  have fin : ∀ {σ' : L2.St} {H' : Hp} {v : V} {u : Value}, Inv (cxOf CX P w K mg base M qual scope f cdv A outer s H E) [] σ' H' s' → RelV v u → Q v H' → CE outer P w H s Q u s' :=
    fun {σ' H' v u} J rv q => ⟨v, H', J.os, J.bare, J.base, J.hok, rv, q⟩
  cases fl with
  | ret u =>
    obtain ⟨v, σ', H', J, rv, q⟩ := hs
    exact fin J rv q
  | next =>
    obtain ⟨σ', H', J, q⟩ := hs
    exact fin (v := V.non) (u := Value.none) J rfl q
  | brk =>
    obtain ⟨_, _, _, q⟩ := hs
    exact False.elim q
  | cont =>
    obtain ⟨_, _, _, q⟩ := hs
    exact False.elim q
/-- a def of the text keeps what its meaning promises -/
theorem fn_ok {P : Program} {w : World} {K : PySem.W.Frag} {mg : Str → Option Value} {base : Heap} {x qual : Str} {params : Arguments} {bd : List Stmt} {scope : Scope} {f : Addr} {fd : FuncData} {ps : List Str} {k : Nat} (body : List (SS G N 0)) (F : FunD K x qual params bd scope [] [] f fd)
    (Sc : FnScope N ps scope) (m : mtB scope (fun _ => true) body bd = true) (hle : ps.length ≤ N.length)
    (hf : ∀ p ∈ G.fns, ∀ X : Cx, X.prog = P → X.w = w → X.K = K → X.mg = mg → X.base = base → FnHas k X p.1 p.2) (hb : ∀ x ∈ G.bl, mg x = none) (hc : ∀ p ∈ G.cs, ∃ u v, mg p.1 = some u ∧ RelV v u ∧ cV p.2 = some v) (hlam : ∀ q, G.lam = some q → ∀ (L : Addr) (cdv : Value), CodeOf K f cdv → LamOk base mg (envOfC qual scope L f cdv) q) :
    FnG P w K mg base CX0 (k + 1) f fd ps (spOf (semD (N := N) (G := G) ps.length body)) := by
  refine FunD.okG F Sc (fun vs H Q E h => ?_) (fun cdv hcdv A outer s H vs Q E hr hgd h => ?_)
  · obtain ⟨A, ds, r, c', _, _, h1, h2, _⟩ := h
    unfold semD at h1
    dsimp only at h1
    split at h1
    · rename_i hl
      rw [h2, hl]
    · cases h1
  · obtain ⟨A0, ds, r, c', hA, tb, h1, h2, h3⟩ := h
    rcases h3 with ⟨_, h3, h4⟩ | ⟨h3, _⟩
    · unfold semD at h1
      dsimp only at h1
      split at h1
      · rename_i hl
        obtain ⟨⟨o, ρ'⟩, e1, h1⟩ := Option.bind_eq_some_iff.mp h1
        obtain ⟨rv, e2, h1⟩ := Option.map_eq_some_iff.mp h1
        cases h1
        dsimp only at e2
        obtain ⟨S0, nown⟩ := init_RS (nN := N) h3 hA tb (by rw [hl]; exact hle)
        have hX : COk G k N scope (fun _ => true) (cxOf CX0 P w K mg base N qual scope f cdv A outer s H E).nox :=
          ⟨rfl, Sc.nd, rfl, rfl, rfl, hr, hgd, fun _ _ => rfl, fun p hp => hf p hp _ rfl rfl rfl rfl rfl, hb, hc, fun q hq => hlam q hq _ cdv hcdv⟩
        refine ⟨SSs (COk G k N scope fun _ => true) bd, PSs.nox (pss_SSs hX), ?_⟩
        refine blk_ok (fun _ z => z) body bd m S0 e1 ?_
        cases o with
        | nx =>
          cases e2
          exact fun σ' H' st S' => h4 .non H' ⟨fun a o e y => st.keep a o e (nown a) y, st.al, fun _ => S'.tb⟩ .non
        | bk => cases e2
        | ct => cases e2
        | rt r =>
          refine fun v σ' H' st S' rr fr => h4 v H' ⟨fun a o e y => st.keep a o e (nown a) y, st.al, fun _ => S'.tb⟩ (rv_of st S' rr fr e2 fun p i hr hp => ?_)
          subst hr
          obtain ⟨_, c, h5⟩ := rr
          rcases st.own p ⟨i, c, h5, hp⟩ with z | z
          · exact absurd z (nown p)
          · exact z
      · cases h1
    · cases h3
/-- the same, its first argument a list that it may change -/
def semI (np : Nat) (body : List (SS G N 1)) : FnSem where
  nio := true
  run ds := if ds.length = np then (exB body (initI N.length ds)).bind fun p => match (p.2[0]? : Option Slot) with
    | some (Slot.ow c) => (match p.1 with
      | .rt (.bo 0) => none
      | o => finO o p.2).map fun r => (r, c)
    | _ => none
  else none
theorem initI_get {nN : Nat} {c : D} {ds : List D} {i : Nat} {s : Slot} (h : (initI nN (c :: ds))[i]? = some s) : (i = 0 ∧ s = .ow c) ∨ ∃ j, i = j + 1 ∧ (ds.map Slot.va ++ List.replicate (nN - (ds.length + 1)) Slot.un)[j]? = some s := by
  cases i with
  | zero => exact .inl ⟨rfl, (Option.some.inj h).symm⟩
  | succ j => exact .inr ⟨j, rfl, h⟩
theorem init_RSI {H : Hp} {A : Addr → Prop} {p : Addr} {o : HO} {c : D} {vs : List V} {ds : List D} {nN : List Str} (h1 : H p = some o) (h2 : mutO o) (hAp : A p) (h3 : RpO H A o c) (r : RpL H A vs ds) (hA : ∀ a, A a → ∃ o, H a = some o) (tb : LamX.Tabs Tbs.T H) (hl : ds.length + 1 ≤ nN.length) :
    RS (L2.start nN (.ref p :: vs)) H (fun a => A a ∧ a ≠ p) (initI nN.length (c :: ds)) ∧ ∀ a, ownA (L2.start nN (.ref p :: vs)) (initI nN.length (c :: ds)) a → a = p := by
  have ow0 : ∀ (i : Nat) (c' : D), (initI nN.length (c :: ds))[i]? = some (.ow c') → i = 0 ∧ c' = c := fun i c' h => by
    rcases initI_get h with ⟨z, e⟩ | ⟨j, _, e⟩
    · cases e; exact ⟨z, rfl⟩
    · rcases r.va_get e with z | ⟨d, v, z, _⟩ <;> cases z
  have own : ∀ a, ownA (L2.start nN (.ref p :: vs)) (initI nN.length (c :: ds)) a → a = p := fun a ⟨i, c', e1, e2⟩ => by
    obtain ⟨rfl, _⟩ := ow0 i c' e1
    have e3 : some (some (V.ref p)) = some (some (V.ref a)) := e2
    cases e3
    rfl
  have av : ∀ a, Av (fun a => A a ∧ a ≠ p) (L2.start nN (.ref p :: vs)) (initI nN.length (c :: ds)) a → A a := fun a z => by
    rcases z with z | z
    · exact z.1
    · rw [own a z]; exact hAp
  refine ⟨⟨?_, fun i d h => ?_, fun i c' h => ?_, fun i j c1 c2 q e1 e2 _ _ => ?_, fun a z => hA a z.1, tb⟩, own⟩
  · show ((V.ref p :: vs).map some ++ List.replicate (nN.length - (V.ref p :: vs).length) none).length = ((Slot.ow c :: ds.map Slot.va) ++ List.replicate (nN.length - (ds.length + 1)) Slot.un).length
    simp only [List.length_append, List.length_cons, List.length_map, List.length_replicate, r.length]
  · rcases initI_get h with ⟨_, e⟩ | ⟨j, rfl, e⟩
    · cases e
    · rcases r.va_get e with z | ⟨d2, v, z, g1, g2, g3⟩
      · cases z
      · cases z
        refine ⟨v, ?_, g3.mono (fun _ _ e _ _ => e) fun a _ _ => av a⟩
        show (some (V.ref p) :: (vs.map some ++ List.replicate (nN.length - (V.ref p :: vs).length) none))[j + 1]? = _
        rw [List.getElem?_cons_succ, List.getElem?_append_left (by rw [List.length_map]; exact (List.getElem?_eq_some_iff.mp g2).1), List.getElem?_map, g2]
        rfl
  · obtain ⟨rfl, rfl⟩ := ow0 i c' h
    exact ⟨p, o, rfl, h1, h2, h3.mono (fun _ _ e _ _ => e) fun a _ _ => av a, fun z => z.2 rfl⟩
  · rw [(ow0 i c1 e1).1, (ow0 j c2 e2).1]
theorem fn_okI {P : Program} {w : World} {K : PySem.W.Frag} {mg : Str → Option Value} {base : Heap} {x qual : Str} {params : Arguments} {bd : List Stmt} {scope : Scope} {f : Addr} {fd : FuncData} {ps : List Str} {k : Nat} (body : List (SS G N 1)) (F : FunD K x qual params bd scope [] [] f fd)
    (Sc : FnScope N ps scope) (m : mtB scope (fun _ => true) body bd = true) (hle : ps.length ≤ N.length)
    (hf : ∀ p ∈ G.fns, ∀ X : Cx, X.prog = P → X.w = w → X.K = K → X.mg = mg → X.base = base → FnHas k X p.1 p.2) (hb : ∀ x ∈ G.bl, mg x = none) (hc : ∀ p ∈ G.cs, ∃ u v, mg p.1 = some u ∧ RelV v u ∧ cV p.2 = some v) (hlam : ∀ q, G.lam = some q → ∀ (L : Addr) (cdv : Value), CodeOf K f cdv → LamOk base mg (envOfC qual scope L f cdv) q) :
    FnG P w K mg base CX0 (k + 1) f fd ps (spOf (semI (N := N) (G := G) ps.length body)) := by
  refine FunD.okG F Sc (fun vs H Q E h => ?_) (fun cdv hcdv A outer s H vs Q E hr hgd h => ?_)
  · obtain ⟨A, ds, r, c', _, _, h1, h2, _⟩ := h
    unfold semI at h1
    dsimp only at h1
    split at h1
    · rename_i hl
      rw [h2, hl]
    · cases h1
  · obtain ⟨A0, ds, r, c', hA, tb, h1, h2, h3⟩ := h
    rcases h3 with ⟨h3, _⟩ | ⟨_, p, o, c, vs', ds', rfl, rfl, g1, g2, g3, g4, g5, h4⟩
    · cases h3
    · unfold semI at h1
      dsimp only at h1
      split at h1
      · rename_i hl
        obtain ⟨⟨oo, ρ'⟩, e1, h1⟩ := Option.bind_eq_some_iff.mp h1
        try dsimp only at h1
        split at h1
        · rename_i c1 hc1
          obtain ⟨rv, e2, h1⟩ := Option.map_eq_some_iff.mp h1
          cases h1
          obtain ⟨S0, own⟩ := init_RSI (nN := N) g1 g2 g3 g4 g5 hA tb (by rw [← List.length_cons (a := c), hl]; exact hle)
          have hX : COk G k N scope (fun _ => true) (cxOf CX0 P w K mg base N qual scope f cdv A outer s H E).nox :=
            ⟨rfl, Sc.nd, rfl, rfl, rfl, hr, hgd, fun _ _ => rfl, fun p hp => hf p hp _ rfl rfl rfl rfl rfl, hb, hc, fun q hq => hlam q hq _ cdv hcdv⟩
          refine ⟨SSs (COk G k N scope fun _ => true) bd, PSs.nox (pss_SSs hX), ?_⟩
          refine blk_ok (fun _ z => z) body bd m S0 e1 ?_
          have kp : ∀ {σ' : Sg} {H' : Hp} {ρ' : Rho}, StpS 1 (L2.start N (.ref p :: vs')) H (initI N.length (c :: ds')) σ' H' ρ' → RS σ' H' (fun a => A0 a ∧ a ≠ p) ρ' → ExtP p H H' := fun st S' => ⟨fun a o e n y => st.keep a o e (fun z => n (own a z)) y, st.al, fun _ => S'.tb⟩
          -- the list, at the end
          have io : ∀ {σ' : Sg} {H' : Hp} {B : Addr → Prop}, StpS 1 (L2.start N (.ref p :: vs')) H (initI N.length (c :: ds')) σ' H' ρ' → RS σ' H' (fun a => A0 a ∧ a ≠ p) ρ' → (∀ a, B a → Av (fun a => A0 a ∧ a ≠ p) σ' ρ' a) → ∃ o', H' p = some o' ∧ mutO o' ∧ RpO H' B o' c' := fun st S' i => by
            obtain ⟨p2, o2, k1, k2, k3, k4, k5⟩ := S'.ow 0 _ hc1
            have k6 := st.io 0 Nat.zero_lt_one
            rw [k1] at k6
            have e3 : some (some (V.ref p2)) = some (some (V.ref p)) := k6
            cases e3
            exact ⟨o2, k2, k3, k4.mono (fun _ _ e _ _ => e) fun a _ _ => i a⟩
          have avp : ∀ {σ' : Sg} {H' : Hp}, StpS 1 (L2.start N (.ref p :: vs')) H (initI N.length (c :: ds')) σ' H' ρ' → RS σ' H' (fun a => A0 a ∧ a ≠ p) ρ' → ∀ a, A0 a → Av (fun a => A0 a ∧ a ≠ p) σ' ρ' a := fun {σ' H'} st S' a z => by
            by_cases e : a = p
            · subst e
              obtain ⟨p2, o2, k1, _⟩ := S'.ow 0 _ hc1
              have k6 := st.io 0 Nat.zero_lt_one
              rw [k1] at k6
              have e3 : some (some (V.ref p2)) = some (some (V.ref a)) := k6
              cases e3
              exact .inr ⟨0, _, hc1, k1⟩
            · exact .inl ⟨z, e⟩
          cases oo with
          | nx =>
            cases e2
            exact fun σ' H' st S' => h4 .non H' (kp st S') (io st S' (avp st S')) .non
          | bk => cases e2
          | ct => cases e2
          | rt r =>
            refine fun v σ' H' st S' rr fr => ?_
            cases r with
            | v d =>
              cases e2
              exact h4 v H' (kp st S') (io st S' (avp st S')) (Rp.mono (fun _ _ e _ _ => e) (fun a _ _ z => avp st S' a z) rr)
            | fr cc =>
              cases e2
              obtain ⟨q, o1, rfl, k1, k2, k3, k4, k5⟩ := rr
              obtain ⟨q', f1, f2⟩ := fr
              cases f1
              have S2 : RS σ' H' (orA (fun a => A0 a ∧ a ≠ p) q) ρ' := k4
              refine h4 (.ref q) H' (kp st S') ?_ ⟨q, o1, rfl, f2, k1, k2, k3.mono (fun _ _ e _ _ => e) fun a _ _ z => ?_⟩
              · obtain ⟨p2, o2, z1, z2, z3, z4, z5⟩ := S2.ow 0 _ hc1
                have k6 := st.io 0 Nat.zero_lt_one
                rw [z1] at k6
                have e3 : some (some (V.ref p2)) = some (some (V.ref p)) := k6
                cases e3
                refine ⟨o2, z2, z3, z4.mono (fun _ _ e _ _ => e) fun a _ _ z => ?_⟩
                rcases z with z | z
                · rcases avp st S' a z with y | y
                  · exact .inl (.inl y)
                  · exact .inr y
                · cases z; exact .inl (.inr rfl)
              · rcases z with z | z
                · rcases avp st S' a z with y | y
                  · exact .inl (.inl y)
                  · exact .inr y
                · subst z; exact .inl (.inr rfl)
            | bo i =>
              cases i with
              | zero => cases e2
              | succ i =>
                obtain ⟨k1, cc, k2⟩ := rr
                have e3 : (match ρ'[i + 1]? with
                  | some (.ow c) => some (Rv.fr c)
                  | _ => none) = some _ := e2
                rw [k2] at e3
                cases e3
                obtain ⟨q, o1, z1, z2, z3, z4, z5⟩ := S'.ow (i + 1) cc k2
                rw [k1] at z1
                cases z1
                have hq : H q = none := by
                  rcases st.own q ⟨i + 1, cc, k2, k1⟩ with y | y
                  · have := own q y
                    subst this
                    obtain ⟨p2, o2, y1, _⟩ := S'.ow 0 _ hc1
                    have k6 := st.io 0 Nat.zero_lt_one
                    have e4 : σ'[0]? = some (some (V.ref q)) := k6
                    have := S'.dj (i + 1) 0 _ _ q k2 hc1 k1 e4
                    cases this
                  · exact y
                have aq : Av (fun a => A0 a ∧ a ≠ p) σ' ρ' q := .inr ⟨i + 1, cc, k2, k1⟩
                refine h4 (.ref q) H' (kp st S') (io st S' fun a z => ?_) ⟨q, o1, rfl, hq, z2, z3, z4.mono (fun _ _ e _ _ => e) fun a _ _ z => ?_⟩
                · rcases z with z | z
                  · exact avp st S' a z
                  · cases z; exact aq
                · rcases z with z | z
                  · exact avp st S' a z
                  · subst z; exact aq
        · cases h1
      · cases h1
end
end Ev
set_option Elab.async false
set_option linter.all false
set_option maxRecDepth 100000
set_option maxHeartbeats 2000000
/-! EvP: operators and built-in functions -/
namespace Ev
open PySem L2
variable [Tbs]
section
variable {H : Hp} {A : Addr → Prop} {p : Addr}
theorem RpL.new {xs : List V} {ds : List D} (r : RpL H A xs ds) (hp : H p = none) (o : HO) : RpL (upd H p o) A xs ds := r.mono (fun a u e _ y => (Ext.new hp).k a u e y) fun _ _ _ z => z
theorem RpL.newO {xs : List V} {ds : List D} (r : RpL H A xs ds) (hp : H p = none) (o : HO) : RpL (upd H p o) (orA A p) xs ds := r.mono (fun a u e _ y => (Ext.new hp).k a u e y) fun a o e z => z.elim id fun z => absurd e (by rw [z, hp]; exact fun h => nomatch h)
theorem rv_list {xs : List V} {ds : List D} (r : RpL H A xs ds) (hp : H p = none) : RV H (upd H p (.lst xs)) A (.ref p) (.fr (.list ds)) := ⟨p, _, rfl, hp, upd_same, trivial, .lst (r.newO hp _)⟩
theorem rv_tup {xs : List V} {ds : List D} (al : ∀ a, A a → ∃ o, H a = some o) (r : RpL H A xs ds) (hp : H p = none) : RV H (upd H p (.tup xs)) A (.ref p) (.v (.tuple ds)) :=
  .ref (fun z => by obtain ⟨o, h⟩ := al p z; rw [hp] at h; cases h) upd_same (.tup (r.new hp _))
end
@[simp] def lsD : D → Option (List D)
  | .list ds => some ds
  | .dict [(.none, .tuple ds)] => some ds
  | _ => none
def tpD : D → Option (List D)
  | .tuple ds => some ds
  | _ => none
theorem lsD_rw {K : PySem.W.Frag} {H : Hp} {A : Addr → Prop} {v : V} {d : D} {ds : List D} (r : Rw H A v d) (h : lsD d = some ds) : ∃ a xs, v = .ref a ∧ SqL K H a xs ∧ RpL H A xs ds := by
  unfold lsD at h
  split at h
  · cases h
    obtain ⟨a, xs, h1, h2, h3⟩ := r.list_of
    exact ⟨a, xs, h1, .inl (.inl h2), h3⟩
  · cases h
    obtain ⟨a, ob, xs, ds', h1, h2, h3, h4⟩ := r.scr_of
    cases h3
    exact ⟨a, xs, h1, .inl (.inr ⟨ob, h2⟩), h4⟩
  · cases h
theorem tpD_rw {K : PySem.W.Frag} {H : Hp} {A : Addr → Prop} {v : V} {d : D} {ds : List D} (r : Rw H A v d) (h : tpD d = some ds) : ∃ a xs, v = .ref a ∧ SqT K H a xs ∧ RpL H A xs ds := by
  unfold tpD at h
  split at h
  · cases h
    obtain ⟨a, xs, h1, h2, _, h3⟩ := r.tup_of
    exact ⟨a, xs, h1, .inl (.inl h2), h3⟩
  · cases h
def intsD : List D → Option (List Int)
  | [] => some []
  | .int i :: r => (intsD r).map (i :: ·)
  | _ => none
theorem intsD_eq : ∀ {ds : List D} {ns : List Int}, intsD ds = some ns → ds = ns.map PyData.int
  | [], _, h => by cases h; rfl
  | .int i :: r, _, h => by
    obtain ⟨ns, h1, h2⟩ := Option.map_eq_some_iff.mp h
    rw [← h2, intsD_eq h1]; rfl
theorem intsD_map : ∀ ns : List Int, intsD (ns.map PyData.int) = some ns
  | [] => rfl
  | n :: ns => by show Option.map _ (intsD (ns.map PyData.int)) = _; rw [intsD_map ns]; rfl
def boolsD : List D → Option (List Bool)
  | [] => some []
  | .bool i :: r => (boolsD r).map (i :: ·)
  | _ => none
theorem boolsD_eq : ∀ {ds : List D} {ns : List Bool}, boolsD ds = some ns → ds = ns.map PyData.bool
  | [], _, h => by cases h; rfl
  | .bool i :: r, _, h => by
    obtain ⟨ns, h1, h2⟩ := Option.map_eq_some_iff.mp h
    rw [← h2, boolsD_eq h1]; rfl
theorem boolsD_map : ∀ ns : List Bool, boolsD (ns.map PyData.bool) = some ns
  | [] => rfl
  | n :: ns => by show Option.map _ (boolsD (ns.map PyData.bool)) = _; rw [boolsD_map ns]; rfl
/-! ### operators on ints, lists, tuples -/
@[simp] def addD : D → D → Option Rv
  | .int i, .int j => some (.v (.int (i + j)))
  | .list xs, .list ys => match small (xs.length + ys.length) with
    | true => some (.fr (.list (xs ++ ys)))
    | false => none
  | .tuple xs, .tuple ys => match small (xs.length + ys.length) with
    | true => some (.v (.tuple (xs ++ ys)))
    | false => none
  | _, _ => none
theorem add_ok : OpD .Add addD := by
  rintro X hc hr pins s σ H x y v u Q I rx ry ⟨A, a, b, r, al, ha, hb, e, q⟩
  unfold addD at e
  split at e
  · cases e
    cases ha.int_of
    cases hb.int_of
    exact op_add pins s σ H _ _ v u Q I rx ry ⟨_, _, rfl, rfl, q _ H Ext.refl (.int _)⟩
  · split at e
    · rename_i hs
      cases e
      obtain ⟨l, xs, rfl, h1, r1⟩ := ha.list_of
      obtain ⟨l2, ys, rfl, h2, r2⟩ := hb.list_of
      exact op_cat pins s σ H _ _ v u Q I rx ry ⟨l, l2, xs, ys, rfl, rfl, h1, h2, by rw [r1.length, r2.length]; exact Nat.le_of_lt (small_sz hs), fun p hp => q _ _ (Ext.new hp) (rv_list (r1.append r2) hp)⟩
    · cases e
  · split at e
    · rename_i hs
      cases e
      have ta := ha.tup_is
      have tb := hb.tup_is
      obtain ⟨l, xs, rfl, h1, n1, r1⟩ := ha.tup_of
      obtain ⟨l2, ys, rfl, h2, n2, r2⟩ := hb.tup_of
      refine op_catA pins s σ H _ _ v u Q I rx ry ⟨l, l2, xs, ys, rfl, rfl, .inl (.inl h1), .inl (.inl h2), by rw [r1.length, r2.length]; exact Nat.le_of_lt (small_sz hs), fun z => ?_, fun _ z => ?_, fun _ _ p hp => q _ _ (Ext.new hp) (rv_tup al (r1.append r2) hp)⟩
      · subst z
        cases r1
        exact q _ H Ext.refl tb
      · subst z
        cases r2
        exact q _ H Ext.refl (by rw [List.append_nil]; exact ta)
    · cases e
  · cases e
@[simp] def subD : D → D → Option Rv
  | .int i, .int j => some (.v (.int (i - j)))
  | _, _ => none
theorem sub_ok : OpD .Sub subD := by
  rintro X hc hr pins s σ H x y v u Q I rx ry ⟨A, a, b, r, al, ha, hb, e, q⟩
  unfold subD at e
  split at e
  · cases e
    cases ha.int_of
    cases hb.int_of
    exact op_sub pins s σ H _ _ v u Q I rx ry ⟨_, _, rfl, rfl, q _ H Ext.refl (.int _)⟩
  · cases e
@[simp] def fits (i : Int) : Bool := decide (-18446744073709551616 < i) && decide (i < 18446744073709551616)
theorem fits_ok {i : Int} (h : fits i = true) : -(2 ^ 64) < i ∧ i < 2 ^ 64 := by
  simp only [fits, Bool.and_eq_true, decide_eq_true_eq] at h
  omega
@[simp] def mulD : D → D → Option Rv
  | .int i, .int j => match fits i || fits j with
    | true => some (.v (.int (i * j)))
    | false => none
  | .list xs, .int k => match small (xs.length * k.toNat) && (small k.toNat && decide (0 ≤ k)) with
    | true => some (.fr (.list (List.replicate k.toNat xs).flatten))
    | false => none
  | .tuple xs, .int k => match decide (xs ≠ []) && (decide (2 ≤ k) && (decide (k ≤ 1000) && decide (xs.length ≤ 1000))) with
    | true => some (.v (.tuple (List.replicate k.toNat xs).flatten))
    | false => none
  | _, _ => none
theorem mul_ok : OpD .Mult mulD := by
  rintro X hc hr pins s σ H x y v u Q I rx ry ⟨A, a, b, r, al, ha, hb, e, q⟩
  unfold mulD at e
  split at e
  · split at e
    · rename_i hf
      cases e
      cases ha.int_of
      cases hb.int_of
      refine op_mul pins s σ H _ _ v u Q I rx ry ⟨_, _, rfl, rfl, ?_, q _ H Ext.refl (.int _)⟩
      rw [Bool.or_eq_true] at hf
      exact hf.imp fits_ok fits_ok
    · cases e
  · split at e
    · rename_i hf
      cases e
      simp only [Bool.and_eq_true, decide_eq_true_eq] at hf
      obtain ⟨f1, f2, f3⟩ := hf
      obtain ⟨l, xs, rfl, h1, r1⟩ := ha.list_of
      cases hb.int_of
      have f4 : _ ≤ _ := of_decide_eq_true f2
      refine op_rep pins s σ H _ _ v u Q I rx ry ⟨l, _, xs, rfl, rfl, h1, by omega, by omega, by rw [r1.length]; exact Nat.le_of_lt (small_sz f1), fun p hp => q _ _ (Ext.new hp) (rv_list (r1.flatten _) hp)⟩
    · cases e
  · split at e
    · rename_i hf
      cases e
      simp only [Bool.and_eq_true, decide_eq_true_eq] at hf
      obtain ⟨f1, f2, f3, f4⟩ := hf
      obtain ⟨l, xs, rfl, h1, n1, r1⟩ := ha.tup_of
      cases hb.int_of
      refine op_repT pins s σ H _ _ v u Q I rx ry ⟨l, _, xs, rfl, rfl, .inl (.inl h1), fun z => ?_, f2, f3, by rw [r1.length]; exact f4, fun p hp => q _ _ (Ext.new hp) (rv_tup al (r1.flatten _) hp)⟩
      subst z
      cases r1
      exact f1 rfl
    · cases e
  · cases e
@[simp] def modD : D → D → Option Rv
  | .int i, .int j => match decide (0 < j) with
    | true => some (.v (.int (i % j)))
    | false => none
  | _, _ => none
theorem mod_ok : OpD .Mod modD := by
  rintro X hc hr pins s σ H x y v u Q I rx ry ⟨A, a, b, r, al, ha, hb, e, q⟩
  unfold modD at e
  split at e
  · split at e
    · rename_i hf
      cases e
      cases ha.int_of
      cases hb.int_of
      exact op_mod pins s σ H _ _ v u Q I rx ry ⟨_, _, rfl, rfl, of_decide_eq_true hf, q _ H Ext.refl (.int _)⟩
    · cases e
  · cases e
@[simp] def fdvD : D → D → Option Rv
  | .int i, .int j => match decide (0 < j) && decide (j < 1073741824) with
    | true => some (.v (.int (i / j)))
    | false => none
  | _, _ => none
theorem fdv_ok : OpD .FloorDiv fdvD := by
  rintro X hc hr pins s σ H x y v u Q I rx ry ⟨A, a, b, r, al, ha, hb, e, q⟩
  unfold fdvD at e
  split at e
  · split at e
    · rename_i hf
      cases e
      rw [Bool.and_eq_true, decide_eq_true_eq, decide_eq_true_eq] at hf
      cases ha.int_of
      cases hb.int_of
      exact op_fdiv pins s σ H _ _ v u Q I rx ry ⟨_, _, rfl, rfl, hf, q _ H Ext.refl (.int _)⟩
    · cases e
  · cases e
/-- a ** n, 0 <= n <= 1000, a of at most 1000 bits -/
@[simp] def powD : D → D → Option Rv
  | .int i, .int j => match decide (0 ≤ j) && (decide (j ≤ 1000) && decide (i.natAbs < 2 ^ 1000)) with
    | true => some (.v (.int (i ^ j.toNat)))
    | false => none
  | _, _ => none
theorem bits1000 {i : Int} (h : i.natAbs < 2 ^ 1000) : Builtin.Int.intBits i ≤ 1000 := by
  unfold Builtin.Int.intBits
  split
  · exact Nat.zero_le _
  · rename_i hz
    have hz' : i.natAbs ≠ 0 := fun z => hz (by rw [Int.natAbs_eq_zero.mp z]; rfl)
    exact (Nat.log2_lt hz').mpr h
theorem op_powW {X : Cx} : OpR X (binaryOp .Pow) (rI (fun i j => 0 ≤ j ∧ (Builtin.Int.intBits i : Int) * j ≤ 2 ^ 27) fun i j => .int (i ^ j.toNat)) := opI fun _ _ _ _ _ _ _ hc q => PyProof.Rows.pow_int hc.1 hc.2 q
theorem pow_ok : OpD .Pow powD := by
  rintro X hc hr pins s σ H x y v u Q I rx ry ⟨A, a, b, r, al, ha, hb, e, q⟩
  unfold powD at e
  split at e
  · split at e
    · rename_i i j _ hf
      cases e
      simp only [Bool.and_eq_true, decide_eq_true_eq] at hf
      obtain ⟨f1, f2, f3⟩ := hf
      cases ha.int_of
      cases hb.int_of
      have hb := bits1000 f3
      refine op_powW pins s σ H _ _ v u Q I rx ry ⟨_, _, rfl, rfl, ⟨f1, ?_⟩, q _ H Ext.refl (.int _)⟩
      have : ((Builtin.Int.intBits i : Nat) : Int) ≤ 1000 := by omega
      calc ((Builtin.Int.intBits i : Nat) : Int) * j ≤ 1000 * 1000 := Int.mul_le_mul this f2 f1 (by decide)
        _ ≤ 2 ^ 27 := by decide
    · cases e
  · cases e
end Ev
set_option Elab.async false
set_option linter.all false
set_option maxRecDepth 100000
set_option maxHeartbeats 2000000
/-! EvQ: comparisons, built-in functions that the kit knows -/
namespace Ev
open PySem L2
variable [Tbs]
/-! ### data as == sees it -/
def shp : Nat → D → Bool
  | _, .none => true
  | _, .bool _ => true
  | _, .int _ => true
  | n + 1, .list ds => ds.all (shp n)
  | n + 1, .tuple ds => ds.all (shp n)
  | _, _ => false
mutual
theorem shp_lay : ∀ (n : Nat) (d : D), shp n d = true → d.canLay0 = true ∧ d.depth ≤ n + 1
  | n, .none, _ => ⟨rfl, by unfold PyData.depth; omega⟩
  | n, .bool _, _ => ⟨rfl, by unfold PyData.depth; omega⟩
  | n, .int _, _ => ⟨rfl, by unfold PyData.depth; omega⟩
  | n, .str x, h => by cases n <;> cases h
  | n, .dict x, h => by cases n <;> cases h
  | 0, .list ds, h => by cases h
  | 0, .tuple ds, h => by cases h
  | n + 1, .list ds, h => by
    obtain ⟨h1, h2⟩ := shp_layAll n ds h
    refine ⟨by unfold PyData.canLay0; exact h1, ?_⟩
    unfold PyData.depth
    omega
  | n + 1, .tuple ds, h => by
    obtain ⟨h1, h2⟩ := shp_layAll n ds h
    refine ⟨by unfold PyData.canLay0; exact h1, ?_⟩
    unfold PyData.depth
    omega
theorem shp_layAll : ∀ (n : Nat) (ds : List D), ds.all (shp n) = true → PyData.canLayAll0 ds = true ∧ PyData.depthAll ds ≤ n + 1
  | n, [], _ => ⟨rfl, by unfold PyData.depthAll; omega⟩
  | n, d :: ds, h => by
    rw [List.all_cons, Bool.and_eq_true] at h
    obtain ⟨h1, h2⟩ := shp_lay n d h.1
    obtain ⟨h3, h4⟩ := shp_layAll n ds h.2
    refine ⟨by unfold PyData.canLayAll0; rw [h1, h3]; rfl, ?_⟩
    unfold PyData.depthAll
    omega
end
theorem shp_ok {d : D} (h : shp 8 d = true) : SeqAt.shaped d = true := by
  obtain ⟨h1, h2⟩ := shp_lay 8 d h
  unfold SeqAt.shaped
  rw [h1, decide_eq_true (by omega)]
  rfl
mutual
theorem Rp.dp {K : PySem.W.Frag} {H : Hp} {A : Addr → Prop} : ∀ (n : Nat) {d : D} {v : V}, Rp H A v d → shp n d = true → Dp K H v d
  | n, .none, v, r, _ => by rw [r.non_of]; exact .non
  | n, .bool _, v, r, _ => by rw [r.bl_of]; exact .bl _
  | n, .int _, v, r, _ => by rw [r.int_of]; exact .int _
  | n, .str x, v, r, h => by cases n <;> cases h
  | n, .dict x, v, r, h => by cases n <;> cases h
  | 0, .list ds, v, r, h => by cases h
  | 0, .tuple ds, v, r, h => by cases h
  | n + 1, .list ds, v, r, h => by
    obtain ⟨a, xs, rfl, h1, _, h2⟩ := r.list_of
    exact .lst (.inl (.inl h1)) (RpL.dp n h2 h)
  | n + 1, .tuple ds, v, r, h => by
    obtain ⟨a, xs, rfl, h1, _, h2⟩ := r.tup_of
    exact .tup (.inl (.inl h1)) (RpL.dp n h2 h)
theorem RpL.dp {K : PySem.W.Frag} {H : Hp} {A : Addr → Prop} : ∀ (n : Nat) {ds : List D} {vs : List V}, RpL H A vs ds → ds.all (shp n) = true → DpAll K H vs ds
  | n, [], vs, r, _ => by cases r; exact .nil
  | n, d :: ds, vs, r, h => by
    rw [List.all_cons, Bool.and_eq_true] at h
    cases r with
    | cons r t => exact .cons (Rp.dp n r h.1) (RpL.dp n t h.2)
end
theorem Rw.dp {K : PySem.W.Frag} {H : Hp} {A : Addr → Prop} {n : Nat} {d : D} {v : V} (r : Rw H A v d) (h : shp n d = true) : Dp K H v d := by
  cases r with
  | of r => exact r.dp n h
  | own e m q =>
    cases q with
    | lst q =>
      cases n with
      | zero => cases h
      | succ n => exact .lst (.inl (.inl e)) (q.dp n h)
    | tup q => exact m.elim
    | dK q => cases n <;> cases h
    | scr q => exact m.elim
/-! ### comparisons -/
@[simp] def eqD (a b : D) : Option Bool := match shp 8 a && shp 8 b with
  | true => some (PyData.eqv a b)
  | false => none
@[simp] def neD (a b : D) : Option Bool := match shp 8 a && shp 8 b with
  | true => some (!PyData.eqv a b)
  | false => none
theorem room_u {A : Around} (hr : Room 0 A) {n : Nat} (h : n ≤ 64) : A.units + n < cLine := Nat.lt_of_le_of_lt (Nat.add_le_add_left h _) hr.units
theorem eq_ok : CmpD .Eq eqD := by
  rintro X hc hr pins s σ H x y v u Q I rx ry ⟨A, a, b, r, al, ha, hb, e, q⟩
  obtain ⟨c, e0, rfl⟩ := Option.map_eq_some_iff.mp e
  clear e
  have e := e0
  clear e0
  unfold eqD at e
  split at e
  · rename_i hf
    rw [Bool.and_eq_true] at hf
    cases e
    exact op_eqD (room_u hr (by decide)) pins s σ H _ _ v u Q I rx ry ⟨a, b, ha.dp hf.1, hb.dp hf.2, shp_ok hf.1, shp_ok hf.2, q _ H Ext.refl (.bl _)⟩
  · cases e
theorem ne_ok : CmpD .NotEq neD := by
  rintro X hc hr pins s σ H x y v u Q I rx ry ⟨A, a, b, r, al, ha, hb, e, q⟩
  obtain ⟨c, e0, rfl⟩ := Option.map_eq_some_iff.mp e
  clear e
  have e := e0
  clear e0
  unfold neD at e
  split at e
  · rename_i hf
    rw [Bool.and_eq_true] at hf
    cases e
    exact op_neD (room_u hr (by decide)) pins s σ H _ _ v u Q I rx ry ⟨a, b, ha.dp hf.1, hb.dp hf.2, shp_ok hf.1, shp_ok hf.2, q _ H Ext.refl (.bl _)⟩
  · cases e
@[simp] def ltD : D → D → Option Bool
  | .int i, .int j => some (decide (i < j))
  | .tuple xs, .tuple ys => (intsD xs).bind fun ns => (intsD ys).map fun ms => HT.lexLt ns ms
  | _, _ => none
theorem lt_ok : CmpD .Lt ltD := by
  rintro X hc hr pins s σ H x y v u Q I rx ry ⟨A, a, b, r, al, ha, hb, e, q⟩
  obtain ⟨c, e0, rfl⟩ := Option.map_eq_some_iff.mp e
  clear e
  have e := e0
  clear e0
  unfold ltD at e
  split at e
  · cases e
    cases ha.int_of
    cases hb.int_of
    exact op_lt pins s σ H _ _ v u Q I rx ry ⟨_, _, rfl, rfl, q _ H Ext.refl (.bl _)⟩
  · obtain ⟨ns, e2, e1⟩ := Option.bind_eq_some_iff.mp e
    obtain ⟨ms, e3, e1⟩ := Option.map_eq_some_iff.mp e1
    cases e1
    rw [intsD_eq e2] at ha
    rw [intsD_eq e3] at hb
    obtain ⟨l, xs, rfl, h1, n1, r1⟩ := ha.tup_of
    obtain ⟨l2, ys, rfl, h2, n2, r2⟩ := hb.tup_of
    rw [r1.of_ints] at h1
    rw [r2.of_ints] at h2
    exact op_ltT (by have := room_u hr (n := 1) (by decide); omega) pins s σ H _ _ v u Q I rx ry ⟨l, l2, ns, ms, rfl, rfl, .inl (.inl h1), .inl (.inl h2), q _ H Ext.refl (.bl _)⟩
  · cases e
@[simp] def leD : D → D → Option Bool
  | .int i, .int j => some (decide (i ≤ j))
  | _, _ => none
theorem le_ok : CmpD .LtE leD := by
  rintro X hc hr pins s σ H x y v u Q I rx ry ⟨A, a, b, r, al, ha, hb, e, q⟩
  obtain ⟨c, e0, rfl⟩ := Option.map_eq_some_iff.mp e
  clear e
  have e := e0
  clear e0
  unfold leD at e
  split at e
  · cases e
    cases ha.int_of
    cases hb.int_of
    exact op_le pins s σ H _ _ v u Q I rx ry ⟨_, _, rfl, rfl, q _ H Ext.refl (.bl _)⟩
  · cases e
@[simp] def gtD : D → D → Option Bool
  | .int i, .int j => some (decide (j < i))
  | _, _ => none
theorem gt_ok : CmpD .Gt gtD := by
  rintro X hc hr pins s σ H x y v u Q I rx ry ⟨A, a, b, r, al, ha, hb, e, q⟩
  obtain ⟨c, e0, rfl⟩ := Option.map_eq_some_iff.mp e
  clear e
  have e := e0
  clear e0
  unfold gtD at e
  split at e
  · cases e
    cases ha.int_of
    cases hb.int_of
    exact op_gt pins s σ H _ _ v u Q I rx ry ⟨_, _, rfl, rfl, q _ H Ext.refl (.bl _)⟩
  · cases e
@[simp] def geD : D → D → Option Bool
  | .int i, .int j => some (decide (j ≤ i))
  | _, _ => none
theorem ge_ok : CmpD .GtE geD := by
  rintro X hc hr pins s σ H x y v u Q I rx ry ⟨A, a, b, r, al, ha, hb, e, q⟩
  obtain ⟨c, e0, rfl⟩ := Option.map_eq_some_iff.mp e
  clear e
  have e := e0
  clear e0
  unfold geD at e
  split at e
  · cases e
    cases ha.int_of
    cases hb.int_of
    exact op_ge pins s σ H _ _ v u Q I rx ry ⟨_, _, rfl, rfl, q _ H Ext.refl (.bl _)⟩
  · cases e
@[simp] def isNoneD : D → Bool
  | .none => true
  | _ => false
theorem isNone_v {H : Hp} {A : Addr → Prop} {v : V} {d : D} (r : Rw H A v d) : decide (v = .non) = isNoneD d := by
  cases d with
  | none => rw [r.non_of]; rfl
  | bool b => rw [r.bl_of]; rfl
  | int b => rw [r.int_of]; rfl
  | str b => rw [r.str_of]; rfl
  | list ds => obtain ⟨a, xs, rfl, _⟩ := r.list_of; rfl
  | tuple ds => obtain ⟨a, xs, rfl, _⟩ := r.tup_of; rfl
  | dict ds =>
    cases r with
    | of r => cases r; rfl
    | own => rfl
@[simp] def isD : D → D → Option Bool
  | .bool a, .bool b => some (decide (a = b))
  | a, .none => some (isNoneD a)
  | _, _ => none
theorem isR_ok : CmpD .Is isD := by
  rintro X hc hr pins s σ H x y v u Q I rx ry ⟨A, a, b, r, al, ha, hb, e, q⟩
  obtain ⟨c, e0, rfl⟩ := Option.map_eq_some_iff.mp e
  clear e
  have e := e0
  clear e0
  unfold isD at e
  split at e
  · cases e
    cases ha.bl_of
    cases hb.bl_of
    exact op_isBl pins s σ H _ _ v u Q I rx ry ⟨_, _, rfl, rfl, q _ H Ext.refl (.bl _)⟩
  · cases e
    cases hb.non_of
    exact op_isN pins s σ H _ _ v u Q I rx ry ⟨rfl, by rw [isNone_v ha]; exact q _ H Ext.refl (.bl _)⟩
  · cases e
@[simp] def isntD : D → D → Option Bool
  | .bool a, .bool b => some (!decide (a = b))
  | a, .none => some (!isNoneD a)
  | _, _ => none
theorem isnt_ok : CmpD .IsNot isntD := by
  rintro X hc hr pins s σ H x y v u Q I rx ry ⟨A, a, b, r, al, ha, hb, e, q⟩
  obtain ⟨c, e0, rfl⟩ := Option.map_eq_some_iff.mp e
  clear e
  have e := e0
  clear e0
  unfold isntD at e
  split at e
  · cases e
    cases ha.bl_of
    cases hb.bl_of
    exact op_notBl pins s σ H _ _ v u Q I rx ry ⟨_, _, rfl, rfl, q _ H Ext.refl (.bl _)⟩
  · cases e
    cases hb.non_of
    exact op_notN pins s σ H _ _ v u Q I rx ry ⟨rfl, by rw [isNone_v ha]; exact q _ H Ext.refl (.bl _)⟩
  · cases e
end Ev
set_option Elab.async false
set_option linter.all false
set_option maxRecDepth 100000
set_option maxHeartbeats 2000000
/-! EvR: built-in functions that the kit knows -/
namespace Ev
open PySem L2
variable [Tbs]
@[simp] def sqD : D → Option (List D)
  | .list ds => some ds
  | .tuple ds => some ds
  | .dict [(.none, .tuple ds)] => some ds
  | _ => none
theorem sqD_rw {K : PySem.W.Frag} {H : Hp} {A : Addr → Prop} {v : V} {d : D} {ds : List D} (r : Rw H A v d) (h : sqD d = some ds) : ∃ a xs, v = .ref a ∧ (SqL K H a xs ∨ SqT K H a xs) ∧ RpL H A xs ds := by
  unfold sqD at h
  split at h
  · cases h
    obtain ⟨a, xs, h1, h2, h3⟩ := r.list_of
    exact ⟨a, xs, h1, .inl (.inl (.inl h2)), h3⟩
  · cases h
    obtain ⟨a, xs, h1, h2, _, h3⟩ := r.tup_of
    exact ⟨a, xs, h1, .inr (.inl (.inl h2)), h3⟩
  · cases h
    obtain ⟨a, ob, xs, ds', h1, h2, h3, h4⟩ := r.scr_of
    cases h3
    exact ⟨a, xs, h1, .inl (.inl (.inr ⟨ob, h2⟩)), h4⟩
  · cases h
theorem RwL.one {H : Hp} {A : Addr → Prop} {vs : List V} {d : D} (r : RwL H A vs [d]) : ∃ v, vs = [v] ∧ Rw H A v d := by
  cases r with
  | cons a t => cases t; exact ⟨_, rfl, a⟩
theorem RwL.two {H : Hp} {A : Addr → Prop} {vs : List V} {d e : D} (r : RwL H A vs [d, e]) : ∃ v w, vs = [v, w] ∧ Rw H A v d ∧ Rw H A w e := by
  cases r with
  | cons a t => obtain ⟨w, rfl, b⟩ := RwL.one t; exact ⟨_, w, rfl, a, b⟩
/-- a function of one argument -/
@[simp] def one (g : D → Option Rv) : List D → Option Rv
  | [d] => g d
  | _ => none
theorem one_ok {g : D → Option Rv} {ds : List D} {r : Rv} (h : one g ds = some r) : ∃ d, ds = [d] ∧ g d = some r := by
  unfold one at h
  split at h
  · exact ⟨_, rfl, h⟩
  · cases h
theorem boot_len : bootBuiltins ("len" : Str) = some (.builtin "len") := by decide +kernel
theorem boot_int : bootBuiltins ("int" : Str) = some (.type "int") := by decide +kernel
theorem boot_abs : bootBuiltins ("abs" : Str) = some (.builtin "abs") := by decide +kernel
theorem boot_sum : bootBuiltins ("sum" : Str) = some (.builtin "sum") := by decide +kernel
theorem boot_max : bootBuiltins ("max" : Str) = some (.builtin "max") := by decide +kernel
theorem boot_min : bootBuiltins ("min" : Str) = some (.builtin "min") := by decide +kernel
theorem boot_all : bootBuiltins ("all" : Str) = some (.builtin "all") := by decide +kernel
theorem boot_any : bootBuiltins ("any" : Str) = some (.builtin "any") := by decide +kernel
theorem boot_tuple : bootBuiltins ("tuple" : Str) = some (.type "tuple") := by decide +kernel
theorem boot_list : bootBuiltins ("list" : Str) = some (.type "list") := by decide +kernel
theorem boot_sorted : bootBuiltins ("sorted" : Str) = some (.builtin "sorted") := by decide +kernel
theorem boot_repr : bootBuiltins ("repr" : Str) = some (.builtin "repr") := by decide +kernel
@[simp] def lenD (d : D) : Option Rv := (sqD d).map fun ds => .v (.int ds.length)
def bLen : Blt where
  name := "len"
  f := .builtin "len"
  hv := boot_len
  kind := .inl ⟨_, rfl⟩
  g := one lenD
  ok := by
    rintro X hc hr hgd pins s σ H vs us Q I rx ⟨A, ds, r, al, hv, e, q⟩
    replace e := one_ok e
    obtain ⟨d, rfl, e⟩ := e
    obtain ⟨xs, h1, rfl⟩ := Option.map_eq_some_iff.mp e
    obtain ⟨v, rfl, rv⟩ := hv.one
    obtain ⟨a, ys, rfl, h2, h3⟩ := sqD_rw (K := X.K) rv h1
    exact call_len_seq pins s σ H _ us Q I rx ⟨a, ys, rfl, h2, by rw [h3.length]; exact q _ H Ext.refl (.int _)⟩
@[simp] def intD : D → Option Rv
  | .int i => some (.v (.int i))
  | .bool b => some (.v (.int (if b then 1 else 0)))
  | _ => none
def bInt : Blt where
  name := "int"
  f := .type "int"
  hv := boot_int
  kind := .inr ⟨_, rfl⟩
  g := one intD
  ok := by
    rintro X hc hr hgd pins s σ H vs us Q I rx ⟨A, ds, r, al, hv, e, q⟩
    replace e := one_ok e
    obtain ⟨d, rfl, e⟩ := e
    obtain ⟨v, rfl, rv⟩ := hv.one
    unfold intD at e
    split at e
    · cases e
      cases rv.int_of
      exact call_int1 pins s σ H _ us Q I rx (.inl ⟨_, rfl, q _ H Ext.refl (.int _)⟩)
    · cases e
      cases rv.bl_of
      exact call_int1 pins s σ H _ us Q I rx (.inr ⟨_, rfl, q _ H Ext.refl (.int _)⟩)
    · cases e
@[simp] def absD : D → Option Rv
  | .int i => some (.v (.int (if i < 0 then -i else i)))
  | _ => none
def bAbs : Blt where
  name := "abs"
  f := .builtin "abs"
  hv := boot_abs
  kind := .inl ⟨_, rfl⟩
  g := one absD
  ok := by
    rintro X hc hr hgd pins s σ H vs us Q I rx ⟨A, ds, r, al, hv, e, q⟩
    replace e := one_ok e
    obtain ⟨d, rfl, e⟩ := e
    obtain ⟨v, rfl, rv⟩ := hv.one
    unfold absD at e
    split at e
    · cases e
      cases rv.int_of
      exact call_abs pins s σ H _ us Q I rx ⟨_, rfl, q _ H Ext.refl (.int _)⟩
    · cases e
/-- the ints of a list -/
@[simp] def lsI (d : D) : Option (List Int) := (lsD d).bind intsD
theorem lsI_rw {K : PySem.W.Frag} {H : Hp} {A : Addr → Prop} {v : V} {d : D} {ns : List Int} (r : Rw H A v d) (h : lsI d = some ns) : ∃ a, v = .ref a ∧ SqL K H a (ns.map V.int) := by
  obtain ⟨ds, h1, h2⟩ := Option.bind_eq_some_iff.mp h
  obtain ⟨a, xs, rfl, h3, h4⟩ := lsD_rw (K := K) r h1
  rw [intsD_eq h2] at h4
  rw [h4.of_ints] at h3
  exact ⟨a, rfl, h3⟩
@[simp] def lsB (d : D) : Option (List Bool) := (lsD d).bind boolsD
theorem lsB_rw {K : PySem.W.Frag} {H : Hp} {A : Addr → Prop} {v : V} {d : D} {ns : List Bool} (r : Rw H A v d) (h : lsB d = some ns) : ∃ a, v = .ref a ∧ SqL K H a (ns.map V.bl) := by
  obtain ⟨ds, h1, h2⟩ := Option.bind_eq_some_iff.mp h
  obtain ⟨a, xs, rfl, h3, h4⟩ := lsD_rw (K := K) r h1
  rw [boolsD_eq h2] at h4
  rw [h4.of_bools] at h3
  exact ⟨a, rfl, h3⟩
/-- the greatest of ints -/
def mxI (n : Int) (ns : List Int) : Int := ns.foldl max n
theorem mxI_ge : ∀ (ns : List Int) (n : Int), n ≤ mxI n ns ∧ ∀ m ∈ ns, m ≤ mxI n ns
  | [], n => ⟨Int.le_refl _, fun _ h => nomatch h⟩
  | a :: ns, n => by
    obtain ⟨h1, h2⟩ := mxI_ge ns (max n a)
    have e : mxI n (a :: ns) = mxI (max n a) ns := rfl
    rw [e]
    refine ⟨by omega, fun m hm => ?_⟩
    rcases List.mem_cons.mp hm with rfl | hm
    · omega
    · exact h2 m hm
theorem mxI_mem : ∀ (ns : List Int) (n : Int), mxI n ns = n ∨ mxI n ns ∈ ns
  | [], n => .inl rfl
  | a :: ns, n => by
    have e : mxI n (a :: ns) = mxI (max n a) ns := rfl
    rw [e]
    rcases mxI_mem ns (max n a) with h | h
    · rw [h]
      by_cases z : n ≤ a
      · exact .inr (by rw [Int.max_eq_right z]; exact List.mem_cons_self)
      · exact .inl (Int.max_eq_left (by omega))
    · exact .inr (List.mem_cons_of_mem _ h)
def mnI (n : Int) (ns : List Int) : Int := ns.foldl min n
theorem mnI_le : ∀ (ns : List Int) (n : Int), mnI n ns ≤ n ∧ ∀ m ∈ ns, mnI n ns ≤ m
  | [], n => ⟨Int.le_refl _, fun _ h => nomatch h⟩
  | a :: ns, n => by
    obtain ⟨h1, h2⟩ := mnI_le ns (min n a)
    have e : mnI n (a :: ns) = mnI (min n a) ns := rfl
    rw [e]
    refine ⟨by omega, fun m hm => ?_⟩
    rcases List.mem_cons.mp hm with rfl | hm
    · omega
    · exact h2 m hm
theorem mnI_mem : ∀ (ns : List Int) (n : Int), mnI n ns = n ∨ mnI n ns ∈ ns
  | [], n => .inl rfl
  | a :: ns, n => by
    have e : mnI n (a :: ns) = mnI (min n a) ns := rfl
    rw [e]
    rcases mnI_mem ns (min n a) with h | h
    · rw [h]
      by_cases z : n ≤ a
      · exact .inl (Int.min_eq_left z)
      · exact .inr (by rw [Int.min_eq_right (by omega)]; exact List.mem_cons_self)
    · exact .inr (List.mem_cons_of_mem _ h)
@[simp] def maxD : List D → Option Rv
  | [.int i, .int j] => some (.v (.int (max i j)))
  | [d] => match lsI d with
    | some (n :: ns) => some (.v (.int (mxI n ns)))
    | _ => none
  | _ => none
def bMax : Blt where
  name := "max"
  f := .builtin "max"
  hv := boot_max
  kind := .inl ⟨_, rfl⟩
  g := maxD
  ok := by
    rintro X hc hr hgd pins s σ H vs us Q I rx ⟨A, ds, r, al, hv, e, q⟩
    unfold maxD at e
    split at e
    · rename_i i j
      cases e
      obtain ⟨v, w, rfl, r1, r2⟩ := hv.two
      cases r1.int_of
      cases r2.int_of
      refine call_max2 hc pins s σ H _ us Q I rx ⟨i, j, rfl, ?_⟩
      have : (if j > i then j else i) = max i j := by split <;> omega
      rw [this]
      exact q _ H Ext.refl (.int _)
    · split at e
      · rename_i d n ns hd
        cases e
        obtain ⟨v, rfl, rv⟩ := hv.one
        obtain ⟨a, rfl, h1⟩ := lsI_rw (K := X.K) rv hd
        refine cr_max hc pins s σ H _ us Q I rx ⟨a, n :: ns, rfl, h1, Nat.succ_pos _, fun m hm hle => ?_⟩
        have e : m = mxI n ns := by
          obtain ⟨g1, g2⟩ := mxI_ge ns n
          have h3 : m ≤ mxI n ns := by
            rcases List.mem_cons.mp hm with rfl | hm
            · exact g1
            · exact g2 m hm
          have h4 : mxI n ns ≤ m := hle _ (by
            rcases mxI_mem ns n with z | z
            · rw [z]; exact List.mem_cons_self
            · exact List.mem_cons_of_mem _ z)
          omega
        rw [e]
        exact q _ H Ext.refl (.int _)
      · cases e
    · cases e
@[simp] def minD : List D → Option Rv
  | [.int i, .int j] => some (.v (.int (min i j)))
  | [d] => match lsI d with
    | some (n :: ns) => some (.v (.int (mnI n ns)))
    | _ => none
  | _ => none
def bMin : Blt where
  name := "min"
  f := .builtin "min"
  hv := boot_min
  kind := .inl ⟨_, rfl⟩
  g := minD
  ok := by
    rintro X hc hr hgd pins s σ H vs us Q I rx ⟨A, ds, r, al, hv, e, q⟩
    unfold minD at e
    split at e
    · rename_i i j
      cases e
      obtain ⟨v, w, rfl, r1, r2⟩ := hv.two
      cases r1.int_of
      cases r2.int_of
      refine call_min2 hc pins s σ H _ us Q I rx ⟨i, j, rfl, ?_⟩
      have : (if j < i then j else i) = min i j := by split <;> omega
      rw [this]
      exact q _ H Ext.refl (.int _)
    · split at e
      · rename_i d n ns hd
        cases e
        obtain ⟨v, rfl, rv⟩ := hv.one
        obtain ⟨a, rfl, h1⟩ := lsI_rw (K := X.K) rv hd
        refine cr_min hc pins s σ H _ us Q I rx ⟨a, n :: ns, rfl, h1, Nat.succ_pos _, fun m hm hle => ?_⟩
        have e : m = mnI n ns := by
          obtain ⟨g1, g2⟩ := mnI_le ns n
          have h3 : mnI n ns ≤ m := by
            rcases List.mem_cons.mp hm with rfl | hm
            · exact g1
            · exact g2 m hm
          have h4 : m ≤ mnI n ns := hle _ (by
            rcases mnI_mem ns n with z | z
            · rw [z]; exact List.mem_cons_self
            · exact List.mem_cons_of_mem _ z)
          omega
        rw [e]
        exact q _ H Ext.refl (.int _)
      · cases e
    · cases e
def bAll : Blt where
  name := "all"
  f := .builtin "all"
  hv := boot_all
  kind := .inl ⟨_, rfl⟩
  g := one fun d => (lsB d).map fun bs => .v (.bool (bs.all id))
  ok := by
    rintro X hc hr hgd pins s σ H vs us Q I rx ⟨A, ds, r, al, hv, e, q⟩
    replace e := one_ok e
    obtain ⟨d, rfl, e⟩ := e
    obtain ⟨v, rfl, rv⟩ := hv.one
    obtain ⟨bs, h1, rfl⟩ := Option.map_eq_some_iff.mp e
    obtain ⟨a, rfl, h2⟩ := lsB_rw (K := X.K) rv h1
    exact cr_all hc pins s σ H _ us Q I rx ⟨a, bs, rfl, h2, q _ H Ext.refl (.bl _)⟩
def bAny : Blt where
  name := "any"
  f := .builtin "any"
  hv := boot_any
  kind := .inl ⟨_, rfl⟩
  g := one fun d => (lsB d).map fun bs => .v (.bool (bs.any id))
  ok := by
    rintro X hc hr hgd pins s σ H vs us Q I rx ⟨A, ds, r, al, hv, e, q⟩
    replace e := one_ok e
    obtain ⟨d, rfl, e⟩ := e
    obtain ⟨v, rfl, rv⟩ := hv.one
    obtain ⟨bs, h1, rfl⟩ := Option.map_eq_some_iff.mp e
    obtain ⟨a, rfl, h2⟩ := lsB_rw (K := X.K) rv h1
    exact cr_any hc pins s σ H _ us Q I rx ⟨a, bs, rfl, h2, q _ H Ext.refl (.bl _)⟩
@[simp] def tupleD : D → Option Rv
  | .list ds => some (.v (.tuple ds))
  | .tuple ds => some (.v (.tuple ds))
  | _ => none
def bTuple : Blt where
  name := "tuple"
  f := .type "tuple"
  hv := boot_tuple
  kind := .inr ⟨_, rfl⟩
  g := one tupleD
  ok := by
    rintro X hc hr hgd pins s σ H vs us Q I rx ⟨A, ds, r, al, hv, e, q⟩
    replace e := one_ok e
    obtain ⟨d, rfl, e⟩ := e
    obtain ⟨v, rfl, rv⟩ := hv.one
    unfold tupleD at e
    split at e
    · cases e
      obtain ⟨a, xs, rfl, h1, h2⟩ := rv.list_of
      exact call_tuple_of pins s σ H _ us Q I rx ⟨a, xs, rfl, .inl ⟨.inl (.inl h1), fun l hl => q _ _ (Ext.new hl) (rv_tup al h2 hl)⟩⟩
    · cases e
      have rt := rv.tup_is
      obtain ⟨a, xs, rfl, h1, _, h2⟩ := rv.tup_of
      exact call_tuple_of pins s σ H _ us Q I rx ⟨a, xs, rfl, .inr ⟨.inl (.inl h1), q _ H Ext.refl rt⟩⟩
    · cases e
def bList : Blt where
  name := "list"
  f := .type "list"
  hv := boot_list
  kind := .inr ⟨_, rfl⟩
  g := one fun d => (sqD d).map fun ds => .fr (.list ds)
  ok := by
    rintro X hc hr hgd pins s σ H vs us Q I rx ⟨A, ds, r, al, hv, e, q⟩
    replace e := one_ok e
    obtain ⟨d, rfl, e⟩ := e
    obtain ⟨v, rfl, rv⟩ := hv.one
    obtain ⟨ds, h1, rfl⟩ := Option.map_eq_some_iff.mp e
    obtain ⟨a, xs, rfl, h2, h3⟩ := sqD_rw (K := X.K) rv h1
    exact call_list_of pins s σ H _ us Q I rx ⟨a, xs, rfl, h2, fun l hl => q _ _ (Ext.new hl) (rv_list h3 hl)⟩
end Ev
set_option Elab.async false
set_option linter.all false
set_option maxRecDepth 100000
set_option maxHeartbeats 2000000
/-! EvS: sorted, of lists and tuples, of ints and of pairs of ints -/
namespace SrtO
open PySem PyProof.Rows Srt SrtO
section
variable {prog : Program} {w : World} {A : Around} {E : Value → Shared → Prop} {s : Shared}
theorem collect_tupE {l : Addr} {vs : List Value} {Q : List Value → Shared → Prop} (hl : IsTup s.heap l vs.toArray)
    (h : Q vs { s with heap := (s.heap.push (seqObj "list" #[] 0)).update s.heap.objs.size (Obj.mapSeq (· ++ vs.toArray)) }) (hsz : vs.length ≤ sizeLine) :
    wpAny (model prog w) A (collect (.ref l)) Q E s := by
  obtain ⟨o, ho, hc, n, hd⟩ := id hl
  unfold collect
  refine wpAny_bind (wpAny_runValue (codeAny_builtin entry_proto_collect' ?_))
  show wpAny _ _ (do again (.builtin "list.__iadd__" ⟨[← newList [], .ref l], []⟩)) _ _ s
  refine wpAny_bind (wpAny_newList (wpAny_pure ⟨Code.quiet_builtin _ (by decide +kernel), codeAny_builtin entry_list_iadd' ?_⟩))
  show wpAny _ _ (Builtin.List.listExtendWith (.ref s.heap.objs.size) (.ref l) (.ref s.heap.objs.size)) _ _ { s with heap := s.heap.push (seqObj "list" #[] 0) }
  unfold Builtin.List.listExtendWith
  have ho' : (s.heap.push (seqObj "list" #[] 0)).get? l = some o := Heap.get?_push_of_some _ ho
  refine wpAny_bind (wpAny_typeOf (T := "tuple") ⟨o, ho', hc⟩ ?_)
  have ht : (Value.type "tuple" == Value.type "tuple") = true := by rfl
  rw [if_pos (by rw [ht]; simp)]
  refine wpAny_bind (listItems_at ho' hd ?_)
  refine wpAny_bind (listItems_at (xs := #[]) (n := 0) (Heap.get?_push_size _ rfl) rfl ?_)
  rw [if_neg (by simp)]
  refine wpAny_bind (listUpdate_at (xs := #[]) (n := 0) (Heap.get?_push_size _ rfl) rfl ?_ (Nat.zero_le _) (by show (#[] ++ vs.toArray).size ≤ sizeLine + 1; simp only [Array.size_append, List.size_toArray, List.length_nil]; omega))
  refine wpAny_pure ?_
  show wpAny (model prog w) A (do
      let o ← load s.heap.objs.size
      match o.data with
      | .seq xs _ => pure xs.toList
      | _ => unsupported "internal:collect") Q E { s with heap := (s.heap.push (seqObj "list" #[] 0)).update s.heap.objs.size (Obj.mapSeq (· ++ vs.toArray)) }
  refine wpAny_bind (wpAny_load (get?_update_seq (Heap.get?_push_size _ rfl) _) ?_)
  show wpAny _ _ (pure ((#[] : Array Value) ++ vs.toArray).toList) Q E _
  rw [show ((#[] : Array Value) ++ vs.toArray).toList = vs by simp]
  exact wpAny_pure h
/-- sorted(t), t a tuple -/
theorem sorted_ordTup {l : Addr} {vs : List Value} {ltv : Value → Value → Bool} {Q : Value → Shared → Prop} (O : Swo ltv) (hl : IsTup s.heap l vs.toArray) (hz : vs.length ≤ sizeLine)
    (hS : 2 ≤ vs.length → ∀ (h₁ : Heap) (a : Addr), h₁.get? a = some (seqObj "list" vs.toArray 0) → (∀ b o, s.heap.get? b = some o → b ≠ a ∧ h₁.get? b = some o) → SortableO prog w A.in1.in1 { s with heap := h₁ } a vs ltv)
    (h : ∀ out : List Value, Srtd ltv out → Stb ltv out vs → Q (.ref (s.heap.objs.size + 1)) { s with heap := sortedAll s.heap vs out.toArray }) :
    wpAny (model prog w) A (call (.builtin "sorted") [.ref l]) Q E s := by
  refine Calls.call_function_entry kind_sorted plain_sorted entry_sorted (args_sorted1 _) ?_
  unfold Builtin.«sorted»
  refine wpAny_bind (m := checkCount "sorted" 1 1 _) (wpAny_pure ?_)
  refine wpAny_bind (collect_tupE hl ?_ hz)
  refine wpAny_bind (wpAny_newList ?_ hz)
  have hsz : ((s.heap.push (seqObj "list" #[] 0)).update s.heap.objs.size (Obj.mapSeq (· ++ vs.toArray))).objs.size = s.heap.objs.size + 1 := by
    rw [Heap.size_update, size_push']
  have hoL : (((s.heap.push (seqObj "list" #[] 0)).update s.heap.objs.size (Obj.mapSeq (· ++ vs.toArray))).push (seqObj "list" vs.toArray 0)).get? (s.heap.objs.size + 1) = some (seqObj "list" vs.toArray 0) := by
    rw [← hsz]; exact Heap.get?_push_size _ rfl
  have keep : ∀ b o, s.heap.get? b = some o → b ≠ s.heap.objs.size + 1 ∧ (((s.heap.push (seqObj "list" #[] 0)).update s.heap.objs.size (Obj.mapSeq (· ++ vs.toArray))).push (seqObj "list" vs.toArray 0)).get? b = some o := fun b o q => by
    have hlt : b < s.heap.objs.size := Heap.lt_size q
    refine ⟨Nat.ne_of_lt (Nat.lt_succ_of_lt hlt), Heap.get?_push_of_some _ ?_⟩
    rw [Heap.get?_update_ne _ _ _ _ (Nat.ne_of_lt hlt)]
    exact Heap.get?_push_of_some _ q
  show wpAny _ _ _ _ _ { s with heap := ((s.heap.push (seqObj "list" #[] 0)).update s.heap.objs.size (Obj.mapSeq (· ++ vs.toArray))).push (seqObj "list" vs.toArray 0) }
  rw [hsz]
  refine wpAny_bind (wpAny_holding (wpAny_call_entry slot_list_sort ⟨_, hoL, rfl⟩ entry_list_sort (list_sort_ord O hoL hz (fun h2 => hS h2 _ _ hoL keep) fun out hs hb => ⟨_, rfl, ?_⟩) (args_list_sort _)))
  exact wpAny_pure ⟨_, rfl, h out hs hb⟩
theorem sorted_pairsTup {l : Addr} {vs : List Value} {k : Value → Int × Int} {Q : Value → Shared → Prop} (hl : IsTup s.heap l vs.toArray) (hz : vs.length ≤ sizeLine) (hp : ∀ v ∈ vs, IsPair s.heap v (k v).1 (k v).2)
    (h : ∀ (h' : Heap) (d : Addr) (out : List Value), Srtd (fun v u => lexB (k v) (k u)) out → Stb (fun v u => lexB (k v) (k u)) out vs → (∀ b o, s.heap.get? b = some o → h'.get? b = some o) → s.heap.objs.size ≤ d → (∃ n, h'.get? d = some (seqObj "list" out.toArray n)) → Q (.ref d) { s with heap := h' }) :
    wpAny (model prog w) A (call (.builtin "sorted") [.ref l]) Q E s := by
  refine sorted_ordTup (swo_lex k) hl hz (fun h2 h₁ a ha kk => ?_) fun out hs hb => ?_
  · refine pairs_sortableO (s := { s with heap := h₁ }) (by omega) (fun v hm => (hp v hm).keeps fun b o e _ => (kk b o e).2) fun o e => ?_
    have e' : some o = some (seqObj "list" vs.toArray 0) := e.symm.trans ha
    cases e'
    intro c
    exact absurd (Value.type.inj c) (by decide)
  · exact h _ _ out hs hb (fun b o e => sortedAll_old e) (Nat.le_succ _) (sortedAll_at s.heap vs out.toArray)
end
end SrtO
namespace L2
open PySem PySem.Spec PyProof.Rows
section
variable {X : Cx}
def rSortedIT (K : PySem.W.Frag) : List V → Hp → VK → Prop := fun vs H Q => ∃ (a : Addr) (ns : List Int), vs = [V.ref a] ∧ SqT K H a (ns.map V.int) ∧
  ∀ (ns' : List Int) (p : Addr), ns'.Perm ns → ns'.Pairwise (· ≤ ·) → H p = none → Q (.ref p) (upd H p (.lst (ns'.map V.int)))
theorem cr_sortedIT : CallR X (.builtin "sorted") (rSortedIT X.K) := by
  intro pins s σ H vs us Q I r h
  obtain ⟨a, ns, rfl, hs, q⟩ := h
  obtain ⟨its, rv, hl, hz⟩ := I.tuple hs
  rw [Vals.ref1 r]
  have hi := rv.ints
  refine SrtO.sorted_ordTup SrtO.swo_int hl (by rw [← rv.length]; exact hz) (fun h2 h₁ a' _ _ => SrtO.ints_sortable hi h2) fun out h1 h2 => ?_
  obtain ⟨k1, k2, k3⟩ := SrtO.ints_out hi h1 h2
  obtain ⟨ep, he'⟩ := PyProof.Rows.sortedAll_at s.heap its out.toArray
  have hlen : ((out.map SrtO.iv).map V.int).length ≤ sizeLine := by
    rw [List.length_map, k2.length_eq]
    rw [List.length_map] at hz
    exact hz
  exact ⟨.ref _, upd H (s.heap.objs.size + 1) (.lst ((out.map SrtO.iv).map V.int)), I.laid (t' := s.toks) (fun _ _ => PyProof.Rows.sortedAll_old) (Nat.le_succ _) ⟨hlen, out, ep, vals_of_ints k1, he'⟩, rfl, q _ _ k2 k3 (I.hok.fresh (Nat.le_succ _))⟩
def rSortedPT (K : PySem.W.Frag) : List V → Hp → VK → Prop := fun vs H Q => ∃ (a : Addr) (xs : List V) (k : V → Int × Int), vs = [V.ref a] ∧ SqT K H a xs ∧ (∀ x ∈ xs, ∃ t, x = V.ref t ∧ H t = some (.tup [.int (k x).1, .int (k x).2])) ∧
  ∀ ys p, SrtO.Srtd (ltP k) ys → SrtO.Stb (ltP k) ys xs → H p = none → Q (.ref p) (upd H p (.lst ys))
theorem cr_sortedPT : CallR X (.builtin "sorted") (rSortedPT X.K) := by
  intro pins s σ H vs us Q I r h
  obtain ⟨a, xs, k, rfl, hs, hx, q⟩ := h
  obtain ⟨its, rv, hl, hz⟩ := I.tuple hs
  obtain ⟨u, rfl, ru⟩ := vals1 r
  obtain rfl : u = Value.ref a := ru
  obtain ⟨e1, e2⟩ := refs_back rv fun x m => by
    obtain ⟨t, e, _⟩ := hx x m
    exact ⟨t, e⟩
  refine SrtO.sorted_pairsTup (k := fun u => k (backV u)) hl (by rw [← rv.length]; exact hz) (fun v hv => ?_) fun h' d out h1 h2 kp hd hn => ?_
  · obtain ⟨t, rfl⟩ := e2 v hv
    have hm : V.ref t ∈ xs := by rw [e1]; exact List.mem_map.mpr ⟨_, hv, rfl⟩
    obtain ⟨t', e, ht⟩ := hx _ hm
    cases e
    obtain ⟨_, its2, r2, o, ho, hc, n, hd⟩ := I.hok _ _ ht
    obtain ⟨u1, u2, rfl, ri, rj⟩ := vals2 r2
    obtain ⟨t1, rfl⟩ := ri
    obtain ⟨t2, rfl⟩ := rj
    exact ⟨t, o, t1, t2, n, rfl, ho, hc, hd⟩
  · have h3 : ∀ u ∈ out, ∃ a, u = Value.ref a := fun u hu => e2 u (h2.perm.mem_iff.mp hu)
    obtain ⟨n, hn⟩ := hn
    have hb : SrtO.Stb (ltP k) (out.map backV) xs := by
      rw [e1]
      exact SrtO.Stb.map (ltP_swo k) backV h2
    refine ⟨.ref d, upd H d (.lst (out.map backV)), I.laid (t' := s.toks) kp hd ⟨?_, out, n, vals_back h3, hn⟩, rfl, q _ d (SrtO.srtd_map h1) hb (I.hok.fresh hd)⟩
    rw [hb.len]
    exact hz
end
end L2
namespace Ev
open PySem L2
variable [Tbs]
/-- ints, sorted -/
def srtI (ns : List Int) : List Int := ns.mergeSort fun a b => decide (a ≤ b)
theorem srtI_uniq {ns ms : List Int} (h : ms.Perm ns) (s : ms.Pairwise (· ≤ ·)) : ms = srtI ns := by
  refine List.Perm.eq_of_pairwise (le := (· ≤ ·)) (fun a b _ _ h1 h2 => Int.le_antisymm h1 h2) s ?_ (h.trans (List.mergeSort_perm _ _).symm)
  refine List.Pairwise.imp (fun h => of_decide_eq_true h) (List.pairwise_mergeSort (fun a b c h1 h2 => ?_) (fun a b => ?_) ns)
  · simp only [decide_eq_true_eq] at *; omega
  · simp only [Bool.or_eq_true, decide_eq_true_eq]; omega
abbrev P2 := Int × Int
def pD (p : P2) : D := .tuple [.int p.1, .int p.2]
/-- pairs, sorted -/
def leP (a b : P2) : Bool := decide (a.1 < b.1) || (decide (a.1 = b.1) && decide (a.2 ≤ b.2))
theorem leP_iff {a b : P2} : leP a b = true ↔ a.1 < b.1 ∨ (a.1 = b.1 ∧ a.2 ≤ b.2) := by
  simp only [leP, Bool.or_eq_true, Bool.and_eq_true, decide_eq_true_eq]
def srtP (ps : List P2) : List P2 := ps.mergeSort leP
theorem srtP_uniq {ns ms : List P2} (h : ms.Perm ns) (s : ms.Pairwise fun a b => leP a b = true) : ms = srtP ns := by
  refine List.Perm.eq_of_pairwise (le := fun a b => leP a b = true) (fun a b _ _ h1 h2 => ?_) s ?_ (h.trans (List.mergeSort_perm _ _).symm)
  · have h1 := leP_iff.mp h1
    have h2 := leP_iff.mp h2
    exact Prod.ext (by omega) (by omega)
  · refine List.pairwise_mergeSort (fun a b c h1 h2 => ?_) (fun a b => ?_) ns
    · have h1 := leP_iff.mp h1
      have h2 := leP_iff.mp h2
      exact leP_iff.mpr (by omega)
    · rw [Bool.or_eq_true, leP_iff, leP_iff]
      omega
def pairsD : List D → Option (List P2)
  | [] => some []
  | .tuple [.int i, .int j] :: r => (pairsD r).map ((i, j) :: ·)
  | _ => none
theorem pairsD_eq : ∀ {ds : List D} {ps : List P2}, pairsD ds = some ps → ds = ps.map pD
  | [], _, h => by cases h; rfl
  | d :: r, ps, h => by
    unfold pairsD at h
    split at h
    · rename_i e; cases e
    · rename_i i j r' e
      cases e
      obtain ⟨ns, h1, h2⟩ := Option.map_eq_some_iff.mp h
      rw [← h2, pairsD_eq h1]; rfl
    · cases h
theorem pairsD_map : ∀ ps : List P2, pairsD (ps.map pD) = some ps
  | [] => rfl
  | n :: ns => by show Option.map _ (pairsD (ns.map pD)) = _; rw [pairsD_map ns]; rfl
/-- the pair that stands at a value -/
def keyP (H : Hp) (v : V) : P2 := match v with
  | .ref a => match H a with
    | some (.tup [.int i, .int j]) => (i, j)
    | _ => (0, 0)
  | _ => (0, 0)
theorem keyP_at {H : Hp} {A : Addr → Prop} {v : V} {p : P2} (r : Rp H A v (pD p)) : keyP H v = p ∧ ∃ t, v = .ref t ∧ H t = some (.tup [.int p.1, .int p.2]) ∧ ¬ A t := by
  obtain ⟨a, xs, rfl, h1, h2, h3⟩ := r.tup_of
  have e : xs = [V.int p.1, V.int p.2] := RpL.of_ints (ns := [p.1, p.2]) h3
  rw [e] at h1
  exact ⟨by unfold keyP; dsimp only; rw [h1], a, rfl, h1, h2⟩
theorem keyP_all {H : Hp} {A : Addr → Prop} : ∀ {ps : List P2} {vs : List V}, RpL H A vs (ps.map pD) → vs.map (keyP H) = ps ∧ ∀ v ∈ vs, ∃ t, v = .ref t ∧ H t = some (.tup [.int (keyP H v).1, .int (keyP H v).2]) ∧ ¬ A t
  | [], vs, r => by cases r; exact ⟨rfl, fun _ h => nomatch h⟩
  | p :: ps, vs, r => by
    cases r with
    | cons r t =>
      obtain ⟨h1, h2⟩ := keyP_at r
      obtain ⟨h3, h4⟩ := keyP_all t
      refine ⟨by rw [List.map_cons, h1, h3], fun v hv => ?_⟩
      rcases List.mem_cons.mp hv with rfl | hv
      · obtain ⟨t, e1, e2, e3⟩ := h2
        exact ⟨t, e1, by rw [h1]; exact e2, e3⟩
      · exact h4 v hv
theorem keyP_back {H : Hp} {A : Addr → Prop} : ∀ {vs : List V}, (∀ v ∈ vs, ∃ t, v = .ref t ∧ H t = some (.tup [.int (keyP H v).1, .int (keyP H v).2]) ∧ ¬ A t) → RpL H A vs ((vs.map (keyP H)).map pD)
  | [], _ => .nil
  | v :: vs, h => by
    obtain ⟨t, rfl, e, n⟩ := h v List.mem_cons_self
    exact .cons (.ref n e (.tup (.cons (.int _) (.cons (.int _) .nil)))) (keyP_back fun u hu => h u (List.mem_cons_of_mem _ hu))
theorem sorted_keys {H : Hp} {A : Addr → Prop} {ps : List P2} {xs ys : List V} (r : RpL H A xs (ps.map pD)) (h1 : SrtO.Srtd (ltP (keyP H)) ys) (h2 : SrtO.Stb (ltP (keyP H)) ys xs) : RpL H A ys ((srtP ps).map pD) := by
  obtain ⟨k1, k2⟩ := keyP_all r
  have e : ys.map (keyP H) = srtP ps := by
    refine srtP_uniq (by rw [← k1]; exact h2.perm.map _) ?_
    refine List.pairwise_map.mpr (List.Pairwise.imp (fun {a b} (h : SrtO.lexB (keyP H b) (keyP H a) = false) => ?_) h1)
    have h := SrtO.lexB_no.mp h
    exact leP_iff.mpr (by omega)
  rw [← e]
  exact keyP_back fun v hv => k2 v (h2.perm.mem_iff.mp hv)
@[simp] def sortedD (d : D) : Option Rv := (sqD d).bind fun ds => match intsD ds with
  | some ns => some (.fr (.list ((srtI ns).map .int)))
  | none => match pairsD ds with
    | some ps => some (.fr (.list ((srtP ps).map pD)))
    | none => none
def bSorted : Blt where
  name := "sorted"
  f := .builtin "sorted"
  hv := boot_sorted
  kind := .inl ⟨_, rfl⟩
  g := one sortedD
  ok := by
    rintro X hc hr hgd pins s σ H vs us Q I rx ⟨A, ds, r, al, hv, e, q⟩
    replace e := one_ok e
    obtain ⟨d, rfl, e⟩ := e
    obtain ⟨v, rfl, rv⟩ := hv.one
    obtain ⟨ds, h1, e⟩ := Option.bind_eq_some_iff.mp e
    obtain ⟨a, xs, rfl, h2, h3⟩ := sqD_rw (K := X.K) rv h1
    try dsimp only at e
    split at e
    · rename_i ns hn
      cases e
      rw [intsD_eq hn] at h3
      rw [h3.of_ints] at h2
      have fin : ∀ (ns' : List Int) (p : Addr), ns'.Perm ns → ns'.Pairwise (· ≤ ·) → H p = none → Q (.ref p) (upd H p (.lst (ns'.map V.int))) := fun ns' p hp hs hn => by
        rw [srtI_uniq hp hs]
        exact q _ _ (Ext.new hn) (rv_list (RpL.ints _) hn)
      rcases h2 with h2 | h2
      · exact cr_sortedI pins s σ H _ us Q I rx ⟨a, ns, rfl, h2, fin⟩
      · exact cr_sortedIT pins s σ H _ us Q I rx ⟨a, ns, rfl, h2, fin⟩
    · split at e
      · rename_i ps hp
        cases e
        rw [pairsD_eq hp] at h3
        have k2 : ∀ x ∈ xs, ∃ t, x = V.ref t ∧ H t = some (.tup [.int (keyP H x).1, .int (keyP H x).2]) := fun x hx => by
          obtain ⟨t, e1, e2, _⟩ := (keyP_all h3).2 x hx
          exact ⟨t, e1, e2⟩
        have fin : ∀ ys p, SrtO.Srtd (ltP (keyP H)) ys → SrtO.Stb (ltP (keyP H)) ys xs → H p = none → Q (.ref p) (upd H p (.lst ys)) := fun ys p g1 g2 hp => q _ _ (Ext.new hp) (rv_list (sorted_keys h3 g1 g2) hp)
        rcases h2 with h2 | h2
        · exact cr_sortedPO pins s σ H _ us Q I rx ⟨a, xs, keyP H, rfl, h2, k2, fin⟩
        · exact cr_sortedPT pins s σ H _ us Q I rx ⟨a, xs, keyP H, rfl, h2, k2, fin⟩
      · cases e
end Ev
set_option Elab.async false
set_option linter.all false
set_option maxRecDepth 100000
set_option maxHeartbeats 2000000
/-! EvT: enumerate and zip over lists and tuples in any mix -/
namespace L2
open PySem PySem.Spec PyProof.Rows
/-- at a: a list (false), a tuple (true) -/
def SqK (k : Bool) (K : PySem.W.Frag) (H : Hp) (a : Addr) (xs : List V) : Prop := match k with
  | true => SqT K H a xs
  | false => SqL K H a xs
def SeqH (k : Bool) (h : Heap) (a : Addr) (items : Array Value) : Prop := match k with
  | true => h.IsTuple a items
  | false => h.IsList a items
def ItH (k : Bool) (h : Heap) (it a : Addr) (i : Nat) : Prop := match k with
  | true => h.IsTupleIter it a i
  | false => h.IsListIter it a i
section
variable {X : Cx} {pins : List (Addr × Obj)} {σ : St} {H : Hp} {s : Shared} {a it : Addr} {xs ys : List V}
theorem Inv.sqK {k : Bool} (I : Inv X pins σ H s) (h : SqK k X.K H a xs) : ∃ its : List Value, Vals xs its ∧ SeqH k s.heap a its.toArray := by
  cases k with
  | true => obtain ⟨its, r, p, _⟩ := I.tuple h; exact ⟨its, r, p⟩
  | false => obtain ⟨its, r, p, _⟩ := I.list h; exact ⟨its, r, p.isList⟩
theorem Inv.sqK_inj {k : Bool} (I : Inv X pins σ H s) (h : SqK k X.K H a xs) (h' : SqK k X.K H a ys) : xs = ys := by
  cases k with
  | true => exact I.tuple_inj h h'
  | false => exact I.list_inj h h'
theorem SeqH.lt {k : Bool} {h : Heap} {its : Array Value} (x : SeqH k h a its) : a < h.objs.size := by
  cases k with
  | true => obtain ⟨o, e, _⟩ := x; exact Heap.lt_size e
  | false => obtain ⟨o, e, _⟩ := x; exact Heap.lt_size e
theorem ItH.lt {k : Bool} {h : Heap} {i : Nat} (x : ItH k h it a i) : it < h.objs.size := by
  cases k with
  | true => obtain ⟨o, e, _⟩ := x; exact Heap.lt_size e
  | false => obtain ⟨o, e, _⟩ := x; exact Heap.lt_size e
theorem ItH.at {k : Bool} {h h' : Heap} {i : Nat} (x : ItH k h it a i) (e : ∀ o, h.get? it = some o → h'.get? it = some o) : ItH k h' it a i := by
  cases k with
  | true => exact Heap.IsTupleIter.at x e
  | false => exact Heap.IsListIter.at x e
theorem ItH.obj {k : Bool} {h : Heap} {i : Nat} (x : ItH k h it a i) : ∃ o, h.get? it = some o ∧ ∀ v, o.data ≠ .cell v := by
  cases k with
  | true => obtain ⟨o, e, _, d⟩ := x; exact ⟨o, e, fun v q => by rw [d] at q; cases q⟩
  | false => obtain ⟨o, e, _, d⟩ := x; exact ⟨o, e, fun v q => by rw [d] at q; cases q⟩
end
theorem drawsK (k : Bool) {prog : Program} {w : World} {A : Around} (hh : A.handled = none) (it a : Addr) (hne : a ≠ it) (items : Array Value) :
    Draws prog w A it [it, a] items.size (fun i v => items[i]? = some v) (fun i h => ItH k h it a i ∧ SeqH k h a items) := by
  cases k with
  | true => exact Draws.tuple hh it a hne items
  | false => exact Draws.list hh it a hne items
theorem beginsK (k : Bool) (a : Addr) (items : Array Value) : ∃ o, Begins (.ref a) o (fun h => SeqH k h a items) ∧ ∀ (h : Heap) (p : Addr), h.get? p = some o → ItH k h p a 0 := by
  cases k with
  | true => exact ⟨_, begins_tuple a items, fun h p e => ⟨_, e, rfl, rfl⟩⟩
  | false => exact ⟨_, begins_list a items, fun h p e => ⟨_, e, rfl, rfl⟩⟩
set_option maxHeartbeats 4000000 in
theorem meets_enumerate_newB0 {v : Value} {o : Obj} {H : Heap → Prop} (B : Begins v o H) :
    Meets (Builtin.«enumerate.__new__» ⟨[.type "enumerate", v], []⟩) (fun _ R s => H s.heap ∧
      R (.ok (.ret (.ref (s.heap.push o).objs.size))) { s with heap := (s.heap.push o).push { cls := .type "enumerate", data := .fields #[.none, .bool false, .ref s.heap.objs.size, rawInt 0, .none, .none] } }) :=
  .of_wp fun prog w A R s h => by
    obtain ⟨hp, g, d, tk, os⟩ := s; obtain ⟨h1, h⟩ := h
    have hsub := sub_enumerate
    have q1 : ∀ {A' : Around} {E : Value → Shared → Prop} {Q : Value → Shared → Prop}, Q (.ref hp.objs.size) ⟨hp.push o, g, d, tk, os⟩ → wpAny (model prog w) A' (pyIter v) Q E ⟨hp, g, d, tk, os⟩ :=
      fun q => B.iter prog w _ _ ⟨hp, g, d, tk, os⟩ _ h1 q
    wp_walk using q1
    refine wpAny_stack_any fun st => wpAny_pure ?_
    split
    · rename_i c _ _ _ _ _
      cases (c == Value.type "enumerate")
      · wp_walk using q1
        exact ⟨_, rfl, h⟩
      · wp_walk using q1
        exact ⟨_, rfl, h⟩
    · wp_walk using q1
      exact ⟨_, rfl, h⟩
theorem enum_begins0 {prog : Program} {w : World} {A : Around} {E : Value → Shared → Prop} {s : Shared} {v : Value} {o : Obj} {H : Heap → Prop} {Q : Value → Shared → Prop} (B : Begins v o H) (h1 : H s.heap)
    (h : ∀ h', IsEnum h' (s.heap.objs.size + 1) s.heap.objs.size 0 .none → h'.get? s.heap.objs.size = some o → h'.objs.size = s.heap.objs.size + 2 →
      (∀ b o, s.heap.get? b = some o → h'.get? b = some o) → Q (.ref (s.heap.objs.size + 1)) { s with heap := h' }) :
    wpAny (model prog w) A (call (.type "enumerate") [v]) Q E s := by
  refine callType_new F.called_enumerate (by decide) (F.typeCall_enumerate_1 _) (F.newCall_enumerate_1 _) (fun obj => F.args_object_init_2 obj _) F.entry_enumerate_new
    (meets_enumerate_newB0 B) ⟨h1, ?_⟩
  have hz : (s.heap.push o).objs.size = s.heap.objs.size + 1 := Heap.size_push ..
  show _ ∧ _
  rw [hz]
  have he : IsEnum ((s.heap.push o).push { cls := .type "enumerate", data := .fields #[.none, .bool false, .ref s.heap.objs.size, rawInt 0, .none, .none] }) (s.heap.objs.size + 1) s.heap.objs.size 0 .none := by
    have := Heap.get?_push_size (s.heap.push o) (o := { cls := .type "enumerate", data := .fields #[.none, .bool false, .ref s.heap.objs.size, rawInt 0, .none, .none] }) rfl
    rw [hz] at this; exact this
  refine ⟨⟨_, he, rfl⟩, h _ he (Heap.get?_push_of_some _ (Heap.get?_push_size _ B.free)) (by rw [Heap.size_push, hz]) fun b o x => Heap.get?_push_of_some _ (Heap.get?_push_of_some _ x)⟩
/-- the list or tuple at a, each item in a new pair behind its number -/
def IteK (k : Bool) (K : PySem.W.Frag) (a : Addr) : It :=
  ⟨fun i H => ∃ (xs : List V) (x : V), SqK k K H a xs ∧ xs[i]? = some x, fun i H v H' => ∃ T x, v = .ref T ∧ H T = none ∧ H' = upd H T (.tup [.int (i : Nat), x]) ∧ ∀ xs, SqK k K H a xs → xs[i]? = some x, fun i H => ∃ xs : List V, SqK k K H a xs ∧ xs.length ≤ i⟩
theorem turn_enumK {k : Bool} {P : Program} {w : World} {K : PySem.W.Frag} {elts : List Expr} {kk : Nat} {tpos : Pos} (a e it : Addr) (hei : e ≠ it) (hea : e ≠ a) (hia : a ≠ it) (n : Nat) :
    Turn P w K (.Tuple elts kk tpos) ⟨fun i H => (IteK k K a).go i H ∧ ∃ xs, SqK k K H a xs ∧ xs.length = n, (IteK k K a).yld, fun i H => i = n ∧ ∃ xs, SqK k K H a xs ∧ xs.length = n⟩ [e, it] e (fun i h => (∃ old, IsEnum h e it ((i : Nat) : Int) old) ∧ ItH k h it a i) where
  mem := by simp
  obj := fun i h st b hb => by
    obtain ⟨⟨old, he⟩, hi⟩ := st
    have e' : b = e ∨ b = it := by simpa using hb
    rcases e' with z | z
    · rw [z]; exact ⟨_, he, fun v q => nomatch q⟩
    · rw [z]; exact hi.obj
  keep := fun i h h' st k => let ⟨⟨old, he⟩, hi⟩ := st; ⟨⟨old, k e (by simp) _ he⟩, hi.at fun o q => k it (by simp) o q⟩
  item := by
    intro X hP hw hK hc i pins s σ H E I hf st hg
    subst hP hw hK
    obtain ⟨⟨old, he⟩, hit⟩ := st
    obtain ⟨⟨xs, x, hq, hx⟩, _⟩ := hg
    obtain ⟨its, rv, p⟩ := I.sqK hq
    obtain ⟨u, hu, ru⟩ := rv.get hx
    have hel : e < s.heap.objs.size := Heap.lt_size he
    have hil : it < s.heap.objs.size := hit.lt
    have hlt : i < its.toArray.size := by
      have := (List.getElem?_eq_some_iff.mp hu).1
      simpa using this
    refine wpAny_pyNext_enum_itemD (drawsK k (show X.A.in1.handled = none from I.ok.hd hc) it a hia its.toArray) he ⟨hit, p⟩ hlt hei (by simp [hei, hea]) fun x' h' tk hx' ho st' hT hsz hk => ?_
    have ex : x' = u := by
      have h1 : its[i]? = some x' := by simpa using hx'
      rw [hu] at h1
      exact (Option.some.inj h1).symm
    subst ex
    refine ⟨_, rfl, wpAny_letOwnedTupleGo_enum (s := { s with heap := h', toks := tk + 1 }) ho fun h'' he' sb => ?_⟩
    have hT2 : h''.get? s.heap.objs.size = some { cls := .type "tuple", data := .seq #[.int i tk, x'] } := (sb.2 _ (Nat.ne_of_gt hel)).trans hT
    have new : ObjOk X.prog X.w (upd H s.heap.objs.size (.tup [.int (i : Nat), x])) h'' s.heap.objs.size (.tup [.int (i : Nat), x]) :=
      ⟨by show 2 ≤ sizeLine; decide, [.int i tk, x'], .cons ⟨_, rfl⟩ (.cons ru .nil), ⟨_, hT2, rfl, _, rfl⟩⟩
    have I1 : Inv X pins σ (upd H s.heap.objs.size (.tup [.int (i : Nat), x])) { s with heap := h'', toks := tk + 1 } :=
      I.turnedNew (ch := [e, it]) (fun b ob hb q => (sb.2 b (fun z => hb (by simp [z]))).trans (hk b ob (fun z => hb (by simp [z])) (fun z => hb (by simp [z])) q)) hf (Nat.le_refl _) new
    refine ⟨.ref s.heap.objs.size, _, I1, rfl, ⟨_, x, rfl, I.hok.fresh (Nat.le_refl _), rfl, fun ys hy => by rw [I.sqK_inj hy hq]; exact hx⟩, ⟨⟨x', ?_⟩, st'.1.at fun o q => (sb.2 it (Ne.symm hei)).trans q⟩, fun b hb => ?_⟩
    · have e1 : ((i + 1 : Nat) : Int) = (i : Int) + 1 := by omega
      rw [e1]; exact he'
    · have hb' : b < s.heap.objs.size := by
        have e' : b = e ∨ b = it := by simpa using hb
        rcases e' with z | z
        · rw [z]; exact hel
        · rw [z]; exact hil
      rw [upd_ne (Nat.ne_of_lt hb')]
      exact (hf b hb).1
  done := by
    intro X hP hw hK hc i pins s σ H E I hf st hg
    subst hP hw hK
    obtain ⟨⟨old, he⟩, hit⟩ := st
    obtain ⟨rfl, xs, hq, hx⟩ := hg
    obtain ⟨its, rv, p⟩ := I.sqK hq
    obtain ⟨f0, f1, f2, f3, f4, f5⟩ := hf it (by simp)
    have hl := rv.length
    have e2 : i = its.toArray.size := by simp; omega
    have st2 : ItH k s.heap it a its.toArray.size ∧ SeqH k s.heap a its.toArray := ⟨by rw [← e2]; exact hit, p⟩
    exact wpAny_pyNext_enum_endD (drawsK k (show X.A.in1.handled = none from I.ok.hd hc) it a hia its.toArray) he st2 fun h' eb => ⟨rfl, I.turned (t' := s.toks) (fun b o hb q => eb b o hb q) f0 f1 f3 f4 f5⟩
  self := fun A i s Q E st h => let ⟨⟨_, he⟩, _⟩ := st; wpAny_pyIter_enum he h
/-- enumerate over n items -/
def IteN (k : Bool) (K : PySem.W.Frag) (a : Addr) (n : Nat) : It := ⟨fun i H => (IteK k K a).go i H ∧ ∃ xs, SqK k K H a xs ∧ xs.length = n, (IteK k K a).yld, fun i H => i = n ∧ ∃ xs, SqK k K H a xs ∧ xs.length = n⟩
def iEnumK (K : PySem.W.Frag) (ta : TA) : TI := fun σ H R => ta σ H fun vs H1 => ∃ a xs k, vs = [.ref a] ∧ SqK k K H1 a xs ∧ R (IteN k K a xs.length) H1
theorem pi_enumK {X : Cx} {e : Expr} {ta : TA} {p pos tpos : Pos} {elts : List Expr} {kk : Nat} (hg : Gl X "enumerate") (hm : X.mg "enumerate" = none) (ha : PA X [e] ta) (hs : starEach [e] X.env = [(false, eval e X.env)]) :
    PI X (.Tuple elts kk tpos) (.Call (.Name "enumerate" p) [e] [] pos) (iEnumK X.K ta) := by
  refine ⟨fun pins s σ H R I h => ?_⟩
  refine Call_ (ld_blt I hg hm PyProof.Rows.boot_enumerate (PyProof.Rows.callWith_type1 (thn (ha.run pos pins s σ H _ I h) fun us s1 ⟨vs, H1, I1, r1, q1⟩ => ?_) hs rfl))
  obtain ⟨a, xs, k, ex, hq, q⟩ := q1
  subst ex
  cases r1 with
  | cons r rr =>
    cases rr
    cases r
    obtain ⟨its, rv, p'⟩ := I1.sqK hq
    obtain ⟨o, B, bo⟩ := beginsK k a its.toArray
    refine enum_begins0 B p' fun h' he hit hsz hk => wpAny_pyIter_enum he ?_
    have I2 : Inv X pins σ H1 { s1 with heap := h' } := I1.kept (t' := s1.toks) hk
    have hal := p'.lt
    refine ⟨s1.heap.objs.size + 1, [s1.heap.objs.size + 1, s1.heap.objs.size], _, _, H1, rfl, I2, turn_enumK a (s1.heap.objs.size + 1) s1.heap.objs.size (Nat.succ_ne_self _) (Nat.ne_of_gt (Nat.lt_succ_of_lt hal)) (Nat.ne_of_lt hal) xs.length, ⟨⟨.none, he⟩, bo _ _ hit⟩, fun b hb => ?_, q⟩
    have e' : b = s1.heap.objs.size + 1 ∨ b = s1.heap.objs.size := by simpa using hb
    have hle : s1.heap.objs.size ≤ b := by
      rcases e' with z | z
      · rw [z]; exact Nat.le_add_right _ _
      · rw [z]; exact Nat.le_refl _
    exact I1.fpOk hle (I1.hok.fresh hle)
theorem walk_enumN {k : Bool} {K : PySem.W.Frag} {a : Addr} {xs : List V} : Walk (IteN k K a xs.length) xs.length (fun H => SqK k K H a xs) (YPair (fun i => some (.int (i : Nat))) (fun i => xs[i]?)) := by
  refine ⟨fun i H hi q => ⟨⟨xs, xs[i], q, by simp [hi]⟩, xs, q, rfl⟩, fun _ q => ⟨rfl, xs, q, rfl⟩, fun i H v H' _ q y => ?_⟩
  obtain ⟨T, x, h1, h2, h3, h4⟩ := y
  exact ⟨T, .int (i : Nat), x, h1, h2, h3, rfl, h4 xs q⟩
/-! ### zip of two -/
/-- what at a and b stands, the items in new pairs -/
def ItzN (k1 k2 : Bool) (K : PySem.W.Frag) (a b : Addr) (n1 n2 : Nat) : It :=
  ⟨fun i H => ∃ (xs ys : List V) (x y : V), SqK k1 K H a xs ∧ SqK k2 K H b ys ∧ xs[i]? = some x ∧ ys[i]? = some y,
    fun i H v H' => ∃ T x y, v = .ref T ∧ H T = none ∧ H' = upd H T (.tup [x, y]) ∧ (∀ xs, SqK k1 K H a xs → xs[i]? = some x) ∧ ∀ ys, SqK k2 K H b ys → ys[i]? = some y,
    fun i H => ∃ xs ys : List V, SqK k1 K H a xs ∧ SqK k2 K H b ys ∧ xs.length = n1 ∧ ys.length = n2 ∧ i = min n1 n2⟩
theorem turn_zipK {k1 k2 : Bool} {P : Program} {w : World} {K : PySem.W.Frag} {elts : List Expr} {kk : Nat} {tpos : Pos} {a b z TI TO i1 i2 : Addr} {n1 n2 : Nat} (S : ZipSep2 z TI TO i1 i2 [i1, a] [i2, b]) :
    Turn P w K (.Tuple elts kk tpos) (ItzN k1 k2 K a b n1 n2) [z, TI, TO, i1, i2] z (fun i h => IsZip h z TI TO .none ∧ IsTupOf2 h TI (.ref i1) (.ref i2) ∧ (∃ x y, IsTupOf2 h TO x y) ∧ ItH k1 h i1 a i ∧ ItH k2 h i2 b i) where
  mem := by simp
  obj := fun i h st c hc => by
    obtain ⟨hz, hTI, ⟨x, y, hTO⟩, h1, h2⟩ := st
    have e' : c = z ∨ c = TI ∨ c = TO ∨ c = i1 ∨ c = i2 := by simpa using hc
    rcases e' with q | q | q | q | q
    · rw [q]; exact ⟨_, hz, fun v q => nomatch q⟩
    · rw [q]; exact ⟨_, hTI, fun v q => nomatch q⟩
    · rw [q]; exact ⟨_, hTO, fun v q => nomatch q⟩
    · rw [q]; exact h1.obj
    · rw [q]; exact h2.obj
  keep := fun i h h' st k => by
    obtain ⟨hz, hTI, ⟨x, y, hTO⟩, h1, h2⟩ := st
    exact ⟨k z (by simp) _ hz, k TI (by simp) _ hTI, ⟨x, y, k TO (by simp) _ hTO⟩, h1.at fun o q => k i1 (by simp) o q, h2.at fun o q => k i2 (by simp) o q⟩
  item := by
    intro X hP hw hK hc i pins s σ H E I hf st hg
    subst hP hw hK
    obtain ⟨hz, hTI, ⟨x0, y0, hTO⟩, h1, h2⟩ := st
    obtain ⟨xs, ys, x, y, hqx, hqy, hx, hy⟩ := hg
    obtain ⟨its, rv, p⟩ := I.sqK hqx
    obtain ⟨its2, rv2, p2⟩ := I.sqK hqy
    obtain ⟨u, hu, ru⟩ := rv.get hx
    obtain ⟨u2, hu2, ru2⟩ := rv2.get hy
    have hzl : z < s.heap.objs.size := Heap.lt_size hz
    have hh : X.A.in1.handled = none := I.ok.hd hc
    have hlt1 : i < its.toArray.size := by have := (List.getElem?_eq_some_iff.mp hu).1; simpa using this
    have hlt2 : i < its2.toArray.size := by have := (List.getElem?_eq_some_iff.mp hu2).1; simpa using this
    have na1 : a ≠ i1 := fun q => by
      have hl1 := p.lt
      have := S.sep2_1
      exact absurd rfl (fun _ : True = True => by
        have ho := h1.obj
        obtain ⟨o, e, _⟩ := ho
        cases k1 with
        | true =>
          obtain ⟨o1, e1, c1, _⟩ := h1
          obtain ⟨o2, e2, c2, _⟩ := p
          rw [q] at e2
          rw [e1] at e2
          cases e2
          rw [c1] at c2
          exact absurd (Value.type.inj c2) (by decide)
        | false =>
          obtain ⟨o1, e1, c1, _⟩ := h1
          obtain ⟨o2, e2, c2, _⟩ := p
          rw [q] at e2
          rw [e1] at e2
          cases e2
          rw [c1] at c2
          exact absurd (Value.type.inj c2) (by decide))
    have na2 : b ≠ i2 := fun q => by
      cases k2 with
      | true =>
        obtain ⟨o1, e1, c1, _⟩ := h2
        obtain ⟨o2, e2, c2, _⟩ := p2
        rw [q] at e2
        rw [e1] at e2
        cases e2
        rw [c1] at c2
        exact absurd (Value.type.inj c2) (by decide)
      | false =>
        obtain ⟨o1, e1, c1, _⟩ := h2
        obtain ⟨o2, e2, c2, _⟩ := p2
        rw [q] at e2
        rw [e1] at e2
        cases e2
        rw [c1] at c2
        exact absurd (Value.type.inj c2) (by decide)
    refine wpAny_pyNext_zipD2_item S (drawsK k1 hh i1 a na1 its.toArray) (drawsK k2 hh i2 b na2 its2.toArray) hz hTI hTO ⟨h1, p⟩ ⟨h2, p2⟩ hlt1 hlt2 fun x1 x2 h' tk hx1 hx2 z' TO' h1' h2' hT hsz hk => ?_
    have ex : x1 = u := by
      have h1 : its[i]? = some x1 := by simpa using hx1
      rw [hu] at h1
      exact (Option.some.inj h1).symm
    have ey : x2 = u2 := by
      have h1 : its2[i]? = some x2 := by simpa using hx2
      rw [hu2] at h1
      exact (Option.some.inj h1).symm
    subst ex ey
    refine ⟨_, rfl, wpAny_letOwnedTupleGo_zip (s := { s with heap := h', toks := tk }) z' fun h'' z'' sb => ?_⟩
    have hT2 : h''.get? s.heap.objs.size = some { cls := .type "tuple", data := .seq #[x1, x2] } := (sb.2 _ (Nat.ne_of_gt hzl)).trans hT
    have new : ObjOk X.prog X.w (upd H s.heap.objs.size (.tup [x, y])) h'' s.heap.objs.size (.tup [x, y]) :=
      ⟨by show 2 ≤ sizeLine; decide, [x1, x2], .cons ru (.cons ru2 .nil), ⟨_, hT2, rfl, _, rfl⟩⟩
    have I1 : Inv X pins σ (upd H s.heap.objs.size (.tup [x, y])) { s with heap := h'', toks := tk } :=
      I.turnedNew (t' := tk) (ch := [z, TI, TO, i1, i2]) (fun c o hb q => (sb.2 c (fun q' => hb (by simp [q']))).trans (hk c o (fun q' => hb (by simp [q'])) (fun q' => hb (by simp [q'])) (fun q' => hb (by simp [q'])) (fun q' => hb (by simp [q'])) q)) hf (Nat.le_refl _) new
    refine ⟨.ref s.heap.objs.size, _, I1, rfl, ⟨_, x, y, rfl, I.hok.fresh (Nat.le_refl _), rfl, fun l hl => by rw [I.sqK_inj hl hqx]; exact hx, fun l hl => by rw [I.sqK_inj hl hqy]; exact hy⟩, ⟨z'', ?_, ⟨x1, x2, ?_⟩, ?_, ?_⟩, fun c hcm => ?_⟩
    · exact (sb.2 _ S.TIz).trans (hk _ _ S.TIz S.TITO S.TIi1 S.TIi2 hTI)
    · exact (sb.2 _ S.TOz).trans TO'
    · exact h1'.1.at fun o q => (sb.2 _ (Ne.symm S.zi1)).trans q
    · exact h2'.1.at fun o q => (sb.2 _ (Ne.symm S.zi2)).trans q
    · have hlt : c < s.heap.objs.size := by
        have e' : c = z ∨ c = TI ∨ c = TO ∨ c = i1 ∨ c = i2 := by simpa using hcm
        rcases e' with q | q | q | q | q
        · rw [q]; exact hzl
        · rw [q]; exact Heap.lt_size hTI
        · rw [q]; exact Heap.lt_size hTO
        · rw [q]; exact h1.lt
        · rw [q]; exact h2.lt
      rw [upd_ne (Nat.ne_of_lt hlt)]
      exact (hf c hcm).1
  done := by
    intro X hP hw hK hc i pins s σ H E I hf st hg
    subst hP hw hK
    obtain ⟨hz, hTI, ⟨x0, y0, hTO⟩, h1, h2⟩ := st
    obtain ⟨xs, ys, hqx, hqy, e1, e2, hend⟩ := hg
    obtain ⟨its, rv, p⟩ := I.sqK hqx
    obtain ⟨its2, rv2, p2⟩ := I.sqK hqy
    have l1 := rv.length
    have l2 := rv2.length
    have hh : X.A.in1.handled = none := I.ok.hd hc
    have na1 : a ≠ i1 := fun q => by
      cases k1 with
      | true =>
        obtain ⟨o1, e1, c1, _⟩ := h1
        obtain ⟨o2, e2, c2, _⟩ := p
        rw [q] at e2
        rw [e1] at e2
        cases e2
        rw [c1] at c2
        exact absurd (Value.type.inj c2) (by decide)
      | false =>
        obtain ⟨o1, e1, c1, _⟩ := h1
        obtain ⟨o2, e2, c2, _⟩ := p
        rw [q] at e2
        rw [e1] at e2
        cases e2
        rw [c1] at c2
        exact absurd (Value.type.inj c2) (by decide)
    have na2 : b ≠ i2 := fun q => by
      cases k2 with
      | true =>
        obtain ⟨o1, e1, c1, _⟩ := h2
        obtain ⟨o2, e2, c2, _⟩ := p2
        rw [q] at e2
        rw [e1] at e2
        cases e2
        rw [c1] at c2
        exact absurd (Value.type.inj c2) (by decide)
      | false =>
        obtain ⟨o1, e1, c1, _⟩ := h2
        obtain ⟨o2, e2, c2, _⟩ := p2
        rw [q] at e2
        rw [e1] at e2
        cases e2
        rw [c1] at c2
        exact absurd (Value.type.inj c2) (by decide)
    have s1 : its.toArray.size = n1 := by simp; omega
    have s2 : its2.toArray.size = n2 := by simp; omega
    exact wpAny_pyNext_zipD2_end S (drawsK k1 hh i1 a na1 its.toArray) (drawsK k2 hh i2 b na2 its2.toArray) hz hTI hTO ⟨h1, p⟩ ⟨h2, p2⟩ (by omega) (by omega) (by omega) fun h' tk hk => ⟨rfl, I.turnedL (t' := tk) (ch := [z, TI, TO, i1, i2]) (fun c o hb q =>
      hk c o (fun q' => hb (by simp [q'])) (fun q' => hb (by simp [q'])) (fun q' => hb (by simp [q'])) (fun q' => hb (by simp [q'])) q) hf⟩
  self := fun A i s Q E st h => wpAny_pyIter_zip st.1 h
def iZipK (K : PySem.W.Frag) (ta : TA) : TI := fun σ H R => ta σ H fun vs H1 => ∃ a b xs ys k1 k2, vs = [.ref a, .ref b] ∧ SqK k1 K H1 a xs ∧ SqK k2 K H1 b ys ∧ R (ItzN k1 k2 K a b xs.length ys.length) H1
theorem pi_zipK {X : Cx} {e e2 : Expr} {ta : TA} {p pos tpos : Pos} {elts : List Expr} {kk : Nat} (hg : Gl X "zip") (hm : X.mg "zip" = none) (ha : PA X [e, e2] ta)
    (hs : starEach [e, e2] X.env = (false, eval e X.env) :: starEach [e2] X.env) (hpl : (backTo pos (starEach [e2] X.env)).any (·.1) = false) :
    PI X (.Tuple elts kk tpos) (.Call (.Name "zip" p) [e, e2] [] pos) (iZipK X.K ta) := by
  refine ⟨fun pins s σ H R I h => ?_⟩
  refine Call_ (ld_blt I hg hm PyProof.Rows.boot_zip (PyProof.Rows.callWith_type1 (thn (ha.run pos pins s σ H _ I h) fun us s1 ⟨vs, H1, I1, r1, q1⟩ => ?_) hs hpl))
  obtain ⟨a, b, xs, ys, k1, k2, ex, hqx, hqy, q⟩ := q1
  subst ex
  cases r1 with
  | cons r rr =>
    cases rr with
    | cons r' rr =>
      cases rr
      cases r
      cases r'
      have fresh5 : ∀ c, c ∈ [s1.heap.objs.size + 4, s1.heap.objs.size + 2, s1.heap.objs.size + 3, s1.heap.objs.size, s1.heap.objs.size + 1] → FpOk X pins H1 c := fun c hcm => by
        have e' : c = s1.heap.objs.size + 4 ∨ c = s1.heap.objs.size + 2 ∨ c = s1.heap.objs.size + 3 ∨ c = s1.heap.objs.size ∨ c = s1.heap.objs.size + 1 := by simpa using hcm
        have hle : s1.heap.objs.size ≤ c := by
          rcases e' with z | z | z | z | z
          · rw [z]; exact Nat.le_add_right _ _
          · rw [z]; exact Nat.le_add_right _ _
          · rw [z]; exact Nat.le_add_right _ _
          · rw [z]; exact Nat.le_refl _
          · rw [z]; exact Nat.le_add_right _ _
        exact I1.fpOk hle (I1.hok.fresh hle)
      obtain ⟨its, rv, p1⟩ := I1.sqK hqx
      obtain ⟨its2, rv2, p2⟩ := I1.sqK hqy
      obtain ⟨o1, B1, bo1⟩ := beginsK k1 a its.toArray
      obtain ⟨o2, B2, bo2⟩ := beginsK k2 b its2.toArray
      refine zip_begins2 B1 B2 p1 p2 fun h' hz hTI hTO h1 h2 hsz hk => wpAny_pyIter_zip hz ?_
      have I2 : Inv X pins σ H1 { s1 with heap := h' } := I1.kept (t' := s1.toks) hk
      have la := p1.lt
      have lb := p2.lt
      exact ⟨s1.heap.objs.size + 4, [s1.heap.objs.size + 4, s1.heap.objs.size + 2, s1.heap.objs.size + 3, s1.heap.objs.size, s1.heap.objs.size + 1], _, _, H1, rfl, I2,
        turn_zipK (zip_sep2 (N := s1.heap.objs.size) (fp1 := [a]) (fp2 := [b]) (by simpa using la) (by simpa using lb)), ⟨hz, hTI, ⟨_, _, hTO⟩, bo1 _ _ h1, bo2 _ _ h2⟩, fresh5, q⟩
theorem walk_zipN {k1 k2 : Bool} {K : PySem.W.Frag} {a b : Addr} {xs ys : List V} : Walk (ItzN k1 k2 K a b xs.length ys.length) (min xs.length ys.length) (fun H => SqK k1 K H a xs ∧ SqK k2 K H b ys) (YPair (fun i => xs[i]?) (fun i => ys[i]?)) := by
  refine ⟨fun i _ hi q => ?_, fun _ q => ⟨xs, ys, q.1, q.2, rfl, rfl, rfl⟩, fun i H v H' _ q y => ?_⟩
  · have h1 : i < xs.length := by omega
    have h2 : i < ys.length := by omega
    exact ⟨xs, ys, xs[i], ys[i], q.1, q.2, by simp [h1], by simp [h2]⟩
  · obtain ⟨T, x, y, h1, h2, h3, h4, h5⟩ := y
    exact ⟨T, x, y, h1, h2, h3, h4 xs q.1, h5 ys q.2⟩
end L2
set_option Elab.async false
set_option linter.all false
set_option maxRecDepth 100000
set_option maxHeartbeats 2000000
/-! EvU: enumerate and zip as combinators; list(range(n)) -/
namespace Ev
open PySem L2
variable [Tbs]
section
variable {G : Gx} {N : List Str}
def isTup : Expr → Bool
  | .Tuple .. => true
  | _ => false
@[simp] def kindD : D → Option (Bool × List D)
  | .list ds => some (false, ds)
  | .tuple ds => some (true, ds)
  | _ => none
theorem kindD_rp {K : PySem.W.Frag} {H : Hp} {A : Addr → Prop} {v : V} {d : D} {k : Bool} {ds : List D} (r : Rp H A v d) (h : kindD d = some (k, ds)) : ∃ a xs, v = .ref a ∧ RpL H A xs ds ∧ ∀ H', Kp A H H' → SqK k K H' a xs := by
  unfold kindD at h
  split at h
  · cases h
    obtain ⟨a, xs, rfl, h1, h2, h3⟩ := r.list_of
    exact ⟨a, xs, rfl, h3, fun H' kp => .inl (.inl (kp a _ h1 h2 (fun _ z => nomatch z)))⟩
  · cases h
    obtain ⟨a, xs, rfl, h1, h2, h3⟩ := r.tup_of
    exact ⟨a, xs, rfl, h3, fun H' kp => .inl (.inl (kp a _ h1 h2 (fun _ z => nomatch z)))⟩
  · cases h
theorem SX.dats (xs : List (SX G N)) {k : Nat} {sc : Scope} {cl : Str → Bool} {C : Cx → Prop} (hC : ∀ X, C X → COk G k N sc cl X) {es : List Expr} (m : mtNs sc cl xs es = true) {σ : Sg} {H : Hp} {F : Addr → Prop} {ρ ρ' : Rho} {ds : List D} (S : RS σ H F ρ)
    (ev : evDs xs ρ = some (ds, ρ')) {Q : List V → Hp → Prop} (q : ∀ vs H', Stp σ H ρ H' ρ' → RS σ H' F ρ' → RpL H' (Av F σ ρ') vs ds → Q vs H') : SA C es σ H Q := ds_ok hC xs es m S ev q
def enumL (i : Nat) : List D → List D
  | [] => []
  | d :: ds => .tuple [.int (i : Nat), d] :: enumL (i + 1) ds
theorem enumL_length : ∀ (ds : List D) (i : Nat), (enumL i ds).length = ds.length
  | [], _ => rfl
  | d :: ds, i => by rw [enumL, List.length_cons, List.length_cons, enumL_length ds]
theorem enumL_get : ∀ (ds : List D) (i j : Nat) (d : D), ds[j]? = some d → (enumL i ds)[j]? = some (.tuple [.int ((i + j : Nat) : Int), d])
  | [], _, _, _, h => by simp at h
  | e :: ds, i, 0, d, h => by
    have : e = d := by simpa using h
    subst this
    rfl
  | e :: ds, i, j + 1, d, h => by
    have h2 : ds[j]? = some d := by simpa using h
    have := enumL_get ds (i + 1) j d h2
    rw [show i + 1 + j = i + (j + 1) by omega] at this
    rw [enumL]
    simpa using this
def zipL : List D → List D → List D
  | a :: as, b :: bs => .tuple [a, b] :: zipL as bs
  | _, _ => []
theorem zipL_length : ∀ (as bs : List D), (zipL as bs).length = min as.length bs.length
  | [], bs => by cases bs <;> simp [zipL]
  | a :: as, [] => by simp [zipL]
  | a :: as, b :: bs => by rw [zipL, List.length_cons, List.length_cons, List.length_cons, zipL_length as bs]; omega
theorem zipL_get : ∀ (as bs : List D) (j : Nat) (a b : D), as[j]? = some a → bs[j]? = some b → (zipL as bs)[j]? = some (.tuple [a, b])
  | [], _, _, _, _, h, _ => by simp at h
  | _ :: _, [], _, _, _, _, h => by simp at h
  | x :: as, y :: bs, 0, a, b, h, g => by
    have e1 : x = a := by simpa using h
    have e2 : y = b := by simpa using g
    subst e1 e2
    rfl
  | x :: as, y :: bs, j + 1, a, b, h, g => by
    rw [zipL]
    have := zipL_get as bs j a b (by simpa using h) (by simpa using g)
    simpa using this
/-- a new pair at turn i -/
theorem pair_rp {H H' : Hp} {A' : Addr → Prop} {T : Addr} {x y : V} {d e : D} (hT : H T = none) (hH : H' = upd H T (.tup [x, y])) (al : ∀ a, A' a → ∃ o, H a = some o) (r1 : Rp H A' x d) (r2 : Rp H A' y e) : Ext H H' ∧ Rp H' A' (.ref T) (.tuple [d, e]) := by
  subst hH
  exact ⟨Ext.new hT, rv_tup al (.cons r1 (.cons r2 .nil)) hT⟩
theorem itok_enum {k : Bool} {K : PySem.W.Frag} {a : Addr} {xs : List V} {ds : List D} {A0 : Addr → Prop} {H1 : Hp} (h : ∀ H', Kp A0 H1 H' → SqK k K H' a xs) (r : RpL H1 A0 xs ds) : ItOk (IteN k K a xs.length) A0 H1 (enumL 0 ds) := by
  have hl : (enumL 0 ds).length = xs.length := by rw [enumL_length, r.length]
  refine ⟨fun H => SqK k K H a xs, _, by rw [hl]; exact walk_enumN, fun H k => h H k, fun i H x H' hi k y => ?_⟩
  obtain ⟨T, x1, x2, rfl, hT, hH, e1, e2⟩ := y
  cases e1
  obtain ⟨d, h1, h2⟩ := r.get' e2
  have mono : ∀ A' : Addr → Prop, (∀ a, A' a → (A0 a ∨ H1 a = none) ∧ ∃ o, H a = some o) → Rp H A' x2 d := fun A' hA => h2.mono k fun a o e z => by
    rcases (hA a z).1 with z | z
    · exact z
    · rw [z] at e; cases e
  refine ⟨by rw [hH]; exact Ext.new hT, fun A' hA => ⟨_, enumL_get ds 0 i d h1, ?_⟩⟩
  rw [Nat.zero_add]
  exact (pair_rp hT hH (fun a z => (hA a z).2) (.int _) (mono A' hA)).2
theorem itok_zip {k1 k2 : Bool} {K : PySem.W.Frag} {a b : Addr} {xs ys : List V} {ds es : List D} {A0 : Addr → Prop} {H1 : Hp} (h : ∀ H', Kp A0 H1 H' → SqK k1 K H' a xs) (r : RpL H1 A0 xs ds) (h' : ∀ H', Kp A0 H1 H' → SqK k2 K H' b ys) (r' : RpL H1 A0 ys es) :
    ItOk (ItzN k1 k2 K a b xs.length ys.length) A0 H1 (zipL ds es) := by
  have hl : (zipL ds es).length = min xs.length ys.length := by rw [zipL_length, r.length, r'.length]
  refine ⟨fun H => SqK k1 K H a xs ∧ SqK k2 K H b ys, _, by rw [hl]; exact walk_zipN, fun H k => ⟨h H k, h' H k⟩, fun i H x H' hi k y => ?_⟩
  obtain ⟨T, x1, x2, rfl, hT, hH, e1, e2⟩ := y
  obtain ⟨d, h1, h2⟩ := r.get' e1
  obtain ⟨e, h3, h4⟩ := r'.get' e2
  have mono : ∀ (A' : Addr → Prop) {v : V} {d : D}, Rp H1 A0 v d → (∀ a, A' a → (A0 a ∨ H1 a = none) ∧ ∃ o, H a = some o) → Rp H A' v d := fun A' _ _ h2 hA => h2.mono k fun a o e z => by
    rcases (hA a z).1 with z | z
    · exact z
    · rw [z] at e; cases e
  refine ⟨by rw [hH]; exact Ext.new hT, fun A' hA => ⟨_, zipL_get ds es i d e h1 h3, ?_⟩⟩
  exact (pair_rp hT hH (fun a z => (hA a z).2) (mono A' h2 hA) (mono A' h4 hA)).2
def enumM (x : SX G N) (sc : Scope) (cl : Str → Bool) (tg it : Expr) : Bool := match it with
  | .Call (.Name f _) [a] [] _ => isTup tg && ((decide (f = "enumerate") && decide (f ∈ G.bl)) && (globB sc f && mtNs sc cl [x] [a]))
  | _ => false
/-- enumerate(x) -/
def iEnum (x : SX G N) : SI G N where
  mt sc cl tg it := enumM x sc cl tg it
  ev ρ := (evDs [x] ρ).bind fun p => match p.1 with
    | [d] => (kindD d).map fun q => (enumL 0 q.2, p.2)
    | _ => none
  ok k sc cl C hC tg it m σ H F ρ S items ρ' ev R q := by
    try dsimp only at ev
    unfold enumM at m
    split at m
    · rename_i f pf a pos
      simp only [Bool.and_eq_true, decide_eq_true_eq, globB] at m
      obtain ⟨m0, ⟨rfl, m1⟩, ⟨m2, m3⟩, m4⟩ := m
      obtain ⟨⟨ds, ρ1⟩, e1, ev⟩ := Option.bind_eq_some_iff.mp ev
      dsimp only at ev
      split at ev
      · rename_i d
        obtain ⟨⟨kk, es⟩, e2, ev⟩ := Option.map_eq_some_iff.mp ev
        cases ev
        intro X hX
        have al := mtNs_all m4
        rw [List.all_cons, Bool.and_eq_true] at al
        cases tg <;> first | (cases m0; done) | skip
        refine SIt.of (C := fun Y => Y = X) (t := iEnumK X.K (SA C [a])) ?_ (fun Y hY => ?_) X rfl
        · refine ds_ok hC [x] [a] m4 S e1 fun vs H1 s1 S1 r => ?_
          cases r with
          | cons r t =>
            cases t
            obtain ⟨b, xs, rfl, h1, h2⟩ := kindD_rp (K := X.K) r e2
            exact ⟨b, xs, kk, rfl, h2 H1 fun _ _ e _ _ => e, q _ H1 s1 S1 (itok_enum h2 h1)⟩
        · subst hY
          exact pi_enumK (by show Y.env.scope.names.lookup _ = _; rw [(hC Y hX).sc]; exact m2) ((hC Y hX).bl _ m1) (pa_SA hX) (starEach_of al.1)
      · cases ev
    · cases m
def zipM (x y : SX G N) (sc : Scope) (cl : Str → Bool) (tg it : Expr) : Bool := match it with
  | .Call (.Name f _) [a, b] [] _ => isTup tg && ((decide (f = "zip") && decide (f ∈ G.bl)) && (globB sc f && mtNs sc cl [x, y] [a, b]))
  | _ => false
/-- zip(x, y) -/
def iZip (x y : SX G N) : SI G N where
  mt sc cl tg it := zipM x y sc cl tg it
  ev ρ := (evDs [x, y] ρ).bind fun p => match p.1 with
    | [d, e] => (kindD d).bind fun q => (kindD e).map fun r => (zipL q.2 r.2, p.2)
    | _ => none
  ok k sc cl C hC tg it m σ H F ρ S items ρ' ev R q := by
    try dsimp only at ev
    unfold zipM at m
    split at m
    · rename_i f pf a b pos
      simp only [Bool.and_eq_true, decide_eq_true_eq, globB] at m
      obtain ⟨m0, ⟨rfl, m1⟩, ⟨m2, m3⟩, m4⟩ := m
      obtain ⟨⟨ds, ρ1⟩, e1, ev⟩ := Option.bind_eq_some_iff.mp ev
      dsimp only at ev
      split at ev
      · rename_i d e
        obtain ⟨⟨k1, es⟩, e2, ev⟩ := Option.bind_eq_some_iff.mp ev
        obtain ⟨⟨k2, fs⟩, e3, ev⟩ := Option.map_eq_some_iff.mp ev
        cases ev
        intro X hX
        have al := mtNs_all m4
        rw [List.all_cons, Bool.and_eq_true] at al
        cases tg <;> first | (cases m0; done) | skip
        refine SIt.of (C := fun Y => Y = X) (t := iZipK X.K (SA C [a, b])) ?_ (fun Y hY => ?_) X rfl
        · refine ds_ok hC [x, y] [a, b] m4 S e1 fun vs H1 s1 S1 r => ?_
          cases r with
          | cons r t =>
            cases t with
            | cons r' t =>
              cases t
              obtain ⟨p, xs, rfl, h1, h2⟩ := kindD_rp (K := X.K) r e2
              obtain ⟨p', ys, rfl, h3, h4⟩ := kindD_rp (K := X.K) r' e3
              exact ⟨p, p', xs, ys, k1, k2, rfl, h2 H1 (fun _ _ e _ _ => e), h4 H1 fun _ _ e _ _ => e, q _ H1 s1 S1 (itok_zip h2 h1 h4 h3)⟩
        · subst hY
          exact pi_zipK (by show Y.env.scope.names.lookup _ = _; rw [(hC Y hX).sc]; exact m2) ((hC Y hX).bl _ m1) (pa_SA hX) (starEach_of al.1) (noStars al.2)
      · cases ev
    · cases m
/-- list(range(n)) -/
def lrM (x : SX G N) (sc : Scope) (cl : Str → Bool) (e : Expr) : Bool := match e with
  | .Call (.Name l _) [.Call (.Name f _) [a] [] _] [] _ => ((decide (l = "list") && decide (l ∈ G.bl)) && (globB sc l)) && ((decide (f = "range") && decide (f ∈ G.bl)) && (globB sc f && (notStar a && x.mt sc cl a)))
  | _ => false
def sLr (x : SX G N) : SX G N where
  mt sc cl e := lrM x sc cl e
  ev ρ := (x.evD ρ).bind fun p => match p.1 with
    | .int n => match decide (-1000000 ≤ n) && decide (n ≤ 1000000) with
      | true => some (.fr (.list (rangeD 0 n.toNat)), p.2)
      | false => none
    | _ => none
  ok k sc cl C hC e m σ H F ρ S r ρ' ev Q q := by
    try dsimp only at ev
    unfold lrM at m
    split at m
    · rename_i l pl f pf a pos pos2
      simp only [Bool.and_eq_true, decide_eq_true_eq, globB] at m
      obtain ⟨⟨⟨rfl, l1⟩, l2, l3⟩, ⟨rfl, m1⟩, ⟨m2, m3⟩, m4, m5⟩ := m
      obtain ⟨⟨d, ρ1⟩, e1, ev⟩ := Option.bind_eq_some_iff.mp ev
      dsimp only at ev
      split at ev
      · rename_i n
        split at ev
        · rename_i hn
          cases ev
          simp only [Bool.and_eq_true, decide_eq_true_eq] at hn
          refine SE.of (t := tLstRg (tRg1 (SE C a))) ?_ fun X hX => ?_
          · refine x.dat hC m5 S e1 fun v H1 s1 S1 r => ?_
            cases r.int_of
            refine ⟨n, rfl, ⟨by omega, by omega, by omega, by omega, by omega⟩, fun p hp => ?_⟩
            have hl : RpL H1 (Av F σ ρ') (rgV 0 n) (rangeD 0 n.toNat) := by
              unfold rgV rangeD
              rw [Int.sub_zero]
              have := RpL.ints (H := H1) (A := Av F σ ρ') ((List.range n.toNat).map fun i => (0 : Int) + (i : Nat))
              rw [List.map_map, List.map_map] at this
              exact this
            have rv := rv_list hl hp
            exact q _ _ (s1.trans (Stp.ext (Ext.new hp))) (S1.ext (Ext.new hp)) (RV.rr (r := .fr (.list (rangeD 0 n.toNat))) S1 (Ext.new hp) rv) (Frs.back S1 s1 (RV.frs (r := .fr (.list (rangeD 0 n.toNat))) rv))
          · have hg : ∀ y, sc.names.lookup y = some .globalImplicit → Gl X y := fun y hy => by
              show X.env.scope.names.lookup _ = _
              rw [(hC X hX).sc]
              exact hy
            exact pe_listRg (hC X hX).calm (hg _ l2) ((hC X hX).bl _ l1) (prg_1 (hg _ m2) ((hC X hX).bl _ m1) (pe_SE hX) (starEach_of m4)) rfl
        · cases ev
      · cases ev
    · cases m
end
end Ev
set_option Elab.async false
set_option linter.all false
set_option maxRecDepth 100000
set_option maxHeartbeats 4000000
/-! EvV: xs[::-1], of a list, of a tuple -/
namespace HT
open PySem PySem.Spec PyProof.Rows L2
section
variable {prog : Program} {w : World} {A : Around} {E : Value → Shared → Prop} {s : Shared}
theorem adjust_rev (n : Nat) : Builtin.Slice.sliceAdjust none none (-1) (n : Int) = ((n : Int) - 1, -1) := by
  have h1 : ((-1 : Int) < 0) := by decide
  unfold Builtin.Slice.sliceAdjust
  simp only [h1, if_true]
theorem places_rev (n : Nat) : Builtin.Slice.slicePlaces ((n : Int) - 1) (-1) (-1) = n := by
  unfold Builtin.Slice.slicePlaces
  have h1 : ¬ ((-1 : Int) > 0) := by decide
  simp only [h1, if_false]
  have e : (-(-1) : Int) = 1 := by decide
  rw [e, Int.ediv_one]
  split <;> omega
theorem pick_rev (xs : Array Value) : ((List.range xs.size).filterMap fun (m : Nat) => xs[(((xs.size : Int) - 1) + (m : Int) * (-1)).toNat]?).toArray = xs.toList.reverse.toArray := by
  have e : ∀ k, k ≤ xs.size → (List.range k).filterMap (fun (m : Nat) => xs[(((xs.size : Int) - 1) + (m : Int) * (-1)).toNat]?) = xs.toList.reverse.take k := by
    intro k
    induction k with
    | zero => intro _; simp
    | succ k ih =>
      intro hk
      have h1 : (((xs.size : Int) - 1) + (k : Int) * (-1)).toNat = xs.size - 1 - k := by omega
      have h2 : xs[xs.size - 1 - k]? = some (xs[xs.size - 1 - k]'(by omega)) := by simp [show xs.size - 1 - k < xs.size by omega]
      rw [List.range_succ, List.filterMap_append, ih (by omega), List.take_add_one]
      congr 1
      rw [List.filterMap_cons, h1, h2]
      have h3 : xs.toList.reverse[k]? = some (xs[xs.size - 1 - k]'(by omega)) := by
        rw [List.getElem?_reverse (by simp; omega)]
        simp [show xs.size - 1 - k < xs.size by omega]
      rw [h3]
      rfl
  have := e xs.size (Nat.le_refl _)
  rw [this, List.take_of_length_le (by simp)]
theorem sliceApplied_rev {sl : Addr} {vl vu vs : Value} {n : Nat} {Q : Int × Int × Nat → Shared → Prop} (hs : s.heap.IsSliceOf sl vl vu vs) (pl : IsPart vl none) (pu : IsPart vu none) (ps : IsPart vs (some (-1)))
    (h : Q ((n : Int) - 1, -1, n) s) : wpAny (model prog w) A (Builtin.Slice.sliceApplied (.ref sl) (pure (n : Int))) Q E s := by
  obtain ⟨os, hos, hcs, hds⟩ := id hs
  unfold Builtin.Slice.sliceApplied Builtin.Slice.sliceFields
  refine wpAny_bind (wpAny_bind (wpAny_field hos hds (x := vl) rfl (wpAny_bind (wpAny_field hos hds (x := vu) rfl (wpAny_bind (wpAny_field hos hds (x := vs) rfl (wpAny_pure ?_)))))))
  refine wpAny_bind (slicePart_ ps ?_)
  show wpAny _ _ (if ((-1 : Int) == 0) = true then _ else _) _ _ s
  rw [if_neg (by decide)]
  refine wpAny_bind (slicePart_ pl (wpAny_bind (slicePart_ pu (wpAny_bind (wpAny_pure ?_)))))
  show wpAny _ _ (match Builtin.Slice.sliceAdjust none none (-1) (n : Int) with | (lo, hi) => pure (lo, (-1 : Int), Builtin.Slice.slicePlaces lo hi (-1))) _ _ s
  rw [adjust_rev n]
  show wpAny _ _ (pure (((n : Int) - 1), (-1 : Int), Builtin.Slice.slicePlaces ((n : Int) - 1) (-1) (-1))) _ _ s
  rw [places_rev]
  exact wpAny_pure h
theorem getItem_tuple_rev {t sl : Addr} {items : Array Value} {vl vu vs : Value} {Q : Value → Shared → Prop} (ht : IsTup s.heap t items) (hs : s.heap.IsSliceOf sl vl vu vs) (pl : IsPart vl none) (pu : IsPart vu none) (ps : IsPart vs (some (-1)))
    (h : Q (.ref s.heap.objs.size) { s with heap := s.heap.push { cls := .type "tuple", data := .seq items.toList.reverse.toArray } })
    (hsz : items.size ≤ sizeLine) : wpAny (model prog w) A (getItem (.ref t) (.ref sl)) Q E s := by
  have htake : sizeOk (.seq items.toList.reverse.toArray) := by
    show items.toList.reverse.toArray.size ≤ sizeLine
    rw [List.size_toArray, List.length_reverse, Array.length_toList]
    exact hsz
  obtain ⟨os, hos, hcs, hds⟩ := id hs
  have hTs : s.TypeIs (.ref sl) "slice" := ⟨os, hos, hcs⟩
  unfold getItem
  try with_reducible refine wpAny_holding ?_
  first | refine wpAny_bind (wpAny_pure ?_) | skip
  refine wpAny_bind (wpAny_sequenceKey ht.typeIs (by decide) ?_)
  refine wpAny_bind (wpAny_callSpecial?_slot (name := Str.ofString "__getitem__") ht.typeIs PyProof.Rows.slot_tuple_getitem
    (wpAny_call_entry PyProof.Rows.slot_tuple_getitem ht.typeIs entry_tuple_getitem ?_ (args_tuple_getitem _ _)))
  show wpAny _ _ (Builtin.Tuple.tupleItemsOf (.ref t) >>= _) _ _ s
  refine wpAny_bind (tupleItemsOf_ ht ?_)
  refine wpAny_bind (wpAny_typeOf hTs ?_)
  rw [if_pos (by decide)]
  refine wpAny_bind (sliceApplied_rev hs pl pu ps ?_)
  have hno : ¬ ((((items.size : Int) - 1) == 0 && (-1 : Int) == 1 && items.size == items.size) = true) := by
    intro q
    rw [Bool.and_eq_true, Bool.and_eq_true] at q
    exact absurd q.1.2 (by decide)
  show wpAny _ _ (if (((items.size : Int) - 1) == 0 && (-1 : Int) == 1 && items.size == items.size) = true then _ else _) _ _ s
  rw [if_neg hno, pick_rev]
  first
    | exact wpAny_bind (m := Builtin.Tuple.tupleExact _) (wpAny_newObj_type (wpAny_pure ⟨_, rfl, wpAny_pure h⟩) htake)
    | exact wpAny_bind (m := Builtin.Tuple.tupleExact _) (wpAny_newObj_type (wpAny_bind (wpAny_pure (wpAny_pure ⟨_, rfl, wpAny_pure h⟩))) htake)
    | exact wpAny_bind (wpAny_bind (m := Builtin.Tuple.tupleExact _) (wpAny_newObj_type (wpAny_pure (wpAny_pure ⟨_, rfl, wpAny_pure h⟩)) htake))
    | exact wpAny_bind (wpAny_bind (m := Builtin.Tuple.tupleExact _) (wpAny_newObj_type (wpAny_pure ⟨_, rfl, wpAny_pure h⟩) htake))
end
end HT
namespace L2
open PySem PySem.Spec PyProof.Rows
section
variable {X : Cx}
def tRevT (K : PySem.W.Frag) (te : TE) : TE := fun σ H Q => te σ H fun x H1 => ∃ a xs, x = .ref a ∧ SqT K H1 a xs ∧ ∀ p, H1 p = none → Q (.ref p) (upd H1 p (.tup xs.reverse))
theorem pe_revT {e : Expr} {te : TE} {k : Nat} {p1 p2 p3 pos : Pos} (he : PE X e te) : PE X (.Subscript e (.Slice none none (some (.UnaryOp .USub (.Constant (.int 1) k p1) p2)) p3) pos) (tRevT X.K te) := by
  refine ⟨fun pins s σ H Q I h => ?_⟩
  refine Subscript_ (thn (he.run pins s σ H _ I h) fun v s1 ⟨x, H1, I1, r1, q1⟩ => ?_)
  obtain ⟨a, xs, ex, hx, q⟩ := q1
  subst ex
  cases r1
  have hst : PO X (some (.UnaryOp .USub (.Constant (.int 1) k p1) p2)) (tPart (tUn (rU fun i => .int (-i)) (tC (.int 1)))) := po_some (pe_un un_neg pe_int)
  refine wpAny_Slice (thn (po_none.run pins s1 σ H1 (fun o H2 => o = none ∧ H2 = H1) I1 ⟨rfl, rfl⟩) fun vl s2 ⟨l, H2, I2, pl, el, e2⟩ => ?_)
  subst el e2
  refine thn (po_none.run pins s2 σ H2 (fun o H3 => o = none ∧ H3 = H2) I2 ⟨rfl, rfl⟩) fun vu s3 ⟨u, H3, I3, pu, eu, e3⟩ => ?_
  subst eu e3
  refine thn (hst.run pins s3 σ H3 (fun o H4 => o = some (-1) ∧ H4 = H3) I3 ⟨1, rfl, -1, rfl, rfl, rfl⟩) fun vs s4 ⟨o, H4, I4, ps, eo, e4⟩ => ?_
  subst eo e4
  have I5 : Inv X pins σ H4 { s4 with heap := s4.heap.push { cls := .type "slice", data := .fields #[vl, vu, vs] } } := I4.kept (t' := s4.toks) fun b ob q => Heap.get?_push_of_some _ q
  obtain ⟨its, r, ht, hz⟩ := I5.tuple hx
  have hlen := r.length
  show wpAny (model X.prog X.w) X.A (subscriptTail e (.Slice none none (some (.UnaryOp .USub (.Constant (.int 1) k p1) p2)) p3) (.ref a) (.ref s4.heap.objs.size)) (EP X pins σ Q) X.xe { s4 with heap := s4.heap.push { cls := .type "slice", data := .fields #[vl, vu, vs] } }
  refine tail_any (ops := [.ref a, .ref s4.heap.objs.size]) ht.typeIs (PyProof.Rows.slot_tuple_getitem.lookup) ?_ (by with_unfolding_all rfl)
  refine HT.getItem_tuple_rev ht (Heap.IsSliceOf.new _ vl vu vs) pl pu ps ?_ (by rw [List.size_toArray]; omega)
  refine ⟨.ref _, _, I5.laid (t' := s4.toks) (o := .tup xs.reverse) (fun b ob q => Heap.get?_push_of_some _ q) (Nat.le_refl _) ?_, rfl, q _ (I5.hok.fresh (Nat.le_refl _))⟩
  exact ⟨by rw [List.length_reverse]; exact hz, _, r.reverse, IsTup.new _ _⟩
end
end L2
namespace Ev
open PySem L2
variable [Tbs]
section
variable {G : Gx} {N : List Str}
@[simp] def revD : D → Option Rv
  | .list ds => some (.fr (.list ds.reverse))
  | .tuple ds => some (.v (.tuple ds.reverse))
  | _ => none
def revM (x : SX G N) (sc : Scope) (cl : Str → Bool) (e : Expr) : Bool := match e with
  | .Subscript a (.Slice none none (some (.UnaryOp .USub (.Constant (.int 1) _ _) _)) _) _ => x.mt sc cl a
  | _ => false
/-- x[::-1] -/
def sRev (x : SX G N) : SX G N where
  mt sc cl e := revM x sc cl e
  ev ρ := (x.evH ρ).bind fun p => (peek p.2 p.1).bind fun d => (revD d).map fun r => (r.r, p.2)
  ok k sc cl C hC e m σ H F ρ S r ρ' ev Q q := by
    try dsimp only at ev
    unfold revM at m
    split at m
    · rename_i a kk p1 p2 p3 pos
      obtain ⟨⟨r1, ρ1⟩, e1, ev⟩ := Option.bind_eq_some_iff.mp ev
      obtain ⟨d, e2, ev⟩ := Option.bind_eq_some_iff.mp ev
      obtain ⟨rv, e3, ev⟩ := Option.map_eq_some_iff.mp ev
      cases ev
      try dsimp only at e2 q
      unfold revD at e3
      intro X hX
      split at e3
      · cases e3
        refine SE.of (C := fun Y => Y = X) (t := tRevL X.K (SE C a)) ?_ (fun Y hY => by subst hY; exact pe_revL (pe_SE hX)) X rfl
        refine x.holdH hC m S e1 fun v H1 s1 S1 h1 => ?_
        obtain ⟨b, xs, rfl, h2, h3⟩ := (h1.peek S1 e2).list_of
        refine ⟨b, xs, rfl, .inl (.inl h2), fun p hp => ?_⟩
        have rv := rv_list h3.reverse hp
        exact q _ _ (s1.trans (Stp.ext (Ext.new hp))) (S1.ext (Ext.new hp)) (RV.rr S1 (Ext.new hp) rv) (Frs.back S1 s1 rv.frs)
      · cases e3
        refine SE.of (C := fun Y => Y = X) (t := tRevT X.K (SE C a)) ?_ (fun Y hY => by subst hY; exact pe_revT (pe_SE hX)) X rfl
        refine x.holdH hC m S e1 fun v H1 s1 S1 h1 => ?_
        obtain ⟨b, xs, rfl, h2, _, h3⟩ := (h1.peek S1 e2).tup_of
        refine ⟨b, xs, rfl, .inl (.inl h2), fun p hp => ?_⟩
        have rv := rv_tup (av_alloc S1) h3.reverse hp
        exact q _ _ (s1.trans (Stp.ext (Ext.new hp))) (S1.ext (Ext.new hp)) (RV.rr (r := .v (.tuple _)) S1 (Ext.new hp) rv) trivial
      · cases e3
    · cases m
end
end Ev
set_option Elab.async false
set_option linter.all false
set_option maxRecDepth 100000
set_option maxHeartbeats 4000000
/-! EvW: sum, repr, list.index, == of texts -/
namespace L2
open PySem PySem.Spec PyProof.Rows
section
variable {prog : Program} {w : World} {A : Around} {E : Value → Shared → Prop} {s : Shared} {l : Addr} {its : List Value} {ns : List Int}
theorem sum_rawT {Q : Value → Shared → Prop} (hh : A.handled = none) (hl : s.heap.IsTuple l its.toArray) (hi : IntsAre its ns)
    (h : ∀ h' tk t', (∀ b o, s.heap.get? b = some o → h'.get? b = some o) → Q (.int ns.sum t') { s with heap := h', toks := tk }) : wpAny (model prog w) A (call (.builtin "sum") [.ref l]) Q E s := by
  obtain ⟨xs, e⟩ := hi.allInts.items
  have hn : numsOf (intItems xs).toList = ns := by rw [← e]; exact hi.numsOf
  rw [nums_intItems] at hn
  rw [e] at hl
  have hlt : l < s.heap.objs.size := by obtain ⟨_, e, _⟩ := hl; exact Heap.lt_size e
  refine call_sum_walkG (wpAny_pyIter_tuple hl ?_)
  refine ⟨_, _, _, _, _, _, numAt xs, rfl, Walks.tuple (A := A.in1) hh s.heap.objs.size l (Nat.ne_of_lt hlt) (intItems xs), ⟨⟨_, Heap.get?_push_size _ rfl, rfl, rfl⟩, by obtain ⟨o, e, r⟩ := hl; exact ⟨o, Heap.get?_push_of_some _ e, r⟩⟩, fun b hb => ?_, (fun _ _ => intItems_at), fun h' tk t' hk => ?_⟩
  · show b < (s.heap.push _).objs.size
    rw [Heap.size_push]
    rcases List.mem_cons.mp hb with rfl | hb
    · exact Nat.lt_succ_self _
    · rcases List.mem_cons.mp hb with rfl | hb
      · exact Nat.lt_succ_of_lt hlt
      · cases hb
  · have := h h' tk t' fun b o e => by
      refine hk b o (fun hm => ?_) (Heap.get?_push_of_some _ e)
      rcases List.mem_cons.mp hm with e1 | hm
      · exact absurd (e1 ▸ Heap.lt_size e) (Nat.lt_irrefl _)
      · cases hm
    have e2 : preSum (numAt xs) (intItems xs).size = ns.sum := by
      have : (intItems xs).size = xs.size := by simp [intItems]
      rw [this, preSum_eq, List.take_of_length_le (by simp), hn]
    rw [e2]
    exact this
end
section
variable {X : Cx}
def rSumT (K : PySem.W.Frag) : List V → Hp → VK → Prop := fun vs H Q => ∃ (a : Addr) (ns : List Int), vs = [V.ref a] ∧ SqT K H a (ns.map V.int) ∧ Q (.int ns.sum) H
theorem cr_sumT (hc : X.calm = true) : CallR X (.builtin "sum") (rSumT X.K) := by
  intro pins s σ H vs us Q I r h
  obtain ⟨a, ns, rfl, hs, q⟩ := h
  obtain ⟨its, rv, hl, _⟩ := I.tuple hs
  rw [Vals.ref1 r]
  exact sum_rawT (I.ok.hd hc) hl rv.ints fun h' tk t' hk => ⟨.int _, H, I.kept hk, ⟨_, rfl⟩, q⟩
end
end L2
namespace Ev
open PySem L2
variable [Tbs]
@[simp] def sumD (d : D) : Option Rv := (sqD d).bind fun ds => (intsD ds).map fun ns => .v (.int ns.sum)
def bSum : Blt where
  name := "sum"
  f := .builtin "sum"
  hv := boot_sum
  kind := .inl ⟨_, rfl⟩
  g := one sumD
  ok := by
    rintro X hc hr hgd pins s σ H vs us Q I rx ⟨A, ds, r, al, hv, e, q⟩
    replace e := one_ok e
    obtain ⟨d, rfl, e⟩ := e
    obtain ⟨v, rfl, rv⟩ := hv.one
    obtain ⟨ds, h1, e⟩ := Option.bind_eq_some_iff.mp e
    obtain ⟨ns, h2, rfl⟩ := Option.map_eq_some_iff.mp e
    obtain ⟨a, xs, rfl, h3, h4⟩ := sqD_rw (K := X.K) rv h1
    rw [intsD_eq h2] at h4
    rw [h4.of_ints] at h3
    rcases h3 with h3 | h3
    · exact cr_sum hc pins s σ H _ us Q I rx ⟨a, ns, rfl, h3, q _ H Ext.refl (.int _)⟩
    · exact cr_sumT hc pins s σ H _ us Q I rx ⟨a, ns, rfl, h3, q _ H Ext.refl (.int _)⟩
/-! ### repr -/
mutual
theorem shp_noDict : ∀ (n : Nat) (d : D), shp n d = true → d.hasDict = false
  | n, .none, _ => by simp only [PyData.hasDict]
  | n, .bool _, _ => by simp only [PyData.hasDict]
  | n, .int _, _ => by simp only [PyData.hasDict]
  | n, .str x, h => by simp only [PyData.hasDict]
  | n, .dict x, h => by cases n <;> cases h
  | 0, .list ds, h => by cases h
  | 0, .tuple ds, h => by cases h
  | n + 1, .list ds, h => by simp only [PyData.hasDict]; exact shp_noDictAll n ds h
  | n + 1, .tuple ds, h => by simp only [PyData.hasDict]; exact shp_noDictAll n ds h
theorem shp_noDictAll : ∀ (n : Nat) (ds : List D), ds.all (shp n) = true → PyData.hasDictAll ds = false
  | n, [], _ => by simp only [PyData.hasDictAll]
  | n, d :: ds, h => by
    rw [List.all_cons, Bool.and_eq_true] at h
    simp only [PyData.hasDictAll, shp_noDict n d h.1, shp_noDictAll n ds h.2]
    rfl
end
@[simp] def reprD (d : D) : Option Rv := match shp 8 d && (d.showable && decide (d.shown.length ≤ 1000000)) with
  | true => some (.v (.str d.shown))
  | false => none
def bRepr : Blt where
  name := "repr"
  f := .builtin "repr"
  hv := boot_repr
  kind := .inl ⟨_, rfl⟩
  g := one reprD
  ok := by
    rintro X hc hr hgd pins s σ H vs us Q I rx ⟨A, ds, r, al, hv, e, q⟩
    replace e := one_ok e
    obtain ⟨d, rfl, e⟩ := e
    obtain ⟨v, rfl, rv⟩ := hv.one
    unfold reprD at e
    split at e
    · rename_i hs
      cases e
      simp only [Bool.and_eq_true, decide_eq_true_eq] at hs
      obtain ⟨s1, s2, s3⟩ := hs
      have hz : d.shown.length ≤ sizeLine := by rw [sizeLine_eq]; omega
      obtain ⟨u, rfl, ru⟩ := vals1 rx
      have q1 := q _ H Ext.refl (Rp.str (H := H) (A := A) d.shown)
      have hdp := rv.dp (K := X.K) s1
      have refc : ∀ a, u = .ref a → wpAny (model X.prog X.w) X.A (call (.builtin "repr") [.ref a]) (EP X pins σ Q) X.xe s := fun a ea => by
        subst ea
        obtain ⟨as, r1⟩ := Dp.reads I d v (.ref a) hdp ru
        have hd := (shp_lay 8 d s1).2
        exact PySem.repr_of_reads' r1 s2 (PyData.noDict_hsm (shp_noDict 8 d s1)) hgd (by have := room_u hr (n := 64) (by decide); omega) (fun _ _ e => e) (fun h' t tk hk => ⟨.str _, H, I.kept hk, ⟨_, rfl⟩, q1⟩) hz
      cases hdp with
      | non => cases ru; exact PySem.P.repr_of_none ⟨.str _, H, I.tok _, ⟨_, rfl⟩, q1⟩
      | bl b => cases ru; exact PySem.P.repr_of_bool ⟨.str _, H, I.tok _, ⟨_, rfl⟩, q1⟩
      | int i =>
        obtain ⟨t, rfl⟩ := ru
        refine PySem.P.repr_of_int (of_decide_eq_true ?_) ⟨.str _, H, I.tok _, ⟨_, rfl⟩, q1⟩
        simpa only [PyData.showable] using s2
      | str x => cases s1
      | lst => cases ru; exact refc _ rfl
      | tup => cases ru; exact refc _ rfl
    · cases e
/-! ### texts -/
@[simp] def eqSD : D → D → Option Bool
  | .str a, .str b => some (decide (a = b))
  | a, b => eqD a b
@[simp] def neSD : D → D → Option Bool
  | .str a, .str b => some (!decide (a = b))
  | a, b => neD a b
theorem dec_strV {a b : Str} : decide (V.str a = V.str b) = decide (a = b) := by
  rw [Bool.eq_iff_iff]
  simp
theorem eqS_ok : CmpD .Eq eqSD := by
  rintro X hc hr pins s σ H x y v u Q I rx ry ⟨A, a, b, r, al, ha, hb, e, q⟩
  obtain ⟨c, e0, rfl⟩ := Option.map_eq_some_iff.mp e
  clear e
  have e := e0
  clear e0
  unfold eqSD at e
  split at e
  · cases e
    cases ha.str_of
    cases hb.str_of
    exact op_eq pins s σ H _ _ v u Q I rx ry ⟨rfl, by rw [dec_strV]; exact q _ H Ext.refl (.bl _)⟩
  · exact eq_ok X hc hr pins s σ H x y v u Q I rx ry ⟨A, _, _, .v (.bool c), al, ha, hb, by show Option.map _ (eqD _ _) = _; rw [e]; rfl, q⟩
theorem neS_ok : CmpD .NotEq neSD := by
  rintro X hc hr pins s σ H x y v u Q I rx ry ⟨A, a, b, r, al, ha, hb, e, q⟩
  obtain ⟨c, e0, rfl⟩ := Option.map_eq_some_iff.mp e
  clear e
  have e := e0
  clear e0
  unfold neSD at e
  split at e
  · cases e
    cases ha.str_of
    cases hb.str_of
    exact op_ne pins s σ H _ _ v u Q I rx ry ⟨rfl, by rw [dec_strV]; exact q _ H Ext.refl (.bl _)⟩
  · exact ne_ok X hc hr pins s σ H x y v u Q I rx ry ⟨A, _, _, .v (.bool c), al, ha, hb, by show Option.map _ (neD _ _) = _; rw [e]; rfl, q⟩
/-! ### xs.index(y) -/
section
variable {G : Gx} {N : List Str}
def idxD (ds : List D) (d : D) : Option Nat := match ds.all (shp 7) && shp 8 d with
  | true => ds.findIdx? fun z => PyData.eqv z d
  | false => none
def sIdx (i : Nat) (x : SX G N) : SX G N where
  mt sc cl e := m1M "index" i x sc cl e
  ev ρ := match ρ[i]? with
    | some (.ow (.list _)) => (x.evD ρ).bind fun p => match p.2[i]? with
      | some (.ow (.list ds)) => (idxD ds p.1).map fun j => (.v (.int (j : Nat)), p.2)
      | _ => none
    | _ => none
  ok k sc cl C hC e mm σ H F ρ S r ρ' ev Q q := by
    dsimp only at ev
    unfold m1M at mm
    split at mm
    · rename_i o n apos a cpos
      simp only [Bool.and_eq_true, decide_eq_true_eq] at mm
      obtain ⟨⟨rfl, m1⟩, m2, m3, m4⟩ := mm
      split at ev
      · rename_i ds0 h0
        obtain ⟨⟨d, ρ1⟩, e1, ev⟩ := Option.bind_eq_some_iff.mp ev
        dsimp only at ev
        split at ev
        · rename_i ds h1
          obtain ⟨j, e2, ev⟩ := Option.map_eq_some_iff.mp ev
          cases ev
          unfold idxD at e2
          split at e2
          · rename_i hs
            rw [Bool.and_eq_true] at hs
            obtain ⟨hj, hp, hno⟩ := List.findIdx?_eq_some_iff_getElem.mp e2
            intro X hX
            refine SE.of (C := fun Y => Y = X) (t := tBM X.K "list" (rIndexD X.K) (SE C o) (tCons (SE C a) tNil)) ?_ (fun Y hY => ?_) X rfl
            · refine (sVar i).ok k sc cl C hC o m2 σ H F ρ S (.bo i) ρ (by show (match ρ[i]? with | some (.va d) => some (R.v d, ρ) | some (.ow _) => some (R.bo i, ρ) | _ => none) = _; rw [h0]) _ fun v H1 s1 S1 hv _ => ?_
              obtain ⟨hv, _⟩ := hv
              obtain ⟨p, ob, g1, g2, g3, g4, g5⟩ := S1.ow i _ h0
              rw [hv] at g1
              cases g1
              cases g4 with
              | lst g4 =>
                refine ⟨.inl ⟨rfl, _, .inl (.inl g2)⟩, ?_⟩
                refine x.dat hC m4 S1 e1 fun w H2 s2 S2 r2 => ?_
                obtain ⟨p', ob', k1, k2, k3, k4, k5⟩ := S2.ow i _ h1
                rw [hv] at k1
                cases k1
                cases k4 with
                | lst k4 =>
                  refine ⟨p, w, d, ds, j, ds[j], rfl, rfl, .lst (.inl (.inl k2)) (k4.dp 7 hs.1), r2.dp 8 hs.2, shp_ok (d := .list ds) hs.1, shp_ok hs.2, by simp [hj], hp, fun m z' hm hz' => ?_, q _ H2 (s1.trans s2) S2 (.int _) trivial⟩
                  obtain ⟨hml, rfl⟩ := List.getElem?_eq_some_iff.mp hz'
                  exact Bool.eq_false_iff.mpr fun z => hno m hm z
            · subst hY
              exact pe_bm PySem.F.plainAttrs_list PySem.F.slot_list_index (by rfl) (mt_indexD (by have := (hC Y hX).room.un; omega)) (pe_SE hX) (pa_cons (pe_SE hX) pa_nil (starEach_of m3)) (var_base m2 _ _) (few1 m3) m1 (starEach_of m3) rfl
          · cases e2
        · cases ev
      · cases ev
    · cases mm
end
end Ev
set_option Elab.async false
set_option linter.all false
set_option maxRecDepth 100000
set_option maxHeartbeats 4000000
/-! EvX: sorted(xs, key=lambda y: x[y]), x captured -/
namespace LamX
open PySem PySem.Spec PyProof.Rows L2 PySem.W
section
variable {prog : Program} {w : World} {A : Around} {s : Shared}
/-- the lambda y: x[y], called: an item of the tuple in the cell of x -/
theorem lamKey_call {f c' c t : Addr} {q x y : Str} {params : Arguments} {p1 p2 p3 : Pos} {scope : Scope} {cl : List (Str × Addr)} {pm ctv : Value} {i : Int} {u : Tok} {j : Nat} {items : Array Value} {k : Int} {tk : Tok}
    (hroom : A.depth < recursionLimit) (of : s.heap.get? f = some (kla_obj "<lambda>" q params (.Subscript (.Name x p1) (.Name y p2) p3) scope cl pm c' ctv))
    (co : ∃ (oc : Obj) (vs : Array Value) (t : Tok), s.heap.get? c' = some oc ∧ oc.data = .fields vs ∧ vs[1]? = some (.str q t)) (kind : scope.kind = .function) (hco : scope.isCoroutine = false) (hgen : scope.isGenerator = false)
    (ncell : ∀ z ∈ scope.names, z.2 ≠ .cell) (hx : scope.names.lookup x = some .free) (hy : scope.names.lookup y = some .local) (nolimit : s.heap.NoLimit)
    (hbind : bindArgs (kla_fn "<lambda>" q params (.Subscript (.Name x p1) (.Name y p2) p3) scope cl pm (.ref c') ctv) ⟨[.int i u], []⟩ = pure [(y, .int i u)])
    (hcl : cl.lookup x = some c) (hcell : s.heap.IsCell c (some (.ref t))) (ht : IsTup s.heap t items) (h0 : -(2 ^ 63) ≤ i) (h1 : i < 2 ^ 63) (hj : seqIndex? i items.size = some j) (hi : items[j]? = some (.int k tk))
    (dx : (x == ("__debug__" : Str)) = false) (dx2 : (x == ("__classdict__" : Str)) = false) (dy : (y == ("__debug__" : Str)) = false) :
    wpAny (model prog w) A (call (.ref f) [.int i u]) (KeyPure (.int k) s) (fun _ _ => False) s := by
  obtain ⟨oc, vs, t1, hoc, hdc, hvc⟩ := co
  have rc : codeAny (model prog w) A (.call (.ref f) ⟨[.int i u], []⟩) (fun r s' => match r with | .ok (.ret v) => KeyPure (.int k) s v s' | _ => False) s := by
    refine kla_callFunE hroom of rfl hco hgen rfl ⟨c', oc, vs, t1, rfl, hoc, hdc, hvc⟩ ?_
    rw [hbind]
    refine wpAny_pure (wpAny_newFunctionEnv ncell (fun z hz => ?_) (fun h₁ hns hsb => ⟨nolimit.fresh _ hsb, ?_⟩) kind)
    · have e : z = (y, .int i u) := by simpa using hz
      rw [e]
      exact hy
    have kp : ∀ b o, s.heap.get? b = some o → h₁.get? b = some o := fun b o e => hsb.extBut b o (Nat.ne_of_lt (Heap.lt_size e)) (Heap.get?_push_of_some _ e)
    refine kla_codeExpr ?_
    refine Subscript_ (wpAny_Name (wpAny_loadName_free (v := .ref t) kind hx hcl ?cell (wpAny_Name (wpAny_loadName_local kind hy hns (v := .int i u) ?val ?fin) dy) dx2) dx)
    case cell =>
      obtain ⟨o, e, d⟩ := hcell
      exact ⟨o, kp _ _ e, d⟩
    case val => simp [List.lookup]
    case fin =>
      have ht1 : IsTup h₁ t items := ht.keeps kp
      refine subscriptTail_builtinR (x := .int k tk) (s := { s with heap := h₁, toks := s.toks + 1 }) ht1.typeIs slot_tuple_getitem.lookup
        (getItem_tuple (j := j) (Q := fun r s' => r = .int k tk ∧ KeyPure (.int k) s r s') ht1 h0 h1 hj hi ⟨rfl, h₁, s.toks + 1, rfl, kp, .int _ _⟩) rfl
  refine wpAny_call (codeAny_mono rc fun r s' hq => ?_)
  cases r with
  | error e => exact False.elim hq
  | ok fl =>
    cases fl with
    | ret u => exact hq
    | next => exact False.elim hq
    | brk => exact False.elim hq
    | cont => exact False.elim hq
end
section
variable {X : Cx} {pins : List (Addr × Obj)} {σ : L2.St} {H : Hp} {s : Shared}
/-- a lambda is made; all that was known stays known -/
theorem lam_make3 {T : List (Addr × Str)} {c P : Addr} {params : Arguments} {body : Expr} {scope : Scope} {pos : Pos} {E : Value → Shared → Prop} {Q : Value → Shared → Prop} (I : Inv X pins σ H s) (TB : TabB X.base X.mg c P) (hcode : X.env.code = .ref c)
    (hm : (P, X.env.qual ++ "<lambda>") ∈ T) (hu : ∀ p ∈ T, p.1 = P → p.2 = X.env.qual ++ "<lambda>") (hT : Tabs T H) (hdef : defaultsOf params X.env = ([], [])) (hfree : ∀ y ∈ scope.names, y.2 = .free → ∃ c, X.env.cells.lookup y.1 = some c)
    (h : ∀ (f c' : Addr) (pm ctv : Value) (H1 : Hp) (s' : Shared), Inv X pins σ H1 s' → ExtN H H1 → (∀ a o, H a = some o → ∃ o', H1 a = some o') → Tabs T H1 →
      s'.heap.get? f = some (PySem.W.kla_obj "<lambda>" (X.env.qual ++ "<lambda>") params body scope (cloFrom X.env.cells scope.names []) pm c' ctv) → H1 c' = some (CodeO c' (X.env.qual ++ "<lambda>")) → Q (.ref f) s') :
    wpAny (model X.prog X.w) X.A (eval (.Lambda params body scope pos) X.env) Q E s := by
  obtain ⟨ps, hP, ht, ha⟩ := hT _ hm
  refine PySem.W.kla_eval hdef ?_
  have bP : s.heap.BuiltinsAt X.mg P := TB.bm.keeps I.bk
  have hP' : s.heap.get? P = some { cls := .none, data := .fields ps } := I.hok P _ hP
  cases hc : codeAmong pos ps.toList with
  | none =>
    refine PySem.W.kla_makeFunction (mg := X.mg) (c := c) (P := P) (ps := ps) (closure_ok hfree) I.ok.glob (I.mod.glob.keeps I.bk) hcode (TB.code.keeps I.bk) hP' ht hc TB.gP bP fun c' ctv h' tk hx hge hlt hrec htb => ?_
    obtain ⟨c2, oc, vs, t, e2, hoc, hd, hv⟩ := hrec
    cases e2
    have nC : H c' = none := I.hok.fresh hge
    have I1 := inv_table (t' := tk) (more := #[rawInt pos.line, rawInt pos.col, .ref c']) (h' := h'.push (PySem.W.kla_obj "<lambda>" (X.env.qual ++ "<lambda>") params body scope (cloFrom X.env.cells scope.names []) ((X.mg "__name__").getD .none) c' ctv)) I hP
      (fun b o hb e => Heap.get?_push_of_some _ (hx b o hb e)) (Heap.get?_push_of_some _ htb) hge ⟨oc, vs, t, Heap.get?_push_of_some _ hoc, hd, hv⟩
    have hE : ExtN H (upd (upd H P (.tbl (ps ++ #[rawInt pos.line, rawInt pos.col, .ref c']))) c' (CodeO c' (X.env.qual ++ "<lambda>"))) := fun b o e n => by
      rw [upd_ne (ne_of_none e nC), upd_ne (fun z => n ps (Option.some.inj (e.symm.trans (by rw [z]; exact hP))))]
      exact e
    have eL : (ps ++ #[rawInt pos.line, rawInt pos.col, .ref c']).toList = ps.toList ++ [rawInt pos.line, rawInt pos.col, .ref c'] := by simp
    refine h h'.objs.size c' ((X.mg "__name__").getD .none) ctv _ _ I1 hE (fun b o e => ?_) (fun p hp => ?_) (Heap.get?_push_size _ rfl) upd_same
    · rw [upd_ne (ne_of_none e nC)]
      by_cases hb : b = P
      · exact ⟨_, by rw [hb, upd_same]⟩
      · exact ⟨o, by rw [upd_ne hb]; exact e⟩
    · by_cases hb : p.1 = P
      · rw [hu p hp hb, hb]
        refine ⟨_, by rw [upd_ne (ne_of_none hP nC), upd_same], by rw [eL]; exact PySem.TriplesOk_snoc _ _ _ _ ht, fun p' cv hcv => ?_⟩
        rw [eL] at hcv
        rcases among_app _ ht hcv with z | z
        · obtain ⟨c0, e1, e2⟩ := ha p' cv z
          exact ⟨c0, e1, hE _ _ e2 codeO_ne⟩
        · exact ⟨c', z, upd_same⟩
      · obtain ⟨ps', a1, a2, a3⟩ := hT p hp
        refine ⟨ps', by rw [upd_ne (ne_of_none a1 nC), upd_ne hb]; exact a1, a2, fun p' cv hcv => ?_⟩
        obtain ⟨c0, e1, e2⟩ := a3 p' cv hcv
        exact ⟨c0, e1, hE _ _ e2 codeO_ne⟩
  | some cv =>
    obtain ⟨c', e, hco⟩ := ha pos cv hc
    subst e
    refine PySem.W.kla_makeFunctionHit (mg := X.mg) (c := c) (P := P) (ps := ps) (closure_ok hfree) I.ok.glob (I.mod.glob.keeps I.bk) hcode (TB.code.keeps I.bk) hP' ht hc bP fun ctv h' tk hx hsz => ?_
    have I1 : Inv X pins σ H { s with heap := h'.push (PySem.W.kla_obj "<lambda>" (X.env.qual ++ "<lambda>") params body scope (cloFrom X.env.cells scope.names []) ((X.mg "__name__").getD .none) c' ctv), toks := tk } := I.kept fun b o e => Heap.get?_push_of_some _ (hx b o e)
    exact h h'.objs.size c' ((X.mg "__name__").getD .none) ctv H _ I1 (ExtN.refl H) (fun b o e => ⟨o, e⟩) hT (Heap.get?_push_size _ rfl) hco
/-- sorted(e, key=lambda y: x[y]): e a list of places, x the captured tuple of ints in slot i -/
def skAt (K : PySem.W.Frag) (T : List (Addr × Str)) (i : Nat) (σ : L2.St) (Q : VK) (v : V) (H1 : Hp) : Prop := ∃ (a t : Addr) (ns : List Nat) (ks : List Int), v = .ref a ∧ σ[i]? = some (some (.ref t)) ∧
  (∀ H2, ExtN H1 H2 → SqT K H2 t (ks.map V.int) ∧ SqL K H2 a (ns.map fun n => V.int (n : Nat))) ∧ (∀ n ∈ ns, n < ks.length) ∧ Tabs T H1 ∧
  ∀ H2, ExtN H1 H2 → (∀ a o, H1 a = some o → ∃ o', H2 a = some o') → Tabs T H2 → ∀ p, H2 p = none → Q (.ref p) (upd H2 p (.lst ((ns.mergeSort fun a b => decide (ks.getD a 0 ≤ ks.getD b 0)).map fun n => V.int (n : Nat))))
def tSortKey (K : PySem.W.Frag) (T : List (Addr × Str)) (i : Nat) (te : TE) : TE := fun σ H Q => te σ H fun v H1 => skAt K T i σ Q v H1
def skArgs (K : PySem.W.Frag) (T : List (Addr × Str)) (i : Nat) (σ : L2.St) (Q : VK) (vs : List V) (H1 : Hp) : Prop := match vs with
  | [v] => skAt K T i σ Q v H1
  | _ => False
theorem each_ints {s : Shared} : ∀ {ns : List Nat} {us : List Value}, Vals (ns.map fun n => V.int (n : Nat)) us → EachIs (fun v n => ∃ t, v = Value.int (n : Nat) t) us ns
  | [], us, r => by cases r; exact .nil
  | n :: ns, us, r => by
    cases r with
    | cons r t => exact .cons r (each_ints (s := s) t)
theorem vals_each : ∀ {ns : List Nat} {us : List Value}, EachIs (fun v n => ∃ t, v = Value.int (n : Nat) t) us ns → Vals (ns.map fun n => V.int (n : Nat)) us
  | _, _, .nil => .nil
  | _, _, .cons r t => .cons r (vals_each t)
theorem pe_sortKey {T : List (Addr × Str)} {c P : Addr} {e : Expr} {te : TE} {i : Nat} {x y : Str} {params : Arguments} {p0 p1 p2 p3 lpos kpos pos : Pos} {scope : Scope} (hg : Gl X "sorted") (hm0 : X.mg "sorted" = none) (he : PE X e te) (hs : starEach [e] X.env = (false, eval e X.env) :: starEach [] X.env)
    (TB : TabB X.base X.mg c P) (hcode : X.env.code = .ref c) (hm : (P, X.env.qual ++ "<lambda>") ∈ T) (hu : ∀ p ∈ T, p.1 = P → p.2 = X.env.qual ++ "<lambda>") (hdef : defaultsOf params X.env = ([], [])) (hr : Room 0 X.A)
    (kind : scope.kind = .function) (hco : scope.isCoroutine = false) (hgen : scope.isGenerator = false) (ncell : ∀ z ∈ scope.names, z.2 ≠ .cell) (hfree : ∀ z ∈ scope.names, z.2 = .free → X.env.scope.names.lookup z.1 = some .cell ∨ X.env.scope.names.lookup z.1 = some .free)
    (hx : scope.names.lookup x = some .free) (hy : scope.names.lookup y = some .local) (hbind : ∀ (q : Str) (cl : List (Str × Addr)) (pm cv ctv u : Value), bindArgs (PySem.W.kla_fn "<lambda>" q params (.Subscript (.Name x p1) (.Name y p2) p3) scope cl pm cv ctv) ⟨[u], []⟩ = pure [(y, u)])
    (hN : X.N[i]? = some x) (dx : (x == ("__debug__" : Str)) = false) (dx2 : (x == ("__classdict__" : Str)) = false) (dy : (y == ("__debug__" : Str)) = false) :
    PE X (.Call (.Name "sorted" p0) [e] [⟨some "key", .Lambda params (.Subscript (.Name x p1) (.Name y p2) p3) scope lpos, kpos⟩] pos) (tSortKey X.K T i te) := by
  refine ⟨fun pins s σ H Q I h => ?_⟩
  refine wpAny_Call_Name_kw (ld_blt I hg hm0 PyProof.Rows.boot_sorted ?_)
  have hpl : (backTo pos (starEach [e] X.env)).any (·.1) = false := by rw [hs]; rfl
  have hst : backTo pos (starEach [e] X.env) = (false, eval e X.env) :: backTo pos (starEach [] X.env) := by rw [hs]; rfl
  refine PyProof.Rows.callWith_kw (thn ((pa_cons he pa_nil hs).run pos pins s σ H (skArgs X.K T i σ Q) I h) fun us s1 ⟨vs, H1, I1, r1, q1⟩ => ?_) hst hpl (by rfl) (by rfl)
  unfold skArgs at q1
  split at q1
  · rename_i v
    obtain ⟨u0, rfl, ru⟩ := vals1 r1
    obtain ⟨a, t, ns, ks, rfl, ht, hsq, hlt, hT, q⟩ := q1
    obtain rfl : u0 = Value.ref a := ru
    show wpAny _ _ (evalAll ((do let v ← eval (.Lambda params (.Subscript (.Name x p1) (.Name y p2) p3) scope lpos) X.env; standAt pos; pure v) :: (backToKw pos (keywordEach [] X.env)).map (·.2))) _ _ s1
    have hfree' : ∀ z ∈ scope.names, z.2 = .free → ∃ c, X.env.cells.lookup z.1 = some c := fun z hz e => I1.ok.has _ (hfree z hz e)
    refine wpAny_evalAll_cons (wpAny_bind (lam_make3 I1 TB hcode hm hu hT hdef hfree' fun f c' pm ctv H2 s2 I2 eN al T2 of hc' => wpAny_bind (wpAny_standAt (wpAny_pure ?_))))
    show wpAny _ _ (evalAll []) _ _ s2
    refine wpAny_evalAll_nil ?_
    show wpAny _ _ (call (.builtin "sorted") [.ref a] [(Str.ofString "key", .ref f)]) _ _ s2
    obtain ⟨s1t, s1l⟩ := hsq H2 eN
    obtain ⟨its, rv, pl, hz⟩ := I2.list s1l
    obtain ⟨itt, rt, pt, hzt⟩ := I2.tuple s1t
    -- the cell of x
    obtain ⟨m, hn, hl⟩ := I2.loc
    have hxf := hfree _ (PySem.mem_of_lookup hx) rfl
    have hvis : Vis X.env.scope x := hxf.elim (fun k => .inr (.inl k)) (fun k => .inr (.inr k))
    obtain ⟨w', r', lk⟩ := hl i x _ hN ht hvis
    obtain rfl : w' = Value.ref t := r'
    obtain ⟨cc, hcl0, hcell⟩ : ∃ cc, X.env.cells.lookup x = some cc ∧ s2.heap.IsCell cc (some (.ref t)) := by
      rcases lk with ⟨k', _⟩ | ⟨_, c3, e', z⟩
      · have k' : X.env.scope.names.lookup x = some .local := k'
        rcases hxf with k2 | k2 <;> rw [show X.env.scope.names.lookup x = _ from k2] at k' <;> cases k'
      · exact ⟨c3, e', z⟩
    have hcl : (cloFrom X.env.cells scope.names []).lookup x = some cc := by
      obtain ⟨c2, h2⟩ := mem_lookup (cloFrom_has (cells := X.env.cells) (acc := []) (PySem.mem_of_lookup hx))
      rcases cloFrom_mem (PySem.mem_of_lookup h2) with hm2 | ⟨h3, h4⟩
      · cases hm2
      · rw [h2, h4, hcl0]
        rfl
    obtain ⟨⟨oc, vs', tt, e1, e2, e3⟩, _, _⟩ := I2.hok c' _ hc'
    refine sorted_key_data (R := fun v n => ∃ t, v = Value.int (n : Nat) t) (bs := ns) (vs := its) (b := false) (f := .ref f) (fun n => PyData.int (ks.getD n 0)) pl.isList (each_ints (s := s2) rv) (fun d hd d' hd' => ?_) (.inr fun d hd => ?_) ?_ (fun n hn => ?_) (PyProof.Rows.ksk_s1 _ _) (fun _ => PyProof.Rows.ksk_l1 _ _) (fun z => PyProof.Rows.ksk_t1 f z) (fun v n hv hn h tk kp => ?_) fun out cc2 h' tk kp hfr hD hlen ho => ?_
    · obtain ⟨_, _, rfl⟩ := List.mem_map.mp hd
      obtain ⟨_, _, rfl⟩ := List.mem_map.mp hd'
      rfl
    · obtain ⟨_, _, rfl⟩ := List.mem_map.mp hd
      exact ⟨(fun z => nomatch z), fun _ z => nomatch z⟩
    · have := hz
      rw [List.length_map] at this
      exact this
    · have := hr.units
      have e1 : (PyData.int (ks.getD n 0)).depth ≤ 1 := by unfold PyData.depth; omega
      omega
    · obtain ⟨u, rfl⟩ := hv
      have hnk := hlt n hn
      have hlen := rt.length
      rw [List.length_map] at hlen
      obtain ⟨w2, ew, rw2⟩ := rt.get (i := n) (x := V.int (ks.getD n 0)) (by simp [hnk])
      obtain ⟨tw, rfl⟩ := rw2
      have hzz := sizeLine_eq
      have hn2 : n < itt.toArray.size := by rw [List.size_toArray]; omega
      have hzt' : ks.length ≤ sizeLine := by rw [List.length_map] at hzt; exact hzt
      refine lamKey_call (s := { s2 with heap := h, toks := tk }) (items := itt.toArray) (j := n) (tk := tw) (t := t) (c := cc) (c' := c') (A := X.A.in1.in1) (show X.A.depth < recursionLimit from hr.depth) (kp _ _ of) ⟨oc, vs', tt, kp _ _ e1, e2, e3⟩ kind hco hgen ncell hx hy (I2.nolimit.keeps kp) (hbind _ _ _ _ _ _) hcl ?_ (pt.keeps kp) (by omega) (by omega) ?_ (by simpa using ew) dx dx2 dy
      · obtain ⟨o, e, d⟩ := hcell
        exact ⟨o, kp _ _ e, d⟩
      · have := PySem.seqIndex_of (k := (n : Int)) (n := itt.toArray.size) (by omega) (by omega)
        simpa using this
    · rw [dataLe_int] at ho
      have hv := vals_each ho
      have I3 := I2.laid (t' := tk) (a := s2.heap.objs.size + 1) (h' := h') (o := .lst ((ns.mergeSort fun a b => decide (ks.getD a 0 ≤ ks.getD b 0)).map fun n => V.int (n : Nat))) kp (Nat.le_succ _) ⟨?_, out, cc2, hv, hD⟩
      · exact ⟨.ref _, _, I3, rfl, q H2 eN al T2 _ (I2.hok.fresh (Nat.le_succ _))⟩
      · rw [List.length_map, List.length_mergeSort]
        rw [List.length_map] at hz
        exact hz
  · exact q1.elim
end
end LamX
set_option Elab.async false
set_option linter.all false
set_option maxRecDepth 100000
set_option maxHeartbeats 4000000
/-! EvY: sorted(xs, key=lambda y: x[y]) as a combinator -/
namespace Ev
open PySem L2
variable [Tbs]
def natsD : List D → Option (List Nat)
  | [] => some []
  | .int i :: r => match decide (0 ≤ i) with
    | true => (natsD r).map (i.toNat :: ·)
    | false => none
  | _ => none
theorem natsD_eq : ∀ {ds : List D} {ns : List Nat}, natsD ds = some ns → ds = ns.map fun n => PyData.int (n : Nat)
  | [], _, h => by cases h; rfl
  | .int i :: r, ns, h => by
    unfold natsD at h
    split at h
    · rename_i hi
      have hi := of_decide_eq_true hi
      obtain ⟨ms, h1, h2⟩ := Option.map_eq_some_iff.mp h
      rw [← h2, natsD_eq h1, List.map_cons]
      congr 2
      omega
    · cases h
theorem natsD_map : ∀ ns : List Nat, natsD (ns.map fun n => PyData.int (n : Nat)) = some ns
  | [] => rfl
  | n :: ns => by
    rw [List.map_cons]
    unfold natsD
    rw [show decide ((0 : Int) ≤ (n : Nat)) = true from decide_eq_true (by omega)]
    dsimp only
    rw [natsD_map ns]
    simp
theorem RpL.of_nats {H : Hp} {A : Addr → Prop} {vs : List V} {ns : List Nat} (h : RpL H A vs (ns.map fun n => PyData.int (n : Nat))) : vs = ns.map fun n => V.int (n : Nat) := by
  have e : (ns.map fun n => PyData.int (n : Nat)) = (ns.map fun n => ((n : Nat) : Int)).map PyData.int := by rw [List.map_map]; rfl
  rw [e] at h
  rw [h.of_ints, List.map_map]
  rfl
theorem RpL.nats {H : Hp} {A : Addr → Prop} (ns : List Nat) : RpL H A (ns.map fun n => V.int (n : Nat)) (ns.map fun n => PyData.int (n : Nat)) := by
  have := RpL.ints (H := H) (A := A) (ns.map fun n => ((n : Nat) : Int))
  rw [List.map_map, List.map_map] at this
  exact this
/-- the one parameter y -/
def oneArgB (p : Arguments) (y : Str) : Bool := match p with
  | ⟨[], [a], none, [], [], none, []⟩ => decide (a.arg = y)
  | _ => false
theorem oneArg_bind {p : Arguments} {y : Str} (h : oneArgB p y = true) {q : Str} {body : Expr} {scope : Scope} {cl : List (Str × Addr)} {pm cv ctv u : Value} : bindArgs (PySem.W.kla_fn "<lambda>" q p body scope cl pm cv ctv) ⟨[u], []⟩ = pure [(y, u)] := by
  unfold oneArgB at h
  split at h
  · have e := of_decide_eq_true h
    subst e
    have e0 : seqItems? Value.none = pure none := rfl
    simp [bindArgs, e0]
  · cases h
theorem oneArg_def {p : Arguments} {y : Str} {env : Env} (h : oneArgB p y = true) : defaultsOf p env = ([], []) := by
  unfold oneArgB at h
  split at h
  · rfl
  · cases h
section
variable {G : Gx} {N : List Str}
def lamScB (sc scope : Scope) (x y : Str) : Bool := (decide (scope.kind = .function) && (!scope.isCoroutine && !scope.isGenerator)) && ((decide (scope.names.lookup x = some .free) && decide (scope.names.lookup y = some .local)) &&
  scope.names.all fun z => !decide (z.2 = .cell) && (!decide (z.2 = .free) || (decide (sc.names.lookup z.1 = some .cell) || decide (sc.names.lookup z.1 = some .free))))
theorem lamScB_ok {sc scope : Scope} {x y : Str} (h : lamScB sc scope x y = true) : scope.kind = .function ∧ scope.isCoroutine = false ∧ scope.isGenerator = false ∧ scope.names.lookup x = some .free ∧ scope.names.lookup y = some .local ∧ (∀ z ∈ scope.names, z.2 ≠ .cell) ∧
    ∀ z ∈ scope.names, z.2 = .free → sc.names.lookup z.1 = some .cell ∨ sc.names.lookup z.1 = some .free := by
  unfold lamScB at h
  simp only [Bool.and_eq_true, Bool.or_eq_true, Bool.not_eq_true', decide_eq_true_eq, decide_eq_false_iff_not, List.all_eq_true] at h
  obtain ⟨⟨h1, h2, h3⟩, ⟨h4, h5⟩, h6⟩ := h
  refine ⟨h1, h2, h3, h4, h5, fun z hz => (h6 z hz).1, fun z hz e => ?_⟩
  rcases (h6 z hz).2 with k | k
  · exact absurd e k
  · exact k
def skM (q : Str) (x : SX G N) (i : Nat) (sc : Scope) (cl : Str → Bool) (e : Expr) : Bool := match e with
  | .Call (.Name f _) [a] [⟨some k, .Lambda params (.Subscript (.Name v _) (.Name y _) _) scope _, _⟩] _ =>
    ((decide (f = "sorted") && (decide (f ∈ G.bl) && globB sc f)) && (decide (k = "key") && (notStar a && x.mt sc cl a))) &&
    ((oneArgB params y && lamScB sc scope v y) && ((decide (N[i]? = some v) && (okN v && okN y)) && decide (G.lam = some q)))
  | _ => false
/-- places by what stands there -/
def byKey (ks : List Int) (ns : List Nat) : List Nat := ns.mergeSort fun a b => decide (ks.getD a 0 ≤ ks.getD b 0)
def sSortKey (q : Str) (x : SX G N) (i : Nat) : SX G N where
  mt sc cl e := skM q x i sc cl e
  ev ρ := (x.evD ρ).bind fun p => match p.1, p.2[i]? with
    | .list ds, some (.va (.tuple es)) => (natsD ds).bind fun ns => (intsD es).bind fun ks => match ns.all fun n => decide (n < ks.length) with
      | true => some (.fr (.list ((byKey ks ns).map fun n => .int (n : Nat))), p.2)
      | false => none
    | _, _ => none
  ok k sc cl C hC e m σ H F ρ S r ρ' ev Q qq := by
    try dsimp only at ev
    unfold skM at m
    split at m
    · rename_i f pf a kk params v pv y py psub scope lpos kpos pos
      simp only [Bool.and_eq_true, decide_eq_true_eq, globB] at m
      obtain ⟨⟨⟨rfl, m1, m2, m3⟩, rfl, m4, m5⟩, ⟨m6, m7⟩, ⟨m8, m9, m10⟩, m11⟩ := m
      obtain ⟨l1, l2, l3, l4, l5, l6, l7⟩ := lamScB_ok m7
      obtain ⟨⟨d, ρ1⟩, e1, ev⟩ := Option.bind_eq_some_iff.mp ev
      dsimp only at ev
      split at ev
      · rename_i ds es hi
        obtain ⟨ns, e2, ev⟩ := Option.bind_eq_some_iff.mp ev
        obtain ⟨ks, e3, ev⟩ := Option.bind_eq_some_iff.mp ev
        split at ev
        · rename_i hall
          cases ev
          intro X hX
          refine SE.of (C := fun Y => Y = X) (t := LamX.tSortKey X.K Tbs.T i (SE C a)) ?_ (fun Y hY => ?_) X rfl
          · refine x.dat hC m5 S e1 fun u H1 s1 S1 ru => ?_
            rw [natsD_eq e2] at ru
            obtain ⟨al, xs, rfl, a1, a2, a3⟩ := ru.list_of
            rw [a3.of_nats] at a1
            obtain ⟨v2, b1, b2⟩ := S1.va i _ hi
            rw [intsD_eq e3] at b2
            obtain ⟨tt, ys, rfl, c1, c2, c3⟩ := b2.tup_of
            rw [c3.of_ints] at c1
            refine ⟨al, tt, ns, ks, rfl, b1, fun H2 eN => ⟨.inl (.inl (eN _ _ c1 fun _ z => nomatch z)), .inl (.inl (eN _ _ a1 fun _ z => nomatch z))⟩, fun n hn => of_decide_eq_true (List.all_eq_true.mp hall n hn), S1.tb, fun H2 eN hal T2 p hp => ?_⟩
            have hp1 : H1 p = none := by
              cases z : H1 p with
              | none => rfl
              | some o => obtain ⟨o', z2⟩ := hal p o z; rw [hp] at z2; cases z2
            have x2 : Ext H1 H2 := ⟨fun a o e n => eN a o e n, hal, fun _ => T2⟩
            have xt : Ext H1 (upd H2 p (.lst ((byKey ks ns).map fun n => V.int (n : Nat)))) := ⟨fun a o e n => (Ext.new hp).k a o (x2.k a o e n) n, fun a o e => (x2.al a o e).elim fun o1 z1 => (Ext.new hp).al a o1 z1, fun t => (Ext.new hp).tb (x2.tb t)⟩
            have rv : RV H1 (upd H2 p (.lst ((byKey ks ns).map fun n => V.int (n : Nat)))) (Av F σ ρ') (.ref p) (.fr (.list ((byKey ks ns).map fun n => .int (n : Nat)))) := ⟨p, _, rfl, hp1, upd_same, trivial, .lst (RpL.nats _)⟩
            exact qq _ _ (s1.trans (Stp.ext xt)) (S1.ext xt) (RV.rr (r := .fr _) S1 xt rv) (Frs.back S1 s1 (RV.frs (r := .fr _) rv))
          · subst hY
            obtain ⟨g1, c, P, g2, g3, g4, g5⟩ := (hC Y hX).lm q m11
            subst g1
            have hsc := (hC Y hX).sc
            refine LamX.pe_sortKey (c := c) (P := P) (y := y) (by show Y.env.scope.names.lookup _ = _; rw [hsc]; exact m2) ((hC Y hX).bl _ m1) (pe_SE hX) (starEach_of m4) g3 g2 g4 g5 (oneArg_def m6) (hC Y hX).room0 l1 l2 l3 l6 (by rw [hsc]; exact l7) l4 l5 (fun _ _ _ _ _ _ => oneArg_bind m6) (by rw [(hC Y hX).nm]; exact m8) (okN_1 m9) (okN_2 m9) (okN_1 m10)
        · cases ev
      · cases ev
    · cases m
end
end Ev
set_option Elab.async false
set_option linter.all false
set_option maxRecDepth 100000
set_option maxHeartbeats 4000000
/-! EvZ: displays of dicts; a call whose first argument is a new list that the def changes -/
namespace Ev
open PySem L2
variable [Tbs]
section
variable {σ : Sg} {H H' : Hp} {ρ ρ' : Rho} {F : Addr → Prop}
/-- a list that nobody else holds is changed and let go -/
theorem RS.drop {p : Addr} (S : RS σ H (orA F p) ρ) (k : ExtP p H H') : RS σ H' F ρ := by
  have kk : Kp (Av (orA F p) σ ρ) H H' := fun a o e n y => k.k a o e (fun z => n (.inl (.inr z))) y
  have im : ∀ a (o : HO), H a = some o → Av F σ ρ a → Av (orA F p) σ ρ a := fun a _ _ z => z.imp .inl id
  refine ⟨S.len, fun i d e => ?_, fun i c e => ?_, S.dj, fun a z => ?_, k.tb S.tb⟩
  · obtain ⟨v, h1, h2⟩ := S.va i d e
    exact ⟨v, h1, h2.mono kk im⟩
  · obtain ⟨q, o, h1, h2, h3, h4, h5⟩ := S.ow i c e
    exact ⟨q, o, h1, k.k q o h2 (fun z => h5 (.inr z)) (mutO.nt h3), h3, h4.mono kk im, fun z => h5 (.inl z)⟩
  · obtain ⟨o, e⟩ := S.fd a (.inl z)
    exact k.al a o e
end
section
variable {G : Gx} {N : List Str}
/-- {} -/
def sDic0 : SX G N where
  mt sc _ e := match e with
    | .Dict [] [] _ => true
    | _ => false
  ev ρ := some (.fr (.dict []), ρ)
  ok k sc cl C hC e m σ H F ρ S r ρ' ev Q q := by
    try dsimp only at ev
    split at m
    · cases ev
      refine SE.of (t := tDNewK) (fun p hp => ?_) fun X hX => pe_dnewK
      have xt : Ext H (upd H p (.dK [])) := Ext.new hp
      have rv : RV H (upd H p (.dK [])) (Av F σ ρ) (.ref p) (.fr (.dict [])) := ⟨p, _, rfl, hp, upd_same, trivial, .dK .nil⟩
      exact q _ _ (Stp.ext xt) (S.ext xt) (RV.rr (r := .fr _) S xt rv) (RV.frs (r := .fr _) rv)
    · cases m
/-- {k: v} -/
def sDic1 (a b : SX G N) : SX G N where
  mt sc cl e := match e with
    | .Dict [some x] [y] _ => a.mt sc cl x && b.mt sc cl y
    | _ => false
  ev ρ := (a.evD ρ).bind fun p => (b.evD p.2).bind fun s => (keyOf p.1).map fun k => (.fr (.dict [(keyD k, s.1)]), s.2)
  ok k sc cl C hC e m σ H F ρ S r ρ' ev Q q := by
    try dsimp only at ev
    split at m
    · rename_i x y pos
      obtain ⟨m1, m2⟩ := Bool.and_eq_true_iff.mp m
      obtain ⟨⟨d1, ρ1⟩, e1, ev⟩ := Option.bind_eq_some_iff.mp ev
      obtain ⟨⟨d2, ρ2⟩, e2, ev⟩ := Option.bind_eq_some_iff.mp ev
      obtain ⟨kk, e3, ev⟩ := Option.map_eq_some_iff.mp ev
      cases ev
      dsimp only at e2 e3 q
      refine SE.of (t := tDisp [(SE C x, SE C y)]) (fun p hp => ?_) fun X hX => pe_disp (pps_cons (pe_SE hX) (pe_SE hX) pps_nil) rfl rfl (fun z => nomatch z) (by simp)
      have xt : Ext H (upd H p (.dK [])) := Ext.new hp
      have S0 : RS σ (upd H p (.dK [])) (orA F p) ρ := S.extN xt hp upd_same
      refine a.dat hC m1 S0 e1 fun v H1 s1 S1 r1 => ?_
      refine b.dat hC m2 S1 e2 fun w H2 s2 S2 r2 => ?_
      have nown : ¬ ownA σ ρ p := fun ⟨i, c, z1, z2⟩ => by
        obtain ⟨q', o, z3, _, _, _, z7⟩ := S0.ow i c z1
        rw [z2] at z3
        cases z3
        exact z7 (.inr rfl)
      have s12 := s1.trans s2
      have hp2 : H2 p = some (.dK []) := s12.keep p _ upd_same nown fun _ z => nomatch z
      refine ⟨hp2, [(kk, w)], ?_, by simp, ?_⟩
      · rw [keyOf_v e3 (.of r1)]
        rfl
      · have kp : ExtP p H2 (upd H2 p (.dK [(kk, w)])) := upd_extP hp2 trivial
        have st : Stp σ H ρ (upd H2 p (.dK [(kk, w)])) ρ2 := by
          have s0 := (Stp.ext (σ := σ) (ρ := ρ) xt).trans s12
          refine ⟨fun a o e n y => kp.k a o (s0.keep a o e n y) (fun z => by subst z; rw [hp] at e; cases e) y, fun a o e => (s0.al a o e).elim fun o1 z1 => kp.al a o1 z1, s0.sl⟩
        have S3 : RS σ (upd H2 p (.dK [(kk, w)])) (orA F p) ρ2 := S2.updF (.inr rfl) hp2 trivial _
        refine q (.ref p) _ st (S2.drop kp) ⟨p, _, rfl, upd_same, trivial, .dK (.cons (r2.mono (fun a o e n y => kp.k a o e (fun z => n (.inl (.inr z))) y) fun a o _ z => z) .nil), S3, fun z => ?_⟩ ⟨p, rfl, hp⟩
        obtain ⟨o, z2⟩ := S.fd p z
        rw [hp] at z2
        cases z2
    · cases m
/-- f(e, a, ..), f may change its first argument, a new list that is let go -/
def sCallF (j : Nat) (x0 : SX G N) (xs : List (SX G N)) : SX G N where
  mt sc cl e := callM j (x0 :: xs) sc cl e
  ev ρ := (G.fns[j]?).bind fun p => match p.2.nio with
    | false => none
    | true => (x0.ev ρ).bind fun q0 => match q0.1 with
      | .fr c => (evDs xs q0.2).bind fun q => (p.2.run (c :: q.1)).bind fun r => match r.1 with
        | .v d => some (.v d, q.2)
        | _ => none
      | _ => none
  ok k sc cl C hC e m σ H F ρ S r ρ' ev Q q := by
    dsimp only at ev
    obtain ⟨⟨x, f⟩, e1, ev⟩ := Option.bind_eq_some_iff.mp ev
    unfold callM at m
    rw [e1] at m
    split at m
    · rename_i x' px a as pos p' hp
      cases hp
      simp only [Bool.and_eq_true, decide_eq_true_eq, globB] at m
      obtain ⟨rfl, ⟨m2, m3⟩, m4⟩ := m
      dsimp only at ev m2 m3
      cases hn : f.nio with
      | false => rw [hn] at ev; cases ev
      | true =>
        rw [hn] at ev
        dsimp only at ev
        obtain ⟨⟨r0, ρ1⟩, e0, ev⟩ := Option.bind_eq_some_iff.mp ev
        dsimp only at ev
        split at ev
        · rename_i c
          obtain ⟨⟨ds, ρ2⟩, e2, ev⟩ := Option.bind_eq_some_iff.mp ev
          obtain ⟨⟨rv, c'⟩, e3, ev⟩ := Option.bind_eq_some_iff.mp ev
          dsimp only at ev e3
          split at ev
          · rename_i d
            cases ev
            intro X hX
            obtain ⟨g, fd, ps, F1, F2, F3, F4⟩ := ((hC X hX).fns _ (List.mem_of_getElem? e1)).h
            have al := mtNs_all m4
            have al2 := al
            rw [List.all_cons, Bool.and_eq_true] at al2
            obtain ⟨n1, n2⟩ := Bool.and_eq_true_iff.mp m4
            obtain ⟨n0, n1⟩ := Bool.and_eq_true_iff.mp n1
            refine SE.of (C := fun Y => Y = X) (t := tCall (spOf f) [] E0 (tCons (SE C a) (SA C as))) ?_ (fun Y hY => ?_) X rfl
            · refine x0.ok k sc cl C hC a n1 σ H F ρ S _ ρ1 e0 _ fun v H1 s1 S1 rr fr => ?_
              obtain ⟨p, o, rfl, h1, h2, h3, h4, h5⟩ := rr
              obtain ⟨p', fr1, fr2⟩ := fr
              cases fr1
              refine ds_ok hC xs as n2 h4 e2 fun vs H2 s2 S2 r2 => ?_
              show spOf f (.ref p :: vs ++ []) H2 Q E0
              rw [List.append_nil]
              have nown : ¬ ownA σ ρ1 p := fun ⟨i, c2, z1, z2⟩ => by
                obtain ⟨q', o2, z3, _, _, _, z7⟩ := h4.ow i c2 z1
                rw [z2] at z3
                cases z3
                exact z7 (.inr rfl)
              have hp2 : H2 p = some o := s2.keep p o h1 nown (mutO.nt h2)
              refine ⟨Av (orA F p) σ ρ', c :: ds, .v d, c', av_alloc S2, S2.tb, e3, by rw [List.length_cons, List.length_cons, r2.length], .inr ⟨hn, p, o, c, vs, ds, rfl, rfl, hp2, h2, .inl (.inr rfl), ?_, r2, fun v H3 kp io hv => ?_⟩⟩
              · exact h3.mono (fun a o e n y => s2.keep a o e (fun z => n (.inr z)) y) fun a _ _ z => z.imp id (s2.own a)
              · have s12 := s1.trans s2
                have st : Stp σ H ρ H3 ρ' := ⟨fun a o e n y => kp.k a o (s12.keep a o e n y) (fun z => by subst z; rw [fr2] at e; cases e) y, fun a o e => (s12.al a o e).elim fun o1 z1 => kp.al a o1 z1, s12.sl⟩
                exact q v H3 st (S2.drop kp) (Rp.mono (fun _ _ e _ _ => e) (fun a _ _ z => z.imp .inl id) hv) trivial
            · subst hY
              exact pe_callGd F1 (hC Y hX).room (hC Y hX).gd (by show Y.env.scope.names.lookup _ = _; rw [(hC Y hX).sc]; exact m2) F2 F3 F4 .nil pass0 (pa_cons (pe_SE hX) (pa_SA hX) (starEach_of al2.1)) (okN_1 m3) (starEach_of al2.1) (noStars al2.2)
          · cases ev
        · cases ev
    · cases m
end
end Ev
set_option Elab.async false
set_option linter.all false
set_option maxRecDepth 100000
set_option maxHeartbeats 4000000
/-! EvAA: name += e -/
namespace Ev
open PySem L2
variable [Tbs]
@[simp] def augAddD : D → D → Option D
  | .int i, .int j => some (.int (i + j))
  | _, _ => none
theorem augAdd_ok : AugD .Add augAddD := by
  rintro X hc hr pins s σ H x y v u Q I rx ry ⟨A, a, b, d, ha, hb, e, q⟩
  unfold augAddD at e
  split at e
  · cases e
    cases ha.int_of
    cases hb.int_of
    exact ip_add pins s σ H _ _ v u Q I rx ry ⟨_, _, rfl, rfl, q _ H Ext.refl (.int _)⟩
  · cases e
end Ev
set_option Elab.async false
set_option linter.all false
set_option maxRecDepth 100000
set_option maxHeartbeats 4000000
/-! EvBB: the end of a law row for promises with no repr under way -/
namespace LamX
open PySem PySem.Spec PyProof.Rows L2
/-- a law's call where its promise stands with no repr under way (turned from the kit's law_callTs: FnG for FnOk) -/
theorem law_callG {P : Program} {w : World} {K : PySem.W.Frag} {mg mb : Str → Option Value} {CX : CXT} {k : Nat} {fa a : Addr} {cs : List (Addr × Addr)} {fd : FuncData} {x : Str} {sp : Sp} {s₁ : Shared} {vs : List Value} {ns : List Int}
    (KX : K.In s₁.heap) (hns : s₁.heap.Ns mainGlobals mg) (hb : s₁.heap.Ns builtinsNs mb) (hbb : ∀ x : Str, x ≠ "__name__" → mb x = bootBuiltins x) (hlim : s₁.heap.NoLimit) (hg : s₁.gens = #[])
    (hT : ∀ p ∈ cs, s₁.heap.get? p.2 = some { cls := .none, data := .fields #[] }) (nT : ∀ p ∈ cs, K.lookup p.2 = none) (C : ∀ p ∈ cs, PySem.W.CodeHd s₁.heap p.1 p.2)
    (hbm : ∃ (bm : Addr) (ob : Obj), mg "__builtins__" = some (.ref bm) ∧ bm ≠ builtinsNs ∧ s₁.heap.get? bm = some ob ∧ ob.cls = .type "module" ∧ ob.dict = some builtinsNs ∧ ob.data = .plain)
    (ha : s₁.heap.get? a = some { cls := .type "list", data := .seq vs.toArray }) (hi : IntsAre vs ns) (hl : ns.length ≤ sizeLine) (hr : Room k callerA)
    (F : ∀ base : Heap, K.In base → base.Ns mainGlobals mg → (∀ p ∈ cs, TabB base mg p.1 p.2) → Ev.FnG P w K mg base CX k fa fd [x] sp) (hbind : ∀ (s : Shared) (u : Value), BindsTo s fd ⟨[u], []⟩ [(x, u)])
    (hKa : ∀ o, K.lookup a = some o → o.cls ≠ .type "list") (hsp : ∀ H : Hp, (∀ p ∈ cs, H p.2 = some (.tbl #[])) → (∃ ob, H a = some (.frz ob (.lst (ns.map V.int)))) → sp [.ref a] H (fun v _ => v = .bl true) fun _ _ _ => False)
    (hCX : ∀ H e s', CX [] H s₁ (fun _ _ _ => False) e s' → False) :
    codeAny (model P w) callerA (.call (.ref fa) ⟨[.ref a], []⟩) (fun r s' => r = .ok (.ret (.bool true)) ∧ OldK s₁.heap s'.heap ∧ s'.os = s₁.os ∧ AllBare s'.gens) s₁ := by
  have rv := vals_ints hi
  have lenV := hi.length
  have isT : ∀ b : Addr, b ∈ cs.map (·.2) → s₁.heap.get? b = some { cls := .none, data := .fields #[] } := fun b hb => by
    obtain ⟨p, hp, e⟩ := List.mem_map.mp hb
    rw [← e]
    exact hT p hp
  have aT : a ∉ cs.map (·.2) := fun z => by
    have q := isT a z
    rw [ha] at q
    have z' : Data.seq vs.toArray _ = Data.fields #[] := congrArg Obj.data (Option.some.inj q)
    cases z'
  have memT : ∀ p ∈ cs, p.2 ∈ cs.map (·.2) := fun p hp => List.mem_map.mpr ⟨p, hp, rfl⟩
  -- from an abstract heap in which nothing but the script and the tables may be tracked
  have core : ∀ H : Hp, (∀ p ∈ cs, H p.2 = some (.tbl #[])) → (∀ b, H b = none ∨ b ∈ cs.map (·.2) ∨ ∃ o xs, H b = some (.frz o (.lst xs))) → (∃ ob, H a = some (.frz ob (.lst (ns.map V.int)))) → HOk P w H s₁.heap → (∀ b, H b ≠ none → b = a ∨ b ∈ cs.map (·.2)) → (H a ≠ none → K.lookup a = none) →
      codeAny (model P w) callerA (.call (.ref fa) ⟨[.ref a], []⟩) (fun r s' => r = .ok (.ret (.bool true)) ∧ OldK s₁.heap s'.heap ∧ s'.os = s₁.os ∧ AllBare s'.gens) s₁ := by
    intro H hH hO hS hok hA hK
    have base_of : ∀ {b : Addr} {o : Obj}, s₁.heap.get? b = some o → H b = none → (hidT s₁.heap H).get? b = some o := fun e n => hidT_get e n
    have noD : ∀ {b : Addr} {o : Obj}, s₁.heap.get? b = some o → (∀ vs n, o.data ≠ .seq vs n) → o.data ≠ .fields #[] → H b = none := fun {b o} e h1 h2 => by
      cases q : H b with
      | none => rfl
      | some u =>
        rcases hA b (by rw [q]; simp) with e' | e'
        · rw [e', ha] at e
          cases e
          exact (h1 _ _ rfl).elim
        · rw [isT b e'] at e
          cases e
          exact (h2 rfl).elim
    have noA : ∀ {b : Addr} {o : Obj} {es : Array DictEntry} {ep : Nat}, s₁.heap.get? b = some o → o.data = .dict es ep → H b = none := fun {b o es ep} e d => by
      refine noD e (fun vs n z => ?_) fun z => ?_
      · rw [d] at z
        cases z
      · rw [d] at z
        cases z
    have nsK : ∀ {b : Addr} {m : Str → Option Value}, s₁.heap.Ns b m → (hidT s₁.heap H).Ns b m := fun {b m} ⟨o, es, ep, e, d, r⟩ => ⟨o, es, ep, base_of e (noA e d), d, r⟩
    have hKb : K.In (hidT s₁.heap H) := fun b o e => base_of (KX b o e) (by
      cases q : H b with
      | none => rfl
      | some u =>
        rcases hA b (by rw [q]; simp) with e' | e'
        · rw [e'] at e q
          rw [hK (by rw [q]; simp)] at e
          cases e
        · obtain ⟨p, hp, ep⟩ := List.mem_map.mp e'
          rw [← ep, nT p hp] at e
          cases e)
    have hM : L2.Mod K mg (hidT s₁.heap H) := ⟨hKb, nsK hns, ⟨mb, nsK hb, hbb⟩, let ⟨mc, h1, h2⟩ := hlim; ⟨mc, nsK h1, h2⟩⟩
    have TB : ∀ p ∈ cs, TabB (hidT s₁.heap H) mg p.1 p.2 := fun p hp => by
      have hTp := hT p hp
      refine ⟨?_, ?_, fun z => ?_⟩
      · obtain ⟨o, us, file, tf, flags, tg, inF, text, tt, e1, r1, r2, r3, r4, r5, r6, r7, r8, hne⟩ := C p hp
        refine ⟨o, us, file, tf, flags, tg, inF, text, tt, base_of e1 (noD e1 (fun vs n z => ?_) fun z => ?_), r1, r2, r3, r4, r5, r6, r7, r8, hne⟩
        · rw [r2] at z
          cases z
        · rw [r2] at z
          cases z
          simp at r3
      · obtain ⟨bm, ob, b1, b2, b3, b4, b5, b6⟩ := hbm
        have nG : bm ≠ mainGlobals := fun q => by
          obtain ⟨o, es, ep, e, hd, _⟩ := hns
          rw [q, e] at b3
          cases b3
          rw [hd] at b6
          cases b6
        have nP : bm ≠ p.2 := fun q => by
          rw [q, hTp] at b3
          cases b3
          cases b6
        refine ⟨bm, ob, b1, b2, nG, nP, base_of b3 (noD b3 (fun vs n z => ?_) fun z => ?_), b4, b5, b6⟩
        · rw [b6] at z
          cases z
        · rw [b6] at z
          cases z
      · obtain ⟨o, es, ep, e, hd, _⟩ := hns
        rw [z, hTp] at e
        cases e
        cases hd
    have e0 : Env0 P w K mg (hidT s₁.heap H) callerA [] s₁ H := ⟨rfl, hM, fun b o e => of_hidT e, Nat.le_of_eq (hidT_size _ _), trivial, fun b hb => absurd (show b ∈ ([] : List Addr) from hb) (by simp), hok, .of_eq hg⟩
    refine codeAny_mono ((F _ hKb (nsK hns) TB).run callerA [] s₁ H ⟨[.ref a], []⟩ [.ref a] [.ref a] _ _ hr rfl e0 (hbind s₁ (.ref a)) (.cons rfl .nil) (hsp H hH hS)) fun r s' h => ?_
    cases r with
    | error e => exact (hCX H e s' h).elim
    | ok fl =>
      cases fl with
      | next => exact False.elim h
      | brk => exact False.elim h
      | cont => exact False.elim h
      | ret u =>
        obtain ⟨v, H', os, bare, un, hok', r', q⟩ := h
        have q' : v = .bl true := q
        subst q'
        obtain rfl : u = Value.bool true := r'
        have key : ∀ b o, b ∉ cs.map (·.2) → s₁.heap.get? b = some o → s'.heap.get? b = some o := fun b o nb e => by
          cases q : H b with
          | none => exact un.keep b o e q (by intro z; exact absurd (show b ∈ ([] : List Addr) from z) (by simp)) (by simp)
          | some u =>
            rcases hO b with z | z | ⟨ob, xs, z⟩
            · rw [q] at z; cases z
            · exact absurd z nb
            · have z2 := un.frzs b ob _ z
              obtain ⟨e1, _⟩ := hok b _ z
              obtain ⟨e2, _⟩ := hok' b _ z2
              rw [e] at e1; cases e1
              exact e2
        have grown : ∀ p ∈ cs, ∃ more : Array Value, s'.heap.get? p.2 = some { cls := .none, data := .fields more } := fun p hp => by
          obtain ⟨more, z⟩ := un.tbls p.2 #[] (hH p hp)
          exact ⟨_, hok' p.2 _ z⟩
        refine ⟨rfl, ⟨fun b o e => ?_, fun b o e => ?_⟩, os, bare⟩
        · by_cases hb : b ∈ cs.map (·.2)
          · obtain ⟨p, hp, ep⟩ := List.mem_map.mp hb
            obtain ⟨more, hm⟩ := grown p hp
            rw [← ep] at e ⊢
            rw [hT p hp] at e
            cases e
            exact .inr (.inl ⟨((C p hp).tab (hT p hp)).isCodeTable, rfl, #[], more, rfl, by rw [Array.empty_append]; exact hm⟩)
          · exact .inl (key b o hb e)
        · by_cases hb : b ∈ cs.map (·.2)
          · obtain ⟨p, hp, ep⟩ := List.mem_map.mp hb
            obtain ⟨more, hm⟩ := grown p hp
            rw [← ep]
            exact ⟨_, hm⟩
          · exact ⟨o, key b o hb e⟩
  have hk : K.lookup a = none := by
    cases q : K.lookup a with
    | none => rfl
    | some o =>
      have e := KX a o q
      rw [ha] at e
      exact (hKa o q (by rw [← Option.some.inj e])).elim
  refine core (fun b => if b = a then some (.frz { cls := .type "list", data := .seq vs.toArray } (.lst (ns.map V.int))) else if b ∈ cs.map (·.2) then some (.tbl #[]) else none) (fun p hp => (if_neg (show ¬ p.2 = a from fun z => aT (by rw [← z]; exact memT p hp))).trans (if_pos (memT p hp))) (fun b => ?_)
    ⟨{ cls := .type "list", data := .seq vs.toArray }, if_pos rfl⟩ (fun b u z => ?_) (fun b z => ?_) fun _ => hk
  · by_cases hb : b = a
    · exact .inr (.inr ⟨_, _, if_pos hb⟩)
    · by_cases hb2 : b ∈ cs.map (·.2)
      · exact .inr (.inl hb2)
      · exact .inl ((if_neg hb).trans (if_neg hb2))
  · by_cases hb : b = a
    · have z' := (if_pos hb).symm.trans z
      cases z'
      rw [hb]
      exact ⟨ha, by rw [List.length_map]; exact hl, vs, _, rv, ha⟩
    · have z1 := (if_neg hb).symm.trans z
      by_cases hb2 : b ∈ cs.map (·.2)
      · have z' := (if_pos hb2).symm.trans z1
        cases z'
        exact isT b hb2
      · have z' := (if_neg hb2).symm.trans z1
        cases z'
  · by_cases hb : b = a
    · exact .inl hb
    · by_cases hb2 : b ∈ cs.map (·.2)
      · exact .inr hb2
      · exact absurd ((if_neg hb).trans (if_neg hb2)) z
/-- the goal hc of a head, from the law's promise -/
theorem walk_G {l : PySem.W.OpenLaw} {n k : Nat} {q : Program} {loose : List Str} {XP : (Str → Option Value) → Heap → Prop} {YP : World → Heap → Prop} {d : DefRec} {CX : CXT} {x : Str}
    (hn : l.most = some n) (hn2 : n ≤ sizeLine) (hdf : d.params.defaults = []) (hr : Room k callerA)
    (F : ∀ (w : World) (mg : Str → Option Value) (fa : Addr) (h : Heap), YP w h → h.Ns mainGlobals mg → mg d.name = some (.ref fa) →
      ∃ (K : PySem.W.Frag) (fd : FuncData) (cs : List (Addr × Addr)) (sp : Sp), K.In h ∧ (∀ a o, K.lookup a = some o → o.cls ≠ .type "list") ∧ (∀ p ∈ cs, h.get? p.2 = some { cls := .none, data := .fields #[] }) ∧ (∀ p ∈ cs, K.lookup p.2 = none) ∧ (∀ p ∈ cs, PySem.W.CodeHd h p.1 p.2) ∧ (∀ (s : Shared) (u : Value), BindsTo s fd ⟨[u], []⟩ [(x, u)]) ∧
        (∀ (H : Hp) (a : Addr) (ns : List Int), ns.length ≤ n → (∀ p ∈ cs, H p.2 = some (.tbl #[])) → (∃ ob, H a = some (.frz ob (.lst (ns.map V.int)))) → sp [.ref a] H (fun v _ => v = .bl true) fun _ _ _ => False) ∧
        ∀ base : Heap, K.In base → base.Ns mainGlobals mg → (∀ p ∈ cs, TabB base mg p.1 p.2) → Ev.FnG l.prog w K mg base CX k fa fd [x] sp)
    (hCX : ∀ (H : Hp) (s : Shared) (e : Value) (s' : Shared), CX [] H s (fun _ _ _ => False) e s' → False) :
    PySem.W.WalkO q loose XP YP l.row.toRowW d [] (fun f vs => PySem.call f vs) := by
  refine Att.attach_call hn hdf fun w s₀ s₁ mg mb fa o pm cd doc a vs ns G Y ho hd hcd hmg hobj hints hlen hg => ?_
  obtain ⟨K, fd, cs, sp, KX, nL, hT, nT, C, hb, hsp, hF⟩ := F w mg fa _ Y G.T.g hmg
  exact law_callG KX G.T.g G.T.b G.T.builtins G.T.nolimit hg hT nT C G.T.bmain hobj hints (Nat.le_trans hlen hn2) hr hF hb (nL a) (fun H hH hS => hsp H a ns hlen hH hS) fun H e s' => hCX H s₁ e s'
end LamX
set_option Elab.async false
set_option linter.all false
set_option maxRecDepth 100000
set_option maxHeartbeats 4000000
/-! EvCC: what the head tells: facts, defs, tables of code objects; no list is among the known objects -/
namespace He
open PySem PySem.Spec PyProof.Rows L2
def isL (o : Obj) : Bool := match o.cls with
  | .type t => t == "list"
  | _ => false
def frL (g : Addr → Option Obj) (as : List Addr) : PySem.W.Frag := (frT g as).filter fun q => !isL q.2
theorem frL_mem {g : Addr → Option Obj} {as : List Addr} {a : Addr} {o : Obj} (h : (frL g as).lookup a = some o) : g a = some o ∧ emptyTab o = false ∧ isL o = false := by
  obtain ⟨h1, h2⟩ := List.mem_filter.mp (lookup_mem h)
  obtain ⟨h3, h4⟩ := List.mem_filter.mp h1
  exact ⟨frG_mem h3, by simpa using h4, by simpa using h2⟩
theorem frL_in {as : List Addr} {h : Heap} : (frL h.get? as).In h := fun _ _ e => (frL_mem e).1
theorem frL_none {g : Addr → Option Obj} {as : List Addr} {a : Addr} {o : Obj} (h : g a = some o) (ht : emptyTab o = true) : (frL g as).lookup a = none := by
  cases e : (frL g as).lookup a with
  | none => rfl
  | some u =>
    obtain ⟨h1, h2, _⟩ := frL_mem e
    rw [h] at h1
    rw [← Option.some.inj h1, ht] at h2
    cases h2
def obsL (n : Nat) (fa : List Fa) (fn : List DefD) (tf : List Defn) (g : Addr → Option Obj) : AlD × Bool := (obsD fa fn (frL g (asD g n)), tabsB g tf (frL g (asD g n)))
def valL (fn : List DefD) : AlD × Bool := (valD fn, true)
structure SaysL (fa : List Fa) (fn : List DefD) (tf : List Defn) (h : Heap) (K : PySem.W.Frag) : Prop where
  d : SaysD fa fn K
  hd : ∀ p ∈ tf, PySem.W.codeHdIn K (cT K p).1 (cT K p).2 = true
  out : ∀ p ∈ tf, K.lookup (cT K p).2 = none
  empty : ∀ p ∈ tf, h.get? (cT K p).2 = some { cls := .none, data := .fields #[] }
  nl : ∀ a o, K.lookup a = some o → o.cls ≠ .type "list"
theorem saysL_of {n : Nat} {fa : List Fa} {fn : List DefD} {tf : List Defn} {h : Heap} (e : obsL n fa fn tf h.get? = valL fn) : SaysL fa fn tf h (frL h.get? (asD h.get? n)) := by
  have e1 : obsD fa fn (frL h.get? (asD h.get? n)) = valD fn := congrArg (fun z : AlD × Bool => z.1) e
  have e2 : tabsB h.get? tf (frL h.get? (asD h.get? n)) = true := congrArg (fun z : AlD × Bool => z.2) e
  have key : ∀ p ∈ tf, PySem.W.codeHdIn (frL h.get? (asD h.get? n)) (cT (frL h.get? (asD h.get? n)) p).1 (cT (frL h.get? (asD h.get? n)) p).2 = true ∧ ∃ o, h.get? (cT (frL h.get? (asD h.get? n)) p).2 = some o ∧ emptyTab o = true := fun p hp => by
    obtain ⟨h3, h4⟩ := ba (List.all_eq_true.mp e2 p hp)
    refine ⟨h3, ?_⟩
    cases q : h.get? (cT (frL h.get? (asD h.get? n)) p).2 with
    | none =>
      rw [q] at h4
      cases h4
    | some o =>
      rw [q] at h4
      exact ⟨o, rfl, h4⟩
  exact ⟨e1, fun p hp => (key p hp).1, fun p hp => by
    obtain ⟨_, o, q, z⟩ := key p hp
    exact frL_none q z, fun p hp => by
    obtain ⟨_, o, q, z⟩ := key p hp
    rw [q, emptyTab_eq z], fun a o q z => by
    have := (frL_mem q).2.2
    unfold isL at this
    rw [z] at this
    cases this⟩
def hookL (n : Nat) (fa : List Fa) (fn : List DefD) (tf : List Defn) : PySem.W.Hook where
  α := AlD × Bool
  obs := fun s => obsL n fa fn tf s.heap.get?
  val := fun _ => valL fn
  says := fun _ h => ∃ K : PySem.W.Frag, K.In h ∧ SaysL fa fn tf h K
  of := fun _ _ e => ⟨_, frL_in, saysL_of e⟩
  keeps := fun _ _ _ ⟨K, hK, c⟩ k => ⟨K, PySem.W.Frag.In.keeps hK k, ⟨c.d, c.hd, c.out, fun p hp => k _ _ (c.empty p hp), c.nl⟩⟩
theorem obsL_eq {n : Nat} {fa : List Fa} {fn : List DefD} {tf : List Defn} {g : Addr → Option Obj} {s : Shared} (h : ∀ a, g a = s.heap.get? a) : obsL n fa fn tf g = (hookL n fa fn tf).obs s := by
  have e : g = s.heap.get? := funext h
  rw [e] <;> rfl
end He
set_option Elab.async false
set_option linter.all false
set_option maxRecDepth 100000
set_option maxHeartbeats 4000000
/-! EvDD: the chain of defs -/
namespace Ev
open PySem L2 PyProof.Rows
variable [Tbs]
/-- the def x is there and keeps what S says -/
def Has (P : Program) (w : World) (K : PySem.W.Frag) (mg : Str → Option Value) (base : Heap) (k : Nat) (x : Str) (S : FnSem) : Prop :=
  ∃ f fd ps, FnG P w K mg base CX0 k f fd ps (spOf S) ∧ mg x = some (.ref f) ∧ PySem.W.keepIn K (.ref f) = true ∧ Binds K fd ps []
section
variable {P : Program} {w : World} {K : PySem.W.Frag} {mg : Str → Option Value} {base : Heap} {j k : Nat}
theorem Has.at {x : Str} {S : FnSem} (h : Has P w K mg base j x S) (hk : j ≤ k) : ∀ X : Cx, X.prog = P → X.w = w → X.K = K → X.mg = mg → X.base = base → FnHas k X x S := by
  rintro X rfl rfl rfl rfl rfl
  obtain ⟨f, fd, ps, h1, h2, h3, h4⟩ := h
  exact ⟨⟨f, fd, ps, h1.mono hk, h2, h3, h4⟩⟩
theorem all_nil {α : Type} {p : α → Prop} : ∀ a ∈ ([] : List α), p a := fun _ h => nomatch h
theorem all_cons {α : Type} {p : α → Prop} {a : α} {l : List α} (h : p a) (t : ∀ b ∈ l, p b) : ∀ b ∈ a :: l, p b := fun b hb => by
  rcases List.mem_cons.mp hb with rfl | hb
  · exact h
  · exact t b hb
theorem con_int {x : Str} {i : Int} (h : ∃ t, mg x = some (.int i t)) : ∃ u v, mg x = some u ∧ RelV v u ∧ cV (.int i) = some v := by
  obtain ⟨t, h⟩ := h
  exact ⟨_, .int i, h, ⟨t, rfl⟩, rfl⟩
theorem con_str {x z : Str} (h : ∃ t, mg x = some (.str z t)) : ∃ u v, mg x = some u ∧ RelV v u ∧ cV (.str z) = some v := by
  obtain ⟨t, h⟩ := h
  exact ⟨_, .str z, h, ⟨t, rfl⟩, rfl⟩
theorem lam_none {G : Gx} (h : G.lam = none) {f : Addr} {qual : Str} {scope : Scope} : ∀ q, G.lam = some q → ∀ (L : Addr) (cdv : Value), CodeOf K f cdv → LamOk base mg (envOfC qual scope L f cdv) q := fun q hq => by
  rw [h] at hq
  cases hq
/-- the def that makes lambdas -/
theorem lam_some {x qual : Str} {params : Arguments} {bd : List Stmt} {scope : Scope} {fd : FuncData} {q0 : Str} {G : Gx} (hG : G.lam = some q0) (F : FunD K x qual params bd scope [] [] (He.fAd K (x, none)) fd) (hq : (qual ++ ".<locals>.") ++ "<lambda>" = q0)
    (tb : LamX.TabB base mg (He.cT K (x, none)).1 (He.cT K (x, none)).2) (hT : Tbs.T = [((He.cT K (x, none)).2, q0)]) : ∀ q, G.lam = some q → ∀ (L : Addr) (cdv : Value), CodeOf K (He.fAd K (x, none)) cdv → LamOk base mg (envOfC qual scope L (He.fAd K (x, none)) cdv) q := by
  intro q hq' L cdv ⟨o, fd', h1, h2, h3⟩
  rw [hG] at hq'
  cases hq'
  obtain ⟨oc, od, dV, kV, doc, pm, an, cdv', ct, osl, rfl, lk, hcd, _, _⟩ := F.ex
  obtain ⟨c, rfl⟩ := He.codeIn_ref hcd
  rw [lk] at h1
  cases h1
  cases h2
  cases h3
  have e := He.codeOf_eq lk (c := c) rfl
  have e1 : (He.cT K (x, none)).1 = c := e
  refine ⟨hq, c, (He.cT K (x, none)).2, rfl, by rw [← e1]; exact tb, by rw [hT]; exact List.mem_singleton.mpr rfl, fun p hp _ => ?_⟩
  rw [hT] at hp
  rw [List.mem_singleton.mp hp]
end
end Ev
set_option Elab.async false
set_option linter.all false
set_option maxRecDepth 100000
set_option maxHeartbeats 4000000
/-! PL: loops and comprehensions of plain data -/
namespace Ev
open PySem L2
variable [Tbs]
section
variable {G : Gx} {N : List Str} {nio : Nat} {α S : Type}
theorem compF_enc (vs : List Nat) (tg : STg G N) (c : Option (SXT G N)) (elt : SX G N) (enc : α → D) (f : α → D) (p : α → Bool) (ρ : Rho) : ∀ l : List α,
    (∀ a ∈ l, ∃ ρ1, tg.st (enc a) (wipeR ρ vs) = some ρ1 ∧ evC c ρ1 = some (p a, ρ1) ∧ (p a = true → elt.evD ρ1 = some (f a, ρ1)) ∧ back ρ ρ1 vs = ρ) → compF vs tg c elt (l.map enc) ρ = some ((l.filter p).map f, ρ)
  | [], _ => rfl
  | a :: l, h => by
    obtain ⟨ρ1, h1, h2, h3, h4⟩ := h a List.mem_cons_self
    have ih := compF_enc vs tg c elt enc f p ρ l fun b hb => h b (List.mem_cons_of_mem _ hb)
    rw [List.map_cons]
    unfold compF
    rw [h1]
    show ((evC c ρ1).bind _) = _
    rw [h2]
    cases hp : p a with
    | true =>
      rw [List.filter_cons_of_pos hp, List.map_cons]
      show ((elt.evD ρ1).bind _) = _
      rw [h3 hp]
      show (compF vs tg c elt (l.map enc) (back ρ ρ1 vs)).map _ = _
      rw [h4, ih]
      rfl
    | false =>
      rw [List.filter_cons_of_neg (by rw [hp]; exact Bool.false_ne_true)]
      show compF vs tg c elt (l.map enc) (back ρ ρ1 vs) = _
      rw [h4, ih]
theorem compF_all (vs : List Nat) (tg : STg G N) (elt : SX G N) (enc : α → D) (f : α → D) (ρ : Rho) (l : List α)
    (h : ∀ a ∈ l, ∃ ρ1, tg.st (enc a) (wipeR ρ vs) = some ρ1 ∧ elt.evD ρ1 = some (f a, ρ1) ∧ back ρ ρ1 vs = ρ) : compF vs tg none elt (l.map enc) ρ = some (l.map f, ρ) := by
  have := compF_enc vs tg none elt enc f (fun _ => true) ρ l fun a ha => by
    obtain ⟨ρ1, h1, h2, h3⟩ := h a ha
    exact ⟨ρ1, h1, rfl, fun _ => h2, h3⟩
  rw [List.filter_eq_self.mpr fun _ _ => rfl] at this
  exact this
/-- a loop that goes on -/
theorem forF_fold (tg : STg G N) (body : List (SS G N nio)) (enc : α → D) (rep : S → Rho) (step : S → α → S) : ∀ (l : List α) (s : S),
    (∀ s, ∀ a ∈ l, ∃ ρ1, tg.st (enc a) (rep s) = some ρ1 ∧ exB body ρ1 = some (.nx, rep (step s a))) → forF tg body (l.map enc) (rep s) = some (.nx, rep (l.foldl step s))
  | [], _, _ => rfl
  | a :: l, s, h => by
    obtain ⟨ρ1, h1, h2⟩ := h s a List.mem_cons_self
    rw [List.map_cons]
    unfold forF
    rw [h1]
    show ((exB body ρ1).bind _) = _
    rw [h2]
    exact forF_fold tg body enc rep step l (step s a) fun s b hb => h s b (List.mem_cons_of_mem _ hb)
/-- the same with what stands at each turn (I s l: the state s, l still to come) -/
theorem forF_inv (tg : STg G N) (body : List (SS G N nio)) (enc : α → D) (rep : S → Rho) (step : S → α → S) (I : S → List α → Prop) : ∀ (l : List α) (s : S), I s l →
    (∀ s a r, I s (a :: r) → I (step s a) r ∧ ∃ ρ1, tg.st (enc a) (rep s) = some ρ1 ∧ exB body ρ1 = some (.nx, rep (step s a))) → forF tg body (l.map enc) (rep s) = some (.nx, rep (l.foldl step s))
  | [], _, _, _ => rfl
  | a :: l, s, i, h => by
    obtain ⟨h0, ρ1, h1, h2⟩ := h s a l i
    rw [List.map_cons]
    unfold forF
    rw [h1]
    show ((exB body ρ1).bind _) = _
    rw [h2]
    exact forF_inv tg body enc rep step I l (step s a) h0 h
end
/-! ### defs -/
section
variable {G : Gx} {N : List Str}
@[simp] theorem semD_nio (np : Nat) (b : List (SS G N 0)) : (semD np b).nio = false := rfl
@[simp] theorem semI_nio (np : Nat) (b : List (SS G N 1)) : (semI np b).nio = true := rfl
@[simp] theorem semD_run (np : Nat) (b : List (SS G N 0)) (ds : List D) : (semD np b).run ds = if ds.length = np then (exB b (initR N.length ds)).bind fun p => (finO p.1 p.2).map fun r => (r, .none) else none := rfl
@[simp] theorem semI_run (np : Nat) (b : List (SS G N 1)) (ds : List D) : (semI np b).run ds = if ds.length = np then (exB b (initI N.length ds)).bind fun p => match (p.2[0]? : Option Slot) with
    | some (Slot.ow c) => (match p.1 with
      | .rt (.bo 0) => none
      | o => finO o p.2).map fun r => (r, c)
    | _ => none
  else none := rfl
end
/-! ### data -/
def nD (n : Nat) : D := .int (n : Nat)
theorem enumL_map {α : Type} (enc : α → D) : ∀ (l : List α) (i : Nat), enumL i (l.map enc) = (l.zipIdx i).map fun p => .tuple [.int (p.2 : Nat), enc p.1]
  | [], _ => rfl
  | a :: l, i => by
    rw [List.map_cons, enumL, enumL_map enc l (i + 1), List.zipIdx_cons, List.map_cons]
theorem zipL_map {α β : Type} (f : α → D) (g : β → D) : ∀ (l : List α) (m : List β), zipL (l.map f) (m.map g) = (l.zip m).map fun p => .tuple [f p.1, g p.2]
  | [], m => by cases m <;> rfl
  | a :: l, [] => rfl
  | a :: l, b :: m => by
    rw [List.map_cons, List.map_cons, zipL, zipL_map f g l m, List.zip_cons_cons, List.map_cons]
@[simp] theorem boolsD_enc {α : Type} (f : α → Bool) (l : List α) : boolsD (l.map fun a => PyData.bool (f a)) = some (l.map f) := by
  have := boolsD_map (l.map f)
  rw [List.map_map] at this
  exact this
@[simp] theorem intsD_enc {α : Type} (f : α → Int) (l : List α) : intsD (l.map fun a => PyData.int (f a)) = some (l.map f) := by
  have := intsD_map (l.map f)
  rw [List.map_map] at this
  exact this
@[simp] theorem intsD_int (l : List Int) : intsD (l.map PyData.int) = some l := intsD_map l
@[simp] theorem boolsD_bool (l : List Bool) : boolsD (l.map PyData.bool) = some l := boolsD_map l
@[simp] theorem natsD_nats (l : List Nat) : natsD (l.map fun n => PyData.int (n : Nat)) = some l := natsD_map l
theorem rangeD_nat (n : Nat) : rangeD 0 n = (List.range n).map nD := by
  unfold rangeD nD
  apply List.map_congr_left
  intro i _
  simp
end Ev
set_option Elab.async false
set_option linter.all false
set_option maxRecDepth 100000
set_option maxHeartbeats 4000000
/-! printed by genev.py: the meanings as equations -/
namespace Ev
open PySem L2
variable [Tbs]
section
variable {G : Gx} {N : List Str} {nio : Nat}
@[simp] theorem ev_sVar (i : Nat) (ρ : Rho) : (sVar (G := G) (N := N) i).ev ρ = (match ρ[i]? with
    | some (.va d) => some (.v d, ρ)
    | some (.ow _) => some (.bo i, ρ)
    | _ => none : Option (R × Rho)) := rfl
@[simp] theorem ev_sCon (d : D) (ρ : Rho) : (sCon (G := G) (N := N) d).ev ρ = (some (.v d, ρ) : Option (R × Rho)) := rfl
@[simp] theorem ev_sGl (j : Nat) (ρ : Rho) : (sGl (G := G) (N := N) j).ev ρ = (match G.cs[j]? with
    | some p => some (.v p.2, ρ)
    | none => none : Option (R × Rho)) := rfl
@[simp] theorem ev_sBin (op : Operator) (g : D → D → Option Rv) (h : OpD op g) (a b : SX G N) (ρ : Rho) : (sBin (G := G) (N := N) op g h a b).ev ρ = ((ev2 a b ρ).bind fun p => (g p.1 p.2.1).map fun r => (r.r, p.2.2) : Option (R × Rho)) := rfl
@[simp] theorem ev_sCmp (op : CmpOp) (g : D → D → Option Bool) (h : CmpD op g) (a b : SX G N) (ρ : Rho) : (sCmp (G := G) (N := N) op g h a b).ev ρ = ((ev2 a b ρ).bind fun p => (g p.1 p.2.1).map fun r => (.v (.bool r), p.2.2) : Option (R × Rho)) := rfl
@[simp] theorem ev_tCmp (op : CmpOp) (g : D → D → Option Bool) (h : CmpD op g) (a b : SX G N) (ρ : Rho) : (tCmp (G := G) (N := N) op g h a b).ev ρ = ((ev2 a b ρ).bind fun p => (g p.1 p.2.1).map fun r => (r, p.2.2) : Option (Bool × Rho)) := rfl
@[simp] theorem ev_sChain (op op' : CmpOp) (g g' : D → D → Option Bool) (h : CmpD op g) (h' : CmpD op' g') (a b c : SX G N) (ρ : Rho) : (sChain (G := G) (N := N) op op' g g' h h' a b c).ev ρ = ((ev3 g g' a b c ρ).map fun p => (.v (.bool p.1), p.2) : Option (R × Rho)) := rfl
@[simp] theorem ev_tChain2 (op op' : CmpOp) (g g' : D → D → Option Bool) (h : CmpD op g) (h' : CmpD op' g') (a b c : SX G N) (ρ : Rho) : (tChain2 (G := G) (N := N) op op' g g' h h' a b c).ev ρ = (ev3 g g' a b c ρ : Option (Bool × Rho)) := rfl
@[simp] theorem ev_sAnd (xs : List (SX G N)) (ρ : Rho) : (sAnd (G := G) (N := N) xs).ev ρ = ((evAnd xs ρ).map fun p => (.v (.bool p.1), p.2) : Option (R × Rho)) := rfl
@[simp] theorem ev_sOr (xs : List (SX G N)) (ρ : Rho) : (sOr (G := G) (N := N) xs).ev ρ = ((evOr xs ρ).map fun p => (.v (.bool p.1), p.2) : Option (R × Rho)) := rfl
@[simp] theorem ev_sNot (x : SX G N) (ρ : Rho) : (sNot (G := G) (N := N) x).ev ρ = ((x.evD ρ).bind fun p => match p.1 with
    | .bool b => some (.v (.bool (!b)), p.2)
    | _ => none : Option (R × Rho)) := rfl
@[simp] theorem ev_sNeg (x : SX G N) (ρ : Rho) : (sNeg (G := G) (N := N) x).ev ρ = ((x.evD ρ).bind fun p => match p.1 with
    | .int b => some (.v (.int (-b)), p.2)
    | _ => none : Option (R × Rho)) := rfl
@[simp] theorem ev_tVal (x : SX G N) (ρ : Rho) : (tVal (G := G) (N := N) x).ev ρ = ((x.evH ρ).bind fun p => (peek p.2 p.1).bind fun d => (tru d).map fun b => (b, p.2) : Option (Bool × Rho)) := rfl
@[simp] theorem ev_tNot (x : SXT G N) (ρ : Rho) : (tNot (G := G) (N := N) x).ev ρ = ((x.ev ρ).map fun p => (!p.1, p.2) : Option (Bool × Rho)) := rfl
@[simp] theorem ev_tAnds (xs : List (SXT G N)) (ρ : Rho) : (tAnds (G := G) (N := N) xs).ev ρ = (evTAnd xs ρ : Option (Bool × Rho)) := rfl
@[simp] theorem ev_tOrs (xs : List (SXT G N)) (ρ : Rho) : (tOrs (G := G) (N := N) xs).ev ρ = (evTOr xs ρ : Option (Bool × Rho)) := rfl
@[simp] theorem ev_sIte (c : SXT G N) (a b : SX G N) (ρ : Rho) : (sIte (G := G) (N := N) c a b).ev ρ = ((c.ev ρ).bind fun p => match p.1 with
    | true => a.ev p.2
    | false => b.ev p.2 : Option (R × Rho)) := rfl
@[simp] theorem ev_sTup (xs : List (Itm G N)) (ρ : Rho) : (sTup (G := G) (N := N) xs).ev ρ = ((evIs xs ρ).bind fun p => match small p.1.length with
    | true => some (.v (.tuple p.1), p.2)
    | false => none : Option (R × Rho)) := rfl
@[simp] theorem ev_sLst (xs : List (Itm G N)) (ρ : Rho) : (sLst (G := G) (N := N) xs).ev ρ = ((evIs xs ρ).bind fun p => match small p.1.length with
    | true => some (.fr (.list p.1), p.2)
    | false => none : Option (R × Rho)) := rfl
@[simp] theorem ev_sIx (a b : SX G N) (ρ : Rho) : (sIx (G := G) (N := N) a b).ev ρ = ((ev2 a b ρ).bind fun p => (ixD p.1 p.2.1).map fun d => (.v d, p.2.2) : Option (R × Rho)) := rfl
@[simp] theorem ev_sDix (a b : SX G N) (ρ : Rho) : (sDix (G := G) (N := N) a b).ev ρ = ((ev2 a b ρ).bind fun p => (dgD p.1 p.2.1).map fun d => (.v d, p.2.2) : Option (R × Rho)) := rfl
@[simp] theorem ev_tDin (neg : Bool) (a b : SX G N) (ρ : Rho) : (tDin (G := G) (N := N) neg a b).ev ρ = ((ev2 a b ρ).bind fun p => (inD p.1 p.2.1).map fun r => (if neg = true then !r else r, p.2.2) : Option (Bool × Rho)) := rfl
@[simp] theorem ev_sSl (a : SX G N) (lo hi : Option (SX G N)) (ρ : Rho) : (sSl (G := G) (N := N) a lo hi).ev ρ = ((a.evH ρ).bind fun p => (evO lo p.2).bind fun i => (evO hi i.2).bind fun j => (peek j.2 p.1).bind fun d => (slD d i.1 j.1).map fun r => (r.r, j.2) : Option (R × Rho)) := rfl
@[simp] theorem ev_sCall (j : Nat) (xs : List (SX G N)) (ρ : Rho) : (sCall (G := G) (N := N) j xs).ev ρ = ((G.fns[j]?).bind fun p => match p.2.nio with
    | true => none
    | false => (evDs xs ρ).bind fun q => (p.2.run q.1).map fun r => (r.1.r, q.2) : Option (R × Rho)) := rfl
@[simp] theorem ev_sCallI (j i : Nat) (xs : List (SX G N)) (ρ : Rho) : (sCallI (G := G) (N := N) j i xs).ev ρ = ((G.fns[j]?).bind fun p => match p.2.nio with
    | false => none
    | true => match ρ[i]? with
      | some (.ow _) => (evDs xs ρ).bind fun q => match q.2[i]? with
        | some (.ow c) => (p.2.run (c :: q.1)).map fun r => (r.1.r, q.2.set i (.ow r.2))
        | _ => none
      | _ => none : Option (R × Rho)) := rfl
@[simp] theorem ev_sBlt (b : Blt) (xs : List (SX G N)) (ρ : Rho) : (sBlt (G := G) (N := N) b xs).ev ρ = ((evHs xs ρ).bind fun p => (peeks p.2 p.1).bind fun ds => (b.g ds).map fun r => (r.r, p.2) : Option (R × Rho)) := rfl
@[simp] theorem ev_sIsi (x : SX G N) (T : Tn) (ρ : Rho) : (sIsi (G := G) (N := N) x T).ev ρ = ((x.evH ρ).bind fun p => (peek p.2 p.1).map fun d => (.v (.bool (isiD d T)), p.2) : Option (R × Rho)) := rfl
@[simp] theorem ev_sM1 (m : Mt1) (i : Nat) (x : SX G N) (ρ : Rho) : (sM1 (G := G) (N := N) m i x).ev ρ = (match ρ[i]? with
    | some (.ow (.list _)) => (x.evD ρ).bind fun p => match p.2[i]? with
      | some (.ow (.list ds)) => match small ds.length with
        | true => (m.g ds p.1).bind fun r => match small r.2.length with
          | true => some (.v r.1, p.2.set i (.ow (.list r.2)))
          | false => none
        | false => none
      | _ => none
    | _ => none : Option (R × Rho)) := rfl
@[simp] theorem ev_sM0 (m : Mt0) (i : Nat) (ρ : Rho) : (sM0 (G := G) (N := N) m i).ev ρ = (match ρ[i]? with
    | some (.ow (.list ds)) => match small ds.length with
        | true => (m.g ds).bind fun r => match small r.2.length with
          | true => some (.v r.1, ρ.set i (.ow (.list r.2)))
          | false => none
        | false => none
    | _ => none : Option (R × Rho)) := rfl
@[simp] theorem g_mAppend : mAppend.g = (fun ds y => some (.none, ds ++ [y])) := rfl
@[simp] theorem g_mExtend : mExtend.g = (fun ds y => match y with
    | .list es => some (.none, ds ++ es)
    | _ => none) := rfl
@[simp] theorem g_mPopAt : mPopAt.g = (fun ds y => match y with
    | .int i => if 0 ≤ i then (ds[i.toNat]?).map fun d => (d, ds.eraseIdx i.toNat) else none
    | _ => none) := rfl
@[simp] theorem g_mPop : mPop.g = (fun ds => (ds[ds.length - 1]?).map fun d => (d, ds.dropLast)) := rfl
@[simp] theorem ev_iSeq (x : SX G N) (ρ : Rho) : (iSeq (G := G) (N := N) x).ev ρ = ((x.evD ρ).bind fun p => (elems p.1).map fun ds => (ds, p.2) : Option (List D × Rho)) := rfl
theorem ev_iRange (xs : List (SX G N)) (ρ : Rho) : (iRange (G := G) (N := N) xs).ev ρ = ((evDs xs ρ).bind fun p => match p.1 with
    | [.int n] => match okR n with
      | true => some (rangeD 0 n.toNat, p.2)
      | false => none
    | [.int a, .int b] => match okR a && okR b with
      | true => some (rangeD a (b - a).toNat, p.2)
      | false => none
    | _ => none : Option (List D × Rho)) := rfl
@[simp] theorem st_gNm (i : Nat) (d : D) (ρ : Rho) : (gNm (G := G) (N := N) i).st d ρ = (if i < ρ.length then some (ρ.set i (.va d)) else none : Option Rho) := rfl
@[simp] theorem slots_gNm (i : Nat) : (gNm (G := G) (N := N) i).slots = [i] := rfl
@[simp] theorem st_gTp (ts : List (STg G N)) (d : D) (ρ : Rho) : (gTp (G := G) (N := N) ts).st d ρ = (match d with
    | .tuple ds => gsSt ts ds ρ
    | _ => none : Option Rho) := rfl
@[simp] theorem slots_gTp (ts : List (STg G N)) : (gTp (G := G) (N := N) ts).slots = gsSlots ts := rfl
@[simp] theorem ev_sLc (own : List (Str × Nat)) (tg : STg G N) (it : SI G N) (c : Option (SXT G N)) (elt : SX G N) (ρ : Rho) : (sLc (G := G) (N := N) own tg it c elt).ev ρ = (lcE own tg it c elt ρ : Option (R × Rho)) := rfl
@[simp] theorem ex_xDead  (ρ : Rho) : (xDead (G := G) (N := N) (nio := nio) ).ex ρ = (none : Option (Out × Rho)) := rfl
@[simp] theorem ex_xPass  (ρ : Rho) : (xPass (G := G) (N := N) (nio := nio) ).ex ρ = (some (.nx, ρ) : Option (Out × Rho)) := rfl
@[simp] theorem ex_xBreak  (ρ : Rho) : (xBreak (G := G) (N := N) (nio := nio) ).ex ρ = (some (.bk, ρ) : Option (Out × Rho)) := rfl
@[simp] theorem ex_xCont  (ρ : Rho) : (xCont (G := G) (N := N) (nio := nio) ).ex ρ = (some (.ct, ρ) : Option (Out × Rho)) := rfl
@[simp] theorem ex_xExpr (x : SX G N) (ρ : Rho) : (xExpr (G := G) (N := N) (nio := nio) x).ex ρ = ((x.ev ρ).map fun p => (.nx, p.2) : Option (Out × Rho)) := rfl
@[simp] theorem ex_xRet (x : SX G N) (ρ : Rho) : (xRet (G := G) (N := N) (nio := nio) x).ex ρ = ((x.ev ρ).map fun p => (.rt p.1, p.2) : Option (Out × Rho)) := rfl
@[simp] theorem ex_xIf (c : SXT G N) (a b : List (SS G N nio)) (ρ : Rho) : (xIf (G := G) (N := N) (nio := nio) c a b).ex ρ = ((c.ev ρ).bind fun p => match p.1 with
    | true => exB a p.2
    | false => exB b p.2 : Option (Out × Rho)) := rfl
@[simp] theorem ex_xSet (i : Nat) (x : SX G N) (ρ : Rho) : (xSet (G := G) (N := N) (nio := nio) i x).ex ρ = (match decide (nio ≤ i) with
    | true => (x.ev ρ).bind fun p => (putR i p.1 p.2).map fun ρ' => (.nx, ρ')
    | false => none : Option (Out × Rho)) := rfl
@[simp] theorem ex_xSetLc (i : Nat) (own : List (Str × Nat)) (tg : STg G N) (it : SI G N) (c : Option (SXT G N)) (elt : SX G N) (ρ : Rho) : (xSetLc (G := G) (N := N) (nio := nio) i own tg it c elt).ex ρ = (match decide (nio ≤ i) with
    | true => (lcE own tg it c elt ρ).bind fun p => (putR i p.1 p.2).map fun ρ' => (.nx, ρ')
    | false => none : Option (Out × Rho)) := rfl
@[simp] theorem st_gtOf (t : STg G N) (d : D) (ρ : Rho) : (gtOf (G := G) (N := N) (nio := nio) t).st d ρ = (match t.slots.all fun i => decide (nio ≤ i) with
    | true => t.st d ρ
    | false => none : Option Rho) := rfl
@[simp] theorem st_gtTp (ts : List (SGt G N nio)) (d : D) (ρ : Rho) : (gtTp (G := G) (N := N) (nio := nio) ts).st d ρ = (match d with
    | .tuple ds => gtsSt ts ds ρ
    | _ => none : Option Rho) := rfl
@[simp] theorem st_gtSub (i : Nat) (ix : SX G N) (d : D) (ρ : Rho) : (gtSub (G := G) (N := N) (nio := nio) i ix).st d ρ = (match ρ[i]? with
    | some (.ow _) => (ix.evD ρ).bind fun p => match p.2[i]? with
      | some (.ow (.list ds)) => match p.1 with
        | .int z => (ixN ds.length z).map fun j => p.2.set i (.ow (.list (ds.set j d)))
        | _ => none
      | some (.ow (.dict kvs)) => match !isScr kvs && small kvs.length with
        | true => (keyOf p.1).map fun k => p.2.set i (.ow (.dict (putD k d kvs)))
        | false => none
      | _ => none
    | _ => none : Option Rho) := rfl
@[simp] theorem ex_xAsg (t : SGt G N nio) (x : SX G N) (ρ : Rho) : (xAsg (G := G) (N := N) (nio := nio) t x).ex ρ = ((x.evD ρ).bind fun p => (t.st p.1 p.2).map fun ρ' => (.nx, ρ') : Option (Out × Rho)) := rfl
@[simp] theorem ex_xPar2 (i j : Nat) (x y : SX G N) (ρ : Rho) : (xPar2 (G := G) (N := N) (nio := nio) i j x y).ex ρ = (exPar (nio := nio) [i, j] [x, y] ρ : Option (Out × Rho)) := rfl
@[simp] theorem ex_xPar3 (i j l : Nat) (x y z : SX G N) (ρ : Rho) : (xPar3 (G := G) (N := N) (nio := nio) i j l x y z).ex ρ = (exPar (nio := nio) [i, j, l] [x, y, z] ρ : Option (Out × Rho)) := rfl
@[simp] theorem ex_xAug (op : Operator) (g : D → D → Option D) (h : AugD op g) (i : Nat) (x : SX G N) (ρ : Rho) : (xAug (G := G) (N := N) (nio := nio) op g h i x).ex ρ = (match decide (nio ≤ i) with
    | true => match ρ[i]? with
      | some (.va a) => (x.evD ρ).bind fun p => (g a p.1).map fun d => (.nx, p.2.set i (.va d))
      | _ => none
    | false => none : Option (Out × Rho)) := rfl
@[simp] theorem ex_xFor (tg : STg G N) (it : SI G N) (body : List (SS G N nio)) (ρ : Rho) : (xFor (G := G) (N := N) (nio := nio) tg it body).ex ρ = (match tg.slots.all fun i => decide (nio ≤ i) with
    | true => (it.ev ρ).bind fun p => forF tg body p.1 p.2
    | false => none : Option (Out × Rho)) := rfl
@[simp] theorem ex_xWhile (fuel : Nat) (c : SXT G N) (body : List (SS G N nio)) (ρ : Rho) : (xWhile (G := G) (N := N) (nio := nio) fuel c body).ex ρ = (whileF c body fuel ρ : Option (Out × Rho)) := rfl
@[simp] theorem g_bLen : bLen.g = one lenD := rfl
@[simp] theorem g_bInt : bInt.g = one intD := rfl
@[simp] theorem g_bAbs : bAbs.g = one absD := rfl
@[simp] theorem g_bMax : bMax.g = maxD := rfl
@[simp] theorem g_bMin : bMin.g = minD := rfl
@[simp] theorem g_bAll : bAll.g = one fun d => (lsB d).map fun bs => .v (.bool (bs.all id)) := rfl
@[simp] theorem g_bAny : bAny.g = one fun d => (lsB d).map fun bs => .v (.bool (bs.any id)) := rfl
@[simp] theorem g_bTuple : bTuple.g = one tupleD := rfl
@[simp] theorem g_bList : bList.g = one fun d => (sqD d).map fun ds => .fr (.list ds) := rfl
@[simp] theorem g_bSorted : bSorted.g = one sortedD := rfl
@[simp] theorem ev_iEnum (x : SX G N) (ρ : Rho) : (iEnum (G := G) (N := N) x).ev ρ = ((evDs [x] ρ).bind fun p => match p.1 with
    | [d] => (kindD d).map fun q => (enumL 0 q.2, p.2)
    | _ => none : Option (List D × Rho)) := rfl
@[simp] theorem ev_iZip (x y : SX G N) (ρ : Rho) : (iZip (G := G) (N := N) x y).ev ρ = ((evDs [x, y] ρ).bind fun p => match p.1 with
    | [d, e] => (kindD d).bind fun q => (kindD e).map fun r => (zipL q.2 r.2, p.2)
    | _ => none : Option (List D × Rho)) := rfl
@[simp] theorem ev_sLr (x : SX G N) (ρ : Rho) : (sLr (G := G) (N := N) x).ev ρ = ((x.evD ρ).bind fun p => match p.1 with
    | .int n => match decide (-1000000 ≤ n) && decide (n ≤ 1000000) with
      | true => some (.fr (.list (rangeD 0 n.toNat)), p.2)
      | false => none
    | _ => none : Option (R × Rho)) := rfl
@[simp] theorem ev_sRev (x : SX G N) (ρ : Rho) : (sRev (G := G) (N := N) x).ev ρ = ((x.evH ρ).bind fun p => (peek p.2 p.1).bind fun d => (revD d).map fun r => (r.r, p.2) : Option (R × Rho)) := rfl
@[simp] theorem ev_sIdx (i : Nat) (x : SX G N) (ρ : Rho) : (sIdx (G := G) (N := N) i x).ev ρ = (match ρ[i]? with
    | some (.ow (.list _)) => (x.evD ρ).bind fun p => match p.2[i]? with
      | some (.ow (.list ds)) => (idxD ds p.1).map fun j => (.v (.int (j : Nat)), p.2)
      | _ => none
    | _ => none : Option (R × Rho)) := rfl
@[simp] theorem g_bSum : bSum.g = one sumD := rfl
@[simp] theorem g_bRepr : bRepr.g = one reprD := rfl
@[simp] theorem ev_sSortKey (q : Str) (x : SX G N) (i : Nat) (ρ : Rho) : (sSortKey (G := G) (N := N) q x i).ev ρ = ((x.evD ρ).bind fun p => match p.1, p.2[i]? with
    | .list ds, some (.va (.tuple es)) => (natsD ds).bind fun ns => (intsD es).bind fun ks => match ns.all fun n => decide (n < ks.length) with
      | true => some (.fr (.list ((byKey ks ns).map fun n => .int (n : Nat))), p.2)
      | false => none
    | _, _ => none : Option (R × Rho)) := rfl
@[simp] theorem ev_sDic0  (ρ : Rho) : (sDic0 (G := G) (N := N) ).ev ρ = (some (.fr (.dict []), ρ) : Option (R × Rho)) := rfl
@[simp] theorem ev_sDic1 (a b : SX G N) (ρ : Rho) : (sDic1 (G := G) (N := N) a b).ev ρ = ((a.evD ρ).bind fun p => (b.evD p.2).bind fun s => (keyOf p.1).map fun k => (.fr (.dict [(keyD k, s.1)]), s.2) : Option (R × Rho)) := rfl
@[simp] theorem ev_sCallF (j : Nat) (x0 : SX G N) (xs : List (SX G N)) (ρ : Rho) : (sCallF (G := G) (N := N) j x0 xs).ev ρ = ((G.fns[j]?).bind fun p => match p.2.nio with
    | false => none
    | true => (x0.ev ρ).bind fun q0 => match q0.1 with
      | .fr c => (evDs xs q0.2).bind fun q => (p.2.run (c :: q.1)).bind fun r => match r.1 with
        | .v d => some (.v d, q.2)
        | _ => none
      | _ => none : Option (R × Rho)) := rfl
end
end Ev
set_option Elab.async false
set_option linter.all false
/-! PE: how data compare -/
namespace Ev
open PySem L2
@[simp] theorem shp_int (n : Nat) (i : Int) : shp n (.int i) = true := by cases n <;> rfl
@[simp] theorem shp_bool (n : Nat) (b : Bool) : shp n (.bool b) = true := by cases n <;> rfl
@[simp] theorem shp_none (n : Nat) : shp n .none = true := by cases n <;> rfl
@[simp] theorem shp_tuple (n : Nat) (l : List D) : shp (n + 1) (.tuple l) = l.all (shp n) := rfl
@[simp] theorem shp_list (n : Nat) (l : List D) : shp (n + 1) (.list l) = l.all (shp n) := rfl
@[simp] theorem shp_nD (n m : Nat) : shp n (nD m) = true := shp_int _ _
@[simp] theorem shp_pD (n : Nat) (p : P2) : shp (n + 1) (pD p) = true := by simp [pD]
@[simp] theorem eqv_int (a b : Int) : PyData.eqv (.int a) (.int b) = decide (a = b) := by
  unfold PyData.eqv
  by_cases h : a = b
  · subst h; simp
  · rw [decide_eq_false h]; exact beq_eq_false_iff_ne.2 h
@[simp] theorem eqv_bool (a b : Bool) : PyData.eqv (.bool a) (.bool b) = decide (a = b) := by
  cases a <;> cases b <;> simp [PyData.eqv]
@[simp] theorem eqv_tuple (l m : List D) : PyData.eqv (.tuple l) (.tuple m) = PyData.eqvAll l m := by unfold PyData.eqv; rfl
@[simp] theorem eqv_list (l m : List D) : PyData.eqv (.list l) (.list m) = PyData.eqvAll l m := by unfold PyData.eqv; rfl
@[simp] theorem eqvAll_nil : PyData.eqvAll [] [] = true := by unfold PyData.eqvAll; rfl
@[simp] theorem eqvAll_cons (a b : D) (l m : List D) : PyData.eqvAll (a :: l) (b :: m) = (PyData.eqv a b && PyData.eqvAll l m) := by
  rw [PyData.eqvAll]
@[simp] theorem eqvAll_nc (b : D) (m : List D) : PyData.eqvAll [] (b :: m) = false := by
  unfold PyData.eqvAll; rfl
@[simp] theorem eqvAll_cn (b : D) (m : List D) : PyData.eqvAll (b :: m) [] = false := by
  unfold PyData.eqvAll; rfl
theorem eqvAll_map {α : Type} [DecidableEq α] (f : α → D) (h : ∀ a b, PyData.eqv (f a) (f b) = decide (a = b)) : ∀ l m : List α, PyData.eqvAll (l.map f) (m.map f) = decide (l = m)
  | [], [] => by simp
  | [], b :: m => by simp
  | a :: l, [] => by simp
  | a :: l, b :: m => by
    rw [List.map_cons, List.map_cons, eqvAll_cons, h, eqvAll_map f h l m]
    by_cases k : a = b <;> by_cases k' : l = m <;> simp [k, k']
@[simp] theorem eqvAll_ints (l m : List Int) : PyData.eqvAll (l.map .int) (m.map .int) = decide (l = m) := eqvAll_map _ eqv_int l m
@[simp] theorem eqv_nD (a b : Nat) : PyData.eqv (nD a) (nD b) = decide (a = b) := by
  unfold nD
  rw [eqv_int]
  exact decide_eq_decide.2 Int.ofNat_inj
@[simp] theorem eqvAll_nats (l m : List Nat) : PyData.eqvAll (l.map nD) (m.map nD) = decide (l = m) := eqvAll_map _ eqv_nD l m
@[simp] theorem eqv_pD (a b : P2) : PyData.eqv (pD a) (pD b) = decide (a = b) := by
  obtain ⟨a1, a2⟩ := a
  obtain ⟨b1, b2⟩ := b
  simp [pD, Prod.mk.injEq]
@[simp] theorem eqvAll_pairs (l m : List P2) : PyData.eqvAll (l.map pD) (m.map pD) = decide (l = m) := eqvAll_map _ eqv_pD l m
@[simp] theorem eqD_int (a b : Int) : eqD (.int a) (.int b) = some (decide (a = b)) := by simp [eqD]
@[simp] theorem eqSD_int (a b : Int) : eqSD (.int a) (.int b) = some (decide (a = b)) := by simp [eqSD]
@[simp] theorem neSD_int (a b : Int) : neSD (.int a) (.int b) = some (!decide (a = b)) := by simp [neSD, neD]
@[simp] theorem all_shp_int (n : Nat) (l : List Int) : l.all (shp n ∘ PyData.int) = true := by simp [Function.comp_def]
@[simp] theorem all_shp_nD (n : Nat) (l : List Nat) : l.all (shp n ∘ nD) = true := by simp [Function.comp_def]
@[simp] theorem all_shp_pD (n : Nat) (l : List P2) : l.all (shp (n + 1) ∘ pD) = true := by simp [Function.comp_def]
@[simp] theorem all_shp_pD7 (l : List P2) : l.all (shp 7 ∘ pD) = true := all_shp_pD 6 l
end Ev
set_option Elab.async false
set_option linter.all false
/-! PS: slices -/
namespace Ev
open PySem L2
theorem cut_from (xs : List D) (k : Nat) : cutD xs (some (k : Int)) none = xs.drop k := by
  unfold cutD
  rw [HT.sIx_nat, HT.sIx_none]
  rw [List.take_of_length_le (by rw [List.length_drop]; exact Nat.le_refl _)]
  by_cases h : k ≤ xs.length
  · rw [Nat.min_eq_left h]
  · rw [Nat.min_eq_right (by omega), List.drop_length, List.drop_of_length_le (by omega)]
theorem cut_to (xs : List D) (k : Nat) : cutD xs none (some (k : Int)) = xs.take k := by
  unfold cutD
  rw [HT.sIx_nat, HT.sIx_none, List.drop_zero, Nat.sub_zero]
  by_cases h : k ≤ xs.length
  · rw [Nat.min_eq_left h]
  · rw [Nat.min_eq_right (by omega), List.take_length, List.take_of_length_le (by omega)]
theorem cut_one (xs : List D) : cutD xs (some 1) none = xs.drop 1 := cut_from xs 1
end Ev
set_option Elab.async false
set_option linter.all false
set_option maxRecDepth 100000
set_option maxHeartbeats 4000000
/-! PF: loops with what stands at each turn -/
namespace Ev
open PySem L2
variable [Tbs]
section
variable {G : Gx} {N : List Str} {nio : Nat} {α S : Type}
theorem forF_ex (tg : STg G N) (body : List (SS G N nio)) (enc : α → D) (rep : S → Rho) (I : S → List α → Prop) : ∀ (l : List α) (s : S), I s l →
    (∀ s a r, I s (a :: r) → ∃ s', I s' r ∧ ∃ ρ1, tg.st (enc a) (rep s) = some ρ1 ∧ exB body ρ1 = some (.nx, rep s')) → ∃ s', I s' [] ∧ forF tg body (l.map enc) (rep s) = some (.nx, rep s')
  | [], s, i, _ => ⟨s, i, rfl⟩
  | a :: l, s, i, h => by
    obtain ⟨s', h0, ρ1, h1, h2⟩ := h s a l i
    obtain ⟨s2, i2, e⟩ := forF_ex tg body enc rep I l s' h0 h
    refine ⟨s2, i2, ?_⟩
    rw [List.map_cons]
    unfold forF
    rw [h1]
    show ((exB body ρ1).bind _) = _
    rw [h2]
    exact e
theorem forF_ret (tg : STg G N) (body : List (SS G N nio)) (enc : α → D) (rep : S → Rho) (I : S → List α → Prop) (V : R → Rho → Prop) (no : ∀ s, ¬ I s []) : ∀ (l : List α) (s : S), I s l →
    (∀ s a r, I s (a :: r) → (∃ s', I s' r ∧ ∃ ρ1, tg.st (enc a) (rep s) = some ρ1 ∧ exB body ρ1 = some (.nx, rep s')) ∨ (∃ ρ1 v ρ2, tg.st (enc a) (rep s) = some ρ1 ∧ exB body ρ1 = some (.rt v, ρ2) ∧ V v ρ2)) → ∃ v ρ2, V v ρ2 ∧ forF tg body (l.map enc) (rep s) = some (.rt v, ρ2)
  | [], s, i, _ => absurd i (no s)
  | a :: l, s, i, h => by
    rw [List.map_cons]
    unfold forF
    rcases h s a l i with ⟨s', h0, ρ1, h1, h2⟩ | ⟨ρ1, v, ρ2, h1, h2, h3⟩
    · obtain ⟨v, ρ2, hv, e⟩ := forF_ret tg body enc rep I V no l s' h0 h
      refine ⟨v, ρ2, hv, ?_⟩
      rw [h1]
      show ((exB body ρ1).bind _) = _
      rw [h2]
      exact e
    · refine ⟨v, ρ2, h3, ?_⟩
      rw [h1]
      show ((exB body ρ1).bind _) = _
      rw [h2]
      rfl
/-- a loop over the numbers from 0 on -/
theorem forF_rng (tg : STg G N) (body : List (SS G N nio)) (f : Nat → D) (rep : S → Rho) (I : S → Nat → Prop) (n : Nat) (s : S) (h0 : I s 0)
    (h : ∀ s i, i < n → I s i → ∃ s', I s' (i + 1) ∧ ∃ ρ1, tg.st (f i) (rep s) = some ρ1 ∧ exB body ρ1 = some (.nx, rep s')) : ∃ s', I s' n ∧ forF tg body ((List.range n).map f) (rep s) = some (.nx, rep s') := by
  obtain ⟨s', ⟨i, h1, h2, h3⟩, e⟩ := forF_ex tg body f rep (fun s r => ∃ i, i ≤ n ∧ r = (List.range n).drop i ∧ I s i) (List.range n) s ⟨0, Nat.zero_le _, rfl, h0⟩ (by
    rintro s a r ⟨i, h1, h2, h3⟩
    have hi : i < n := by
      have := congrArg List.length h2
      simp at this
      omega
    rw [List.drop_eq_getElem_cons (by simpa using hi)] at h2
    obtain ⟨ha, hr⟩ := List.cons.inj h2
    rw [List.getElem_range] at ha
    obtain ⟨s', q1, q2⟩ := h s i hi h3
    exact ⟨s', ⟨i + 1, hi, hr, q1⟩, by rw [ha]; exact q2⟩)
  have : i = n := by
    have := congrArg List.length h2
    simp at this
    omega
  subst this
  exact ⟨s', h3, e⟩
end
theorem enum_rng (f : Nat → D) (n : Nat) : enumL 0 ((List.range n).map f) = (List.range n).map fun i => .tuple [nD i, f i] := by
  rw [enumL_map]
  apply List.ext_getElem
  · simp
  · intro i h1 h2
    simp [nD]
theorem zip_rng (f g : Nat → D) (n : Nat) : zipL ((List.range n).map f) ((List.range n).map g) = (List.range n).map fun i => .tuple [f i, g i] := by
  rw [zipL_map]
  apply List.ext_getElem
  · simp
  · intro i h1 h2
    simp
theorem at_rng (f : Nat → D) (n i : Nat) (h : i < n) : atI ((List.range n).map f) (i : Int) = some (f i) := by
  refine atI_nat ?_
  rw [List.getElem?_map, List.getElem?_range h]
  rfl
theorem small_eq {n : Nat} (h : n ≤ 100000) : small n = true := decide_eq_true h
/-! ### ranges, with bounds that nothing unfolds -/
def okQ (i : Int) : Bool := okR i
theorem okQ_of {i : Int} (h1 : -1000 ≤ i) (h2 : i ≤ 1000) : okQ i = true := by
  unfold okQ okR
  rw [Bool.and_eq_true]
  exact ⟨decide_eq_true h1, decide_eq_true h2⟩
def rngP (p : List D × Rho) : Option (List D × Rho) := match p.1 with
  | [.int n] => match okR n with
    | true => some (rangeD 0 n.toNat, p.2)
    | false => none
  | [.int a, .int b] => match okR a && okR b with
    | true => some (rangeD a (b - a).toNat, p.2)
    | false => none
  | _ => none
section
variable {G : Gx} {N : List Str}
@[simp] theorem ev_rng (xs : List (SX G N)) (ρ : Rho) : (iRange (G := G) (N := N) xs).ev ρ = (evDs xs ρ).bind rngP := rfl
end
@[simp] theorem rngP2 (a b : Int) (ρ : Rho) (ha : okQ a = true) (hb : okQ b = true) : rngP ([.int a, .int b], ρ) = some (rangeD a (b - a).toNat, ρ) := by
  have ha : okR a = true := ha
  have hb : okR b = true := hb
  show (match okR a && okR b with
    | true => some (rangeD a (b - a).toNat, ρ)
    | false => none) = _
  rw [ha, hb]
  rfl
theorem rngP1' (a : Int) (ρ : Rho) (ha : okQ a = true) : rngP ([.int a], ρ) = some (rangeD 0 a.toNat, ρ) := by
  have ha : okR a = true := ha
  show (match okR a with
    | true => some (rangeD 0 a.toNat, ρ)
    | false => none) = _
  rw [ha]
@[simp] theorem rngP1 (n : Nat) (ρ : Rho) (h : n ≤ 1000) : rngP ([.int (n : Int)], ρ) = some ((List.range n).map nD, ρ) := by
  rw [rngP1' _ _ (okQ_of (by omega) (by omega)), Int.toNat_natCast, rangeD_nat]
end Ev
set_option Elab.async false
set_option linter.all false
set_option maxRecDepth 100000
set_option maxHeartbeats 0
namespace H88
open PySem PySem.Spec PyProof.Rows L2
abbrev PW : Program := PySem.Challenge.pw_leastendwithcuts_k88_whole_flows_put_tog
def top (i : Nat) : Stmt := PW.main.body.getD i (.Pass ⟨0, 0, 0, 0⟩)
abbrev s_is_int : Stmt := top 8
abbrev s_are_ints : Stmt := top 9
abbrev s_is_rising : Stmt := top 10
abbrev s_is_work : Stmt := top 18
abbrev s_is_window : Stmt := top 19
abbrev s_is_row : Stmt := top 20
abbrev s_is_shop : Stmt := top 21
abbrev s_look_at_shop : Stmt := top 22
abbrev s_look_at_hand : Stmt := top 23
abbrev s_told_on : Stmt := top 24
abbrev s_told_pairs : Stmt := top 25
abbrev s_load_of : Stmt := top 26
abbrev s_are_jobs : Stmt := top 27
abbrev s_shop_of_jobs : Stmt := top 28
abbrev s_are_flows : Stmt := top 31
abbrev s_look_at_flows : Stmt := top 32
abbrev s_told_sequence : Stmt := top 33
abbrev s_told_flow_end : Stmt := top 34
abbrev s_best_sequence : Stmt := top 35
abbrev s_flow_end : Stmt := top 36
abbrev s_least_flow_end : Stmt := top 37
abbrev s_is_best_sequence : Stmt := top 38
abbrev s_told_turn : Stmt := top 39
abbrev s_turn_of : Stmt := top 40
abbrev s_flow_shop : Stmt := top 41
abbrev s_told_row_steps : Stmt := top 48
abbrev s_told_end_steps : Stmt := top 49
abbrev s_told_order_steps : Stmt := top 50
abbrev s_told_steps : Stmt := top 51
abbrev s_told_far : Stmt := top 52
abbrev s_told_starts : Stmt := top 53
abbrev s_are_starts : Stmt := top 58
abbrev s_look_at_starts : Stmt := top 59
abbrev s_told_wrongs : Stmt := top 60
abbrev s_is_right : Stmt := top 61
abbrev s_is_plan : Stmt := top 62
abbrev s_look_at_plan : Stmt := top 63
abbrev s_told_end : Stmt := top 64
abbrev s_end_of : Stmt := top 65
abbrev s_told_next_orders : Stmt := top 66
abbrev s_pressed : Stmt := top 67
abbrev s__law_pot : Stmt := top 69
abbrev s__law_take : Stmt := top 70
abbrev s__law_of : Stmt := top 71
abbrev s__law_cells : Stmt := top 72
abbrev s__law_some : Stmt := top 73
abbrev s__law_drawn : Stmt := top 74
abbrev s__law_end : Stmt := top 75
abbrev s__law_rule : Stmt := top 76
abbrev s__law_starts : Stmt := top 77
abbrev s__law_is_order_right : Stmt := top 78
abbrev s__law_right : Stmt := top 79
abbrev s_law : Stmt := top 80
def d_is_int : He.DefD := ⟨("is_int", none), "is_int", "is_int", defArgs s_is_int, defBody s_is_int, defScope s_is_int, [], []⟩
def d_are_ints : He.DefD := ⟨("are_ints", none), "are_ints", "are_ints", defArgs s_are_ints, defBody s_are_ints, defScope s_are_ints, [], []⟩
def d_is_rising : He.DefD := ⟨("is_rising", none), "is_rising", "is_rising", defArgs s_is_rising, defBody s_is_rising, defScope s_is_rising, [], []⟩
def d_is_work : He.DefD := ⟨("is_work", none), "is_work", "is_work", defArgs s_is_work, defBody s_is_work, defScope s_is_work, [], []⟩
def d_is_window : He.DefD := ⟨("is_window", none), "is_window", "is_window", defArgs s_is_window, defBody s_is_window, defScope s_is_window, [], []⟩
def d_is_row : He.DefD := ⟨("is_row", none), "is_row", "is_row", defArgs s_is_row, defBody s_is_row, defScope s_is_row, [], []⟩
def d_is_shop : He.DefD := ⟨("is_shop", none), "is_shop", "is_shop", defArgs s_is_shop, defBody s_is_shop, defScope s_is_shop, [], []⟩
def d_look_at_shop : He.DefD := ⟨("look_at_shop", none), "look_at_shop", "look_at_shop", defArgs s_look_at_shop, defBody s_look_at_shop, defScope s_look_at_shop, [], []⟩
def d_look_at_hand : He.DefD := ⟨("look_at_hand", none), "look_at_hand", "look_at_hand", defArgs s_look_at_hand, defBody s_look_at_hand, defScope s_look_at_hand, [], []⟩
def d_told_on : He.DefD := ⟨("told_on", none), "told_on", "told_on", defArgs s_told_on, defBody s_told_on, defScope s_told_on, [], []⟩
def d_told_pairs : He.DefD := ⟨("told_pairs", none), "told_pairs", "told_pairs", defArgs s_told_pairs, defBody s_told_pairs, defScope s_told_pairs, [], []⟩
def d_load_of : He.DefD := ⟨("load_of", none), "load_of", "load_of", defArgs s_load_of, defBody s_load_of, defScope s_load_of, [], []⟩
def d_are_jobs : He.DefD := ⟨("are_jobs", none), "are_jobs", "are_jobs", defArgs s_are_jobs, defBody s_are_jobs, defScope s_are_jobs, [], []⟩
def d_shop_of_jobs : He.DefD := ⟨("shop_of_jobs", none), "shop_of_jobs", "shop_of_jobs", defArgs s_shop_of_jobs, defBody s_shop_of_jobs, defScope s_shop_of_jobs, [], []⟩
def d_are_flows : He.DefD := ⟨("are_flows", none), "are_flows", "are_flows", defArgs s_are_flows, defBody s_are_flows, defScope s_are_flows, [], []⟩
def d_look_at_flows : He.DefD := ⟨("look_at_flows", none), "look_at_flows", "look_at_flows", defArgs s_look_at_flows, defBody s_look_at_flows, defScope s_look_at_flows, [], []⟩
def d_told_sequence : He.DefD := ⟨("told_sequence", none), "told_sequence", "told_sequence", defArgs s_told_sequence, defBody s_told_sequence, defScope s_told_sequence, [], []⟩
def d_told_flow_end : He.DefD := ⟨("told_flow_end", none), "told_flow_end", "told_flow_end", defArgs s_told_flow_end, defBody s_told_flow_end, defScope s_told_flow_end, [], []⟩
def d_best_sequence : He.DefD := ⟨("best_sequence", none), "best_sequence", "best_sequence", defArgs s_best_sequence, defBody s_best_sequence, defScope s_best_sequence, [], []⟩
def d_flow_end : He.DefD := ⟨("flow_end", none), "flow_end", "flow_end", defArgs s_flow_end, defBody s_flow_end, defScope s_flow_end, [], []⟩
def d_least_flow_end : He.DefD := ⟨("least_flow_end", none), "least_flow_end", "least_flow_end", defArgs s_least_flow_end, defBody s_least_flow_end, defScope s_least_flow_end, [], []⟩
def d_is_best_sequence : He.DefD := ⟨("is_best_sequence", none), "is_best_sequence", "is_best_sequence", defArgs s_is_best_sequence, defBody s_is_best_sequence, defScope s_is_best_sequence, [], []⟩
def d_told_turn : He.DefD := ⟨("told_turn", none), "told_turn", "told_turn", defArgs s_told_turn, defBody s_told_turn, defScope s_told_turn, [], []⟩
def d_turn_of : He.DefD := ⟨("turn_of", none), "turn_of", "turn_of", defArgs s_turn_of, defBody s_turn_of, defScope s_turn_of, [], []⟩
def d_flow_shop : He.DefD := ⟨("flow_shop", none), "flow_shop", "flow_shop", defArgs s_flow_shop, defBody s_flow_shop, defScope s_flow_shop, [], []⟩
def d_told_row_steps : He.DefD := ⟨("told_row_steps", none), "told_row_steps", "told_row_steps", defArgs s_told_row_steps, defBody s_told_row_steps, defScope s_told_row_steps, [], []⟩
def d_told_end_steps : He.DefD := ⟨("told_end_steps", none), "told_end_steps", "told_end_steps", defArgs s_told_end_steps, defBody s_told_end_steps, defScope s_told_end_steps, [], []⟩
def d_told_order_steps : He.DefD := ⟨("told_order_steps", none), "told_order_steps", "told_order_steps", defArgs s_told_order_steps, defBody s_told_order_steps, defScope s_told_order_steps, [], []⟩
def d_told_steps : He.DefD := ⟨("told_steps", none), "told_steps", "told_steps", defArgs s_told_steps, defBody s_told_steps, defScope s_told_steps, [], []⟩
def d_told_far : He.DefD := ⟨("told_far", none), "told_far", "told_far", defArgs s_told_far, defBody s_told_far, defScope s_told_far, [], []⟩
def d_told_starts : He.DefD := ⟨("told_starts", none), "told_starts", "told_starts", defArgs s_told_starts, defBody s_told_starts, defScope s_told_starts, [], []⟩
def d_are_starts : He.DefD := ⟨("are_starts", none), "are_starts", "are_starts", defArgs s_are_starts, defBody s_are_starts, defScope s_are_starts, [], []⟩
def d_look_at_starts : He.DefD := ⟨("look_at_starts", none), "look_at_starts", "look_at_starts", defArgs s_look_at_starts, defBody s_look_at_starts, defScope s_look_at_starts, [], []⟩
def d_told_wrongs : He.DefD := ⟨("told_wrongs", none), "told_wrongs", "told_wrongs", defArgs s_told_wrongs, defBody s_told_wrongs, defScope s_told_wrongs, [], []⟩
def d_is_right : He.DefD := ⟨("is_right", none), "is_right", "is_right", defArgs s_is_right, defBody s_is_right, defScope s_is_right, [], []⟩
def d_is_plan : He.DefD := ⟨("is_plan", none), "is_plan", "is_plan", defArgs s_is_plan, defBody s_is_plan, defScope s_is_plan, [], []⟩
def d_look_at_plan : He.DefD := ⟨("look_at_plan", none), "look_at_plan", "look_at_plan", defArgs s_look_at_plan, defBody s_look_at_plan, defScope s_look_at_plan, [], []⟩
def d_told_end : He.DefD := ⟨("told_end", none), "told_end", "told_end", defArgs s_told_end, defBody s_told_end, defScope s_told_end, [], []⟩
def d_end_of : He.DefD := ⟨("end_of", none), "end_of", "end_of", defArgs s_end_of, defBody s_end_of, defScope s_end_of, [], []⟩
def d_told_next_orders : He.DefD := ⟨("told_next_orders", none), "told_next_orders", "told_next_orders", defArgs s_told_next_orders, defBody s_told_next_orders, defScope s_told_next_orders, [], []⟩
def d_pressed : He.DefD := ⟨("pressed", none), "pressed", "pressed", defArgs s_pressed, defBody s_pressed, defScope s_pressed, [], []⟩
def d__law_pot : He.DefD := ⟨("_law_pot", none), "_law_pot", "_law_pot", defArgs s__law_pot, defBody s__law_pot, defScope s__law_pot, [], []⟩
def d__law_take : He.DefD := ⟨("_law_take", none), "_law_take", "_law_take", defArgs s__law_take, defBody s__law_take, defScope s__law_take, [], []⟩
def d__law_of : He.DefD := ⟨("_law_of", none), "_law_of", "_law_of", defArgs s__law_of, defBody s__law_of, defScope s__law_of, [], []⟩
def d__law_cells : He.DefD := ⟨("_law_cells", none), "_law_cells", "_law_cells", defArgs s__law_cells, defBody s__law_cells, defScope s__law_cells, [], []⟩
def d__law_some : He.DefD := ⟨("_law_some", none), "_law_some", "_law_some", defArgs s__law_some, defBody s__law_some, defScope s__law_some, [], []⟩
def d__law_drawn : He.DefD := ⟨("_law_drawn", none), "_law_drawn", "_law_drawn", defArgs s__law_drawn, defBody s__law_drawn, defScope s__law_drawn, [], []⟩
def d__law_end : He.DefD := ⟨("_law_end", none), "_law_end", "_law_end", defArgs s__law_end, defBody s__law_end, defScope s__law_end, [], []⟩
def d__law_rule : He.DefD := ⟨("_law_rule", none), "_law_rule", "_law_rule", defArgs s__law_rule, defBody s__law_rule, defScope s__law_rule, [], []⟩
def d__law_starts : He.DefD := ⟨("_law_starts", none), "_law_starts", "_law_starts", defArgs s__law_starts, defBody s__law_starts, defScope s__law_starts, [], []⟩
def d__law_is_order_right : He.DefD := ⟨("_law_is_order_right", none), "_law_is_order_right", "_law_is_order_right", defArgs s__law_is_order_right, defBody s__law_is_order_right, defScope s__law_is_order_right, [], []⟩
def d__law_right : He.DefD := ⟨("_law_right", none), "_law_right", "_law_right", defArgs s__law_right, defBody s__law_right, defScope s__law_right, [], []⟩
def d_law : He.DefD := ⟨("law", none), "law", "law", defArgs s_law, defBody s_law, defScope s_law, [], []⟩
def fn : List He.DefD := ([d_is_int, d_are_ints, d_is_rising, d_is_work, d_is_window, d_is_row, d_is_shop, d_look_at_shop, d_look_at_hand, d_told_on, d_told_pairs, d_load_of, d_are_jobs, d_shop_of_jobs, d_are_flows, d_look_at_flows] : List He.DefD) ++ ([d_told_sequence, d_told_flow_end, d_best_sequence, d_flow_end, d_least_flow_end, d_is_best_sequence, d_told_turn, d_turn_of, d_flow_shop, d_told_row_steps, d_told_end_steps, d_told_order_steps, d_told_steps, d_told_far, d_told_starts, d_are_starts] : List He.DefD) ++ ([d_look_at_starts, d_told_wrongs, d_is_right, d_is_plan, d_look_at_plan, d_told_end, d_end_of, d_told_next_orders, d_pressed, d__law_pot, d__law_take, d__law_of, d__law_cells, d__law_some, d__law_drawn, d__law_end] : List He.DefD) ++ ([d__law_rule, d__law_starts, d__law_is_order_right, d__law_right, d_law] : List He.DefD)
def fa : List He.Fa := ([.glo "is_int", .glo "are_ints", .glo "is_rising", .glo "is_work", .glo "is_window", .glo "is_row", .glo "is_shop", .glo "look_at_shop", .glo "look_at_hand", .glo "told_on", .glo "told_pairs", .glo "load_of", .glo "are_jobs", .glo "shop_of_jobs", .glo "are_flows", .glo "look_at_flows"] : List He.Fa) ++ ([.glo "told_sequence", .glo "told_flow_end", .glo "best_sequence", .glo "flow_end", .glo "least_flow_end", .glo "is_best_sequence", .glo "told_turn", .glo "turn_of", .glo "flow_shop", .glo "told_row_steps", .glo "told_end_steps", .glo "told_order_steps", .glo "told_steps", .glo "told_far", .glo "told_starts", .glo "are_starts"] : List He.Fa) ++ ([.glo "look_at_starts", .glo "told_wrongs", .glo "is_right", .glo "is_plan", .glo "look_at_plan", .glo "told_end", .glo "end_of", .glo "told_next_orders", .glo "pressed", .glo "_law_pot", .glo "_law_take", .glo "_law_of", .glo "_law_cells", .glo "_law_some", .glo "_law_drawn", .glo "_law_end"] : List He.Fa) ++ ([.glo "_law_rule", .glo "_law_starts", .glo "_law_is_order_right", .glo "_law_right", .glo "law", .free "ValueError", .free "abs", .free "all", .free "bool", .free "enumerate", .free "int", .free "isinstance", .free "len", .free "list", .free "max", .free "min"] : List He.Fa) ++ ([.free "range", .free "repr", .free "sorted", .free "sum", .free "super", .free "tuple", .free "zip", .int "MOST_HANDS" (8), .int "MOST_WORKS" (24), .int "MOST_LENGTH" (1000), .int "MOST_TIME" (1000000), .int "MOST_ROWS" (100), .int "FOUR" (4), .int "MOST_JOBS" (12), .str "ROW" "row", .str "EARLY" "early"] : List He.Fa) ++ ([.str "LATE" "late", .str "END" "end", .str "AHEAD" "ahead", .str "WINDOW" "window", .str "BEHIND" "row", .str "CLASH" "clash"] : List He.Fa)
abbrev R : PySem.W.OpenRow := PySem.W.OpenLaw.row PySem.Challenge.rw_leastendwithcuts_k88_whole_flows_put_tog
def tf : List He.Defn := [("told_next_orders", none)]
abbrev hk : PySem.W.Hook := He.hookL 5 fa fn tf
def ob (s : PySem.W.SharedT) : He.AlD × Bool := He.obsL 5 fa fn tf (HandSHeadRun.getT s)
theorem ob_eq (s : PySem.W.SharedT) : ob s = hk.obs s.abs := He.obsL_eq (HandSHeadRun.getT_eq s)
def loose : List PySem.Str := (["ShopError", "BadInt", "BadShop", "BadHand", "BadPlan", "BadJobs", "is_int", "are_ints", "is_rising", "MOST_HANDS", "MOST_WORKS", "MOST_LENGTH", "MOST_TIME", "MOST_ROWS", "FOUR", "is_work"] : List PySem.Str) ++ (["is_window", "is_row", "is_shop", "look_at_shop", "look_at_hand", "told_on", "told_pairs", "load_of", "are_jobs", "shop_of_jobs", "MOST_JOBS", "are_flows", "look_at_flows", "told_sequence", "told_flow_end", "best_sequence"] : List PySem.Str) ++ (["flow_end", "least_flow_end", "is_best_sequence", "told_turn", "turn_of", "flow_shop", "ROW", "EARLY", "LATE", "END", "AHEAD", "told_row_steps", "told_end_steps", "told_order_steps", "told_steps", "told_far"] : List PySem.Str) ++ (["told_starts", "WINDOW", "BEHIND", "CLASH", "are_starts", "look_at_starts", "told_wrongs", "is_right", "is_plan", "look_at_plan", "told_end", "end_of", "told_next_orders", "pressed", "_law_pot", "_law_take"] : List PySem.Str) ++ (["_law_of", "_law_cells", "_law_some", "_law_drawn", "_law_end", "_law_rule", "_law_starts", "_law_is_order_right", "_law_right"] : List PySem.Str)
theorem run (w : World) : HandSHeadRun.RunEq R (PySem.W.view R.prog [80]) hk ob 20000 loose w := by
  intro os
  kernel_rfl
end H88
set_option Elab.async false
set_option linter.all false
set_option maxRecDepth 100000
set_option maxHeartbeats 4000000
/-! printed by gen.py: the defs as combinators -/
namespace B88
open PySem L2 Ev
section
variable [Tbs]
/-! ### is_int -/
def N_is_int : List Str := ["value", "low", "high"]
def G_is_int : Gx := ⟨[], ["isinstance", "int", "bool"], [], none⟩
def B_is_int : List (SS G_is_int N_is_int 0) := [(xRet (sAnd [(sIsi (sVar 0) .int), (sNot (sIsi (sVar 0) .bool)), (sChain .LtE .LtE leD leD le_ok le_ok (sVar 1) (sVar 0) (sVar 2))]))]
def M_is_int : FnSem := semD 3 B_is_int
theorem len_is_int : N_is_int.length = 3 := rfl
@[simp] theorem fns_is_int : G_is_int.fns = ([] : List (Str × FnSem)) := rfl
@[simp] theorem cs_is_int : G_is_int.cs = ([] : List (Str × D)) := rfl
@[simp] theorem init_is_int (a0 a1 a2 : D) : initR N_is_int.length [a0, a1, a2] = [Slot.va a0, Slot.va a1, Slot.va a2] := rfl
@[simp] theorem nio_is_int : M_is_int.nio = false := rfl
/-! ### are_ints -/
def N_are_ints : List Str := ["value", "low", "high", "one"]
def G_are_ints : Gx := ⟨[("is_int", M_is_int)], ["isinstance", "tuple", "all"], [], none⟩
def B_are_ints : List (SS G_are_ints N_are_ints 0) := [(xRet (sAnd [(sIsi (sVar 0) .tuple), (sBlt bAll [(sLc [("one", 3)] (gNm 3) (iSeq (sVar 0)) none (sCall 0 [(sVar 3), (sVar 1), (sVar 2)]))])]))]
def M_are_ints : FnSem := semD 3 B_are_ints
theorem len_are_ints : N_are_ints.length = 4 := rfl
@[simp] theorem fns_are_ints : G_are_ints.fns = ([("is_int", M_is_int)] : List (Str × FnSem)) := rfl
@[simp] theorem cs_are_ints : G_are_ints.cs = ([] : List (Str × D)) := rfl
@[simp] theorem init_are_ints (a0 a1 a2 : D) : initR N_are_ints.length [a0, a1, a2] = [Slot.va a0, Slot.va a1, Slot.va a2, Slot.un] := rfl
@[simp] theorem nio_are_ints : M_are_ints.nio = false := rfl
/-! ### is_rising -/
def N_is_rising : List Str := ["some", "one", "other"]
def G_is_rising : Gx := ⟨[], ["all", "zip"], [], none⟩
def B_is_rising : List (SS G_is_rising N_is_rising 0) := [(xRet (sBlt bAll [(sLc [("one", 1), ("other", 2)] (gTp [(gNm 1), (gNm 2)]) (iZip (sVar 0) (sSl (sVar 0) (some (sCon (.int 1))) none)) none (sCmp .Lt ltD lt_ok (sVar 1) (sVar 2)))]))]
def M_is_rising : FnSem := semD 1 B_is_rising
theorem len_is_rising : N_is_rising.length = 3 := rfl
@[simp] theorem fns_is_rising : G_is_rising.fns = ([] : List (Str × FnSem)) := rfl
@[simp] theorem cs_is_rising : G_is_rising.cs = ([] : List (Str × D)) := rfl
@[simp] theorem init_is_rising (a0 : D) : initR N_is_rising.length [a0] = [Slot.va a0, Slot.un, Slot.un] := rfl
@[simp] theorem nio_is_rising : M_is_rising.nio = false := rfl
/-! ### is_work -/
def N_is_work : List Str := ["value", "hands"]
def G_is_work : Gx := ⟨[("are_ints", M_are_ints)], ["len"], [("MOST_LENGTH", (.int 1000))], none⟩
def B_is_work : List (SS G_is_work N_is_work 0) := [(xRet (sAnd [(sCall 0 [(sVar 0), (sCon (.int 0)), (sGl 0)]), (sCmp .Eq eqSD eqS_ok (sBlt bLen [(sVar 0)]) (sCon (.int 2))), (sCmp .Lt ltD lt_ok (sIx (sVar 0) (sCon (.int 0))) (sVar 1)), (sCmp .GtE geD ge_ok (sIx (sVar 0) (sCon (.int 1))) (sCon (.int 1)))]))]
def M_is_work : FnSem := semD 2 B_is_work
theorem len_is_work : N_is_work.length = 2 := rfl
@[simp] theorem fns_is_work : G_is_work.fns = ([("are_ints", M_are_ints)] : List (Str × FnSem)) := rfl
@[simp] theorem cs_is_work : G_is_work.cs = ([("MOST_LENGTH", (.int 1000))] : List (Str × D)) := rfl
@[simp] theorem init_is_work (a0 a1 : D) : initR N_is_work.length [a0, a1] = [Slot.va a0, Slot.va a1] := rfl
@[simp] theorem nio_is_work : M_is_work.nio = false := rfl
/-! ### is_window -/
def N_is_window : List Str := ["value"]
def G_is_window : Gx := ⟨[("are_ints", M_are_ints)], ["len"], [("MOST_TIME", (.int 1000000))], none⟩
def B_is_window : List (SS G_is_window N_is_window 0) := [(xRet (sAnd [(sCall 0 [(sVar 0), (sCon (.int 0)), (sGl 0)]), (sCmp .Eq eqSD eqS_ok (sBlt bLen [(sVar 0)]) (sCon (.int 2))), (sCmp .LtE leD le_ok (sIx (sVar 0) (sCon (.int 0))) (sIx (sVar 0) (sCon (.int 1))))]))]
def M_is_window : FnSem := semD 1 B_is_window
theorem len_is_window : N_is_window.length = 1 := rfl
@[simp] theorem fns_is_window : G_is_window.fns = ([("are_ints", M_are_ints)] : List (Str × FnSem)) := rfl
@[simp] theorem cs_is_window : G_is_window.cs = ([("MOST_TIME", (.int 1000000))] : List (Str × D)) := rfl
@[simp] theorem init_is_window (a0 : D) : initR N_is_window.length [a0] = [Slot.va a0] := rfl
@[simp] theorem nio_is_window : M_is_window.nio = false := rfl
/-! ### is_row -/
def N_is_row : List Str := ["value", "works"]
def G_is_row : Gx := ⟨[("are_ints", M_are_ints), ("is_int", M_is_int)], ["isinstance", "tuple", "len"], [("MOST_TIME", (.int 1000000))], none⟩
def B_is_row : List (SS G_is_row N_is_row 0) := [(xIf (tOrs [(tNot (tVal (sIsi (sVar 0) .tuple))), (tCmp .NotEq neSD neS_ok (sBlt bLen [(sVar 0)]) (sBin .Add addD add_ok (sCon (.int 2)) (sCon (.int 1)))), (tNot (tVal (sCall 0 [(sSl (sVar 0) none (some (sCon (.int 2)))), (sCon (.int 0)), (sBin .Sub subD sub_ok (sVar 1) (sCon (.int 1)))])))]) [(xRet (sCon (.bool false)))] []), (xRet (sAnd [(sCmp .NotEq neSD neS_ok (sIx (sVar 0) (sCon (.int 0))) (sIx (sVar 0) (sCon (.int 1)))), (sCall 1 [(sIx (sVar 0) (sCon (.int 2))), (sNeg (sGl 0)), (sGl 0)])]))]
def M_is_row : FnSem := semD 2 B_is_row
theorem len_is_row : N_is_row.length = 2 := rfl
@[simp] theorem fns_is_row : G_is_row.fns = ([("are_ints", M_are_ints), ("is_int", M_is_int)] : List (Str × FnSem)) := rfl
@[simp] theorem cs_is_row : G_is_row.cs = ([("MOST_TIME", (.int 1000000))] : List (Str × D)) := rfl
@[simp] theorem init_is_row (a0 a1 : D) : initR N_is_row.length [a0, a1] = [Slot.va a0, Slot.va a1] := rfl
@[simp] theorem nio_is_row : M_is_row.nio = false := rfl
/-! ### is_shop -/
def N_is_shop : List Str := ["value", "row", "part", "work", "window"]
def G_is_shop : Gx := ⟨[("is_int", M_is_int), ("is_work", M_is_work), ("is_window", M_is_window), ("is_row", M_is_row), ("is_rising", M_is_rising)], ["isinstance", "tuple", "len", "all"], [("FOUR", (.int 4)), ("MOST_HANDS", (.int 8)), ("MOST_WORKS", (.int 24)), ("MOST_ROWS", (.int 100))], none⟩
def B_is_shop : List (SS G_is_shop N_is_shop 0) := [(xIf (tOrs [(tNot (tVal (sIsi (sVar 0) .tuple))), (tCmp .NotEq neSD neS_ok (sBlt bLen [(sVar 0)]) (sGl 0)), (tNot (tVal (sCall 0 [(sIx (sVar 0) (sCon (.int 0))), (sCon (.int 1)), (sGl 1)])))]) [(xRet (sCon (.bool false)))] []), (xIf (tOrs [(tNot (tVal (sBlt bAll [(sLc [("part", 2)] (gNm 2) (iSeq (sSl (sVar 0) (some (sCon (.int 1))) none)) none (sIsi (sVar 2) .tuple))]))), (tCmp .Gt gtD gt_ok (sBlt bLen [(sIx (sVar 0) (sCon (.int 1)))]) (sGl 2))]) [(xRet (sCon (.bool false)))] []), (xIf (tOrs [(tNot (tVal (sBlt bAll [(sLc [("work", 3)] (gNm 3) (iSeq (sIx (sVar 0) (sCon (.int 1)))) none (sCall 1 [(sVar 3), (sIx (sVar 0) (sCon (.int 0)))]))]))), (tCmp .NotEq neSD neS_ok (sBlt bLen [(sIx (sVar 0) (sCon (.int 2)))]) (sBlt bLen [(sIx (sVar 0) (sCon (.int 1)))]))]) [(xRet (sCon (.bool false)))] []), (xIf (tOrs [(tNot (tVal (sBlt bAll [(sLc [("window", 4)] (gNm 4) (iSeq (sIx (sVar 0) (sCon (.int 2)))) none (sCall 2 [(sVar 4)]))]))), (tCmp .Gt gtD gt_ok (sBlt bLen [(sIx (sVar 0) (sNeg (sCon (.int 1))))]) (sGl 3))]) [(xRet (sCon (.bool false)))] []), (xRet (sAnd [(sBlt bAll [(sLc [("row", 1)] (gNm 1) (iSeq (sIx (sVar 0) (sNeg (sCon (.int 1))))) none (sCall 3 [(sVar 1), (sBlt bLen [(sIx (sVar 0) (sCon (.int 1)))])]))]), (sCall 4 [(sIx (sVar 0) (sNeg (sCon (.int 1))))])]))]
def M_is_shop : FnSem := semD 1 B_is_shop
theorem len_is_shop : N_is_shop.length = 5 := rfl
@[simp] theorem fns_is_shop : G_is_shop.fns = ([("is_int", M_is_int), ("is_work", M_is_work), ("is_window", M_is_window), ("is_row", M_is_row), ("is_rising", M_is_rising)] : List (Str × FnSem)) := rfl
@[simp] theorem cs_is_shop : G_is_shop.cs = ([("FOUR", (.int 4)), ("MOST_HANDS", (.int 8)), ("MOST_WORKS", (.int 24)), ("MOST_ROWS", (.int 100))] : List (Str × D)) := rfl
@[simp] theorem init_is_shop (a0 : D) : initR N_is_shop.length [a0] = [Slot.va a0, Slot.un, Slot.un, Slot.un, Slot.un] := rfl
@[simp] theorem nio_is_shop : M_is_shop.nio = false := rfl
/-! ### look_at_shop -/
def N_look_at_shop : List Str := ["shop"]
def G_look_at_shop : Gx := ⟨[("is_shop", M_is_shop)], [], [], none⟩
def B_look_at_shop : List (SS G_look_at_shop N_look_at_shop 0) := [(xIf (tNot (tVal (sCall 0 [(sVar 0)]))) [xDead] [])]
def M_look_at_shop : FnSem := semD 1 B_look_at_shop
theorem len_look_at_shop : N_look_at_shop.length = 1 := rfl
@[simp] theorem fns_look_at_shop : G_look_at_shop.fns = ([("is_shop", M_is_shop)] : List (Str × FnSem)) := rfl
@[simp] theorem cs_look_at_shop : G_look_at_shop.cs = ([] : List (Str × D)) := rfl
@[simp] theorem init_look_at_shop (a0 : D) : initR N_look_at_shop.length [a0] = [Slot.va a0] := rfl
@[simp] theorem nio_look_at_shop : M_look_at_shop.nio = false := rfl
/-! ### look_at_hand -/
def N_look_at_hand : List Str := ["shop", "hand"]
def G_look_at_hand : Gx := ⟨[("is_int", M_is_int)], [], [], none⟩
def B_look_at_hand : List (SS G_look_at_hand N_look_at_hand 0) := [(xIf (tNot (tVal (sCall 0 [(sVar 1), (sCon (.int 0)), (sBin .Sub subD sub_ok (sIx (sVar 0) (sCon (.int 0))) (sCon (.int 1)))]))) [xDead] [])]
def M_look_at_hand : FnSem := semD 2 B_look_at_hand
theorem len_look_at_hand : N_look_at_hand.length = 2 := rfl
@[simp] theorem fns_look_at_hand : G_look_at_hand.fns = ([("is_int", M_is_int)] : List (Str × FnSem)) := rfl
@[simp] theorem cs_look_at_hand : G_look_at_hand.cs = ([] : List (Str × D)) := rfl
@[simp] theorem init_look_at_hand (a0 a1 : D) : initR N_look_at_hand.length [a0, a1] = [Slot.va a0, Slot.va a1] := rfl
@[simp] theorem nio_look_at_hand : M_look_at_hand.nio = false := rfl
/-! ### told_on -/
def N_told_on : List Str := ["shop", "hand", "work", "its", "length"]
def G_told_on : Gx := ⟨[], ["enumerate"], [], none⟩
def B_told_on : List (SS G_told_on N_told_on 0) := [(xRet (sLc [("work", 2), ("its", 3), ("length", 4)] (gTp [(gNm 2), (gTp [(gNm 3), (gNm 4)])]) (iEnum (sIx (sVar 0) (sCon (.int 1)))) (some (tCmp .Eq eqSD eqS_ok (sVar 3) (sVar 1))) (sVar 2)))]
def M_told_on : FnSem := semD 2 B_told_on
theorem len_told_on : N_told_on.length = 5 := rfl
@[simp] theorem fns_told_on : G_told_on.fns = ([] : List (Str × FnSem)) := rfl
@[simp] theorem cs_told_on : G_told_on.cs = ([] : List (Str × D)) := rfl
@[simp] theorem init_told_on (a0 a1 : D) : initR N_told_on.length [a0, a1] = [Slot.va a0, Slot.va a1, Slot.un, Slot.un, Slot.un] := rfl
@[simp] theorem nio_told_on : M_told_on.nio = false := rfl
/-! ### told_pairs -/
def N_told_pairs : List Str := ["shop", "found", "one", "hand", "length", "other"]
def G_told_pairs : Gx := ⟨[], ["enumerate", "range", "len"], [], none⟩
def B_told_pairs : List (SS G_told_pairs N_told_pairs 0) := [(xSet 1 (sLst [])), (xFor (gTp [(gNm 2), (gTp [(gNm 3), (gNm 4)])]) (iEnum (sIx (sVar 0) (sCon (.int 1)))) [(xExpr (sM1 mExtend 1 (sLc [("other", 5)] (gNm 5) (iRange [(sBin .Add addD add_ok (sVar 2) (sCon (.int 1))), (sBlt bLen [(sIx (sVar 0) (sCon (.int 1)))])]) (some (tCmp .Eq eqSD eqS_ok (sIx (sIx (sIx (sVar 0) (sCon (.int 1))) (sVar 5)) (sCon (.int 0))) (sVar 3))) (sTup [.one (sVar 2), .one (sVar 5)]))))]), (xRet (sVar 1))]
def M_told_pairs : FnSem := semD 1 B_told_pairs
theorem len_told_pairs : N_told_pairs.length = 6 := rfl
@[simp] theorem fns_told_pairs : G_told_pairs.fns = ([] : List (Str × FnSem)) := rfl
@[simp] theorem cs_told_pairs : G_told_pairs.cs = ([] : List (Str × D)) := rfl
@[simp] theorem init_told_pairs (a0 : D) : initR N_told_pairs.length [a0] = [Slot.va a0, Slot.un, Slot.un, Slot.un, Slot.un, Slot.un] := rfl
@[simp] theorem nio_told_pairs : M_told_pairs.nio = false := rfl
/-! ### load_of -/
def N_load_of : List Str := ["shop", "hand", "work"]
def G_load_of : Gx := ⟨[("look_at_shop", M_look_at_shop), ("look_at_hand", M_look_at_hand), ("told_on", M_told_on)], ["sum"], [], none⟩
def B_load_of : List (SS G_load_of N_load_of 0) := [(xExpr (sCall 0 [(sVar 0)])), (xExpr (sCall 1 [(sVar 0), (sVar 1)])), (xRet (sBlt bSum [(sLc [("work", 2)] (gNm 2) (iSeq (sCall 2 [(sVar 0), (sVar 1)])) none (sIx (sIx (sIx (sVar 0) (sCon (.int 1))) (sVar 2)) (sCon (.int 1))))]))]
def M_load_of : FnSem := semD 2 B_load_of
theorem len_load_of : N_load_of.length = 3 := rfl
@[simp] theorem fns_load_of : G_load_of.fns = ([("look_at_shop", M_look_at_shop), ("look_at_hand", M_look_at_hand), ("told_on", M_told_on)] : List (Str × FnSem)) := rfl
@[simp] theorem cs_load_of : G_load_of.cs = ([] : List (Str × D)) := rfl
@[simp] theorem init_load_of (a0 a1 : D) : initR N_load_of.length [a0, a1] = [Slot.va a0, Slot.va a1, Slot.un] := rfl
@[simp] theorem nio_load_of : M_load_of.nio = false := rfl
/-! ### are_jobs -/
def N_are_jobs : List Str := ["value", "hands", "job", "work"]
def G_are_jobs : Gx := ⟨[("is_work", M_is_work)], ["isinstance", "tuple", "all", "sum", "len"], [("MOST_WORKS", (.int 24))], none⟩
def B_are_jobs : List (SS G_are_jobs N_are_jobs 0) := [(xIf (tOrs [(tNot (tVal (sIsi (sVar 0) .tuple))), (tNot (tVal (sBlt bAll [(sLc [("job", 2)] (gNm 2) (iSeq (sVar 0)) none (sIsi (sVar 2) .tuple))])))]) [(xRet (sCon (.bool false)))] []), (xIf (tCmp .Gt gtD gt_ok (sBlt bSum [(sLc [("job", 2)] (gNm 2) (iSeq (sVar 0)) none (sBlt bLen [(sVar 2)]))]) (sGl 0)) [(xRet (sCon (.bool false)))] []), (xRet (sBlt bAll [(sLc [("job", 2)] (gNm 2) (iSeq (sVar 0)) none (sBlt bAll [(sLc [("work", 3)] (gNm 3) (iSeq (sVar 2)) none (sCall 0 [(sVar 3), (sVar 1)]))]))]))]
def M_are_jobs : FnSem := semD 2 B_are_jobs
theorem len_are_jobs : N_are_jobs.length = 4 := rfl
@[simp] theorem fns_are_jobs : G_are_jobs.fns = ([("is_work", M_is_work)] : List (Str × FnSem)) := rfl
@[simp] theorem cs_are_jobs : G_are_jobs.cs = ([("MOST_WORKS", (.int 24))] : List (Str × D)) := rfl
@[simp] theorem init_are_jobs (a0 a1 : D) : initR N_are_jobs.length [a0, a1] = [Slot.va a0, Slot.va a1, Slot.un, Slot.un] := rfl
@[simp] theorem nio_are_jobs : M_are_jobs.nio = false := rfl
/-! ### shop_of_jobs -/
def N_shop_of_jobs : List Str := ["hands", "jobs", "works", "rows", "job", "at", "work"]
def G_shop_of_jobs : Gx := ⟨[("is_int", M_is_int), ("are_jobs", M_are_jobs)], ["enumerate", "len", "tuple"], [("MOST_HANDS", (.int 8)), ("MOST_TIME", (.int 1000000))], none⟩
def B_shop_of_jobs : List (SS G_shop_of_jobs N_shop_of_jobs 0) := [(xIf (tNot (tVal (sCall 0 [(sVar 0), (sCon (.int 1)), (sGl 0)]))) [xDead] []), (xIf (tNot (tVal (sCall 1 [(sVar 1), (sVar 0)]))) [xDead] []), (xPar2 2 3 (sLst []) (sLst [])), (xFor (gNm 4) (iSeq (sVar 1)) [(xFor (gTp [(gNm 5), (gNm 6)]) (iEnum (sVar 4)) [(xIf (tCmp .Gt gtD gt_ok (sVar 5) (sCon (.int 0))) [(xExpr (sM1 mAppend 3 (sTup [.one (sBin .Sub subD sub_ok (sBlt bLen [(sVar 2)]) (sCon (.int 1))), .one (sBlt bLen [(sVar 2)]), .one (sIx (sIx (sVar 4) (sBin .Sub subD sub_ok (sVar 5) (sCon (.int 1)))) (sCon (.int 1)))])))] []), (xExpr (sM1 mAppend 2 (sVar 6)))])]), (xRet (sTup [.one (sVar 0), .one (sBlt bTuple [(sVar 2)]), .one (sBin .Mult mulD mul_ok (sTup [.one (sTup [.one (sCon (.int 0)), .one (sGl 1)])]) (sBlt bLen [(sVar 2)])), .one (sBlt bTuple [(sVar 3)])]))]
def M_shop_of_jobs : FnSem := semD 2 B_shop_of_jobs
theorem len_shop_of_jobs : N_shop_of_jobs.length = 7 := rfl
@[simp] theorem fns_shop_of_jobs : G_shop_of_jobs.fns = ([("is_int", M_is_int), ("are_jobs", M_are_jobs)] : List (Str × FnSem)) := rfl
@[simp] theorem cs_shop_of_jobs : G_shop_of_jobs.cs = ([("MOST_HANDS", (.int 8)), ("MOST_TIME", (.int 1000000))] : List (Str × D)) := rfl
@[simp] theorem init_shop_of_jobs (a0 a1 : D) : initR N_shop_of_jobs.length [a0, a1] = [Slot.va a0, Slot.va a1, Slot.un, Slot.un, Slot.un, Slot.un, Slot.un] := rfl
@[simp] theorem nio_shop_of_jobs : M_shop_of_jobs.nio = false := rfl
/-! ### are_flows -/
def N_are_flows : List Str := ["value", "one"]
def G_are_flows : Gx := ⟨[("are_ints", M_are_ints)], ["isinstance", "tuple", "len", "all"], [("MOST_JOBS", (.int 12)), ("MOST_LENGTH", (.int 1000))], none⟩
def B_are_flows : List (SS G_are_flows N_are_flows 0) := [(xIf (tOrs [(tNot (tVal (sIsi (sVar 0) .tuple))), (tCmp .Gt gtD gt_ok (sBlt bLen [(sVar 0)]) (sGl 0))]) [(xRet (sCon (.bool false)))] []), (xRet (sBlt bAll [(sLc [("one", 1)] (gNm 1) (iSeq (sVar 0)) none (sAnd [(sCall 0 [(sVar 1), (sCon (.int 1)), (sGl 1)]), (sCmp .Eq eqSD eqS_ok (sBlt bLen [(sVar 1)]) (sCon (.int 2)))]))]))]
def M_are_flows : FnSem := semD 1 B_are_flows
theorem len_are_flows : N_are_flows.length = 2 := rfl
@[simp] theorem fns_are_flows : G_are_flows.fns = ([("are_ints", M_are_ints)] : List (Str × FnSem)) := rfl
@[simp] theorem cs_are_flows : G_are_flows.cs = ([("MOST_JOBS", (.int 12)), ("MOST_LENGTH", (.int 1000))] : List (Str × D)) := rfl
@[simp] theorem init_are_flows (a0 : D) : initR N_are_flows.length [a0] = [Slot.va a0, Slot.un] := rfl
@[simp] theorem nio_are_flows : M_are_flows.nio = false := rfl
/-! ### look_at_flows -/
def N_look_at_flows : List Str := ["jobs"]
def G_look_at_flows : Gx := ⟨[("are_flows", M_are_flows)], [], [], none⟩
def B_look_at_flows : List (SS G_look_at_flows N_look_at_flows 0) := [(xIf (tNot (tVal (sCall 0 [(sVar 0)]))) [xDead] [])]
def M_look_at_flows : FnSem := semD 1 B_look_at_flows
theorem len_look_at_flows : N_look_at_flows.length = 1 := rfl
@[simp] theorem fns_look_at_flows : G_look_at_flows.fns = ([("are_flows", M_are_flows)] : List (Str × FnSem)) := rfl
@[simp] theorem cs_look_at_flows : G_look_at_flows.cs = ([] : List (Str × D)) := rfl
@[simp] theorem init_look_at_flows (a0 : D) : initR N_look_at_flows.length [a0] = [Slot.va a0] := rfl
@[simp] theorem nio_look_at_flows : M_look_at_flows.nio = false := rfl
/-! ### told_sequence -/
def N_told_sequence : List Str := ["jobs", "first", "last", "length", "at", "one", "other"]
def G_told_sequence : Gx := ⟨[], ["sorted", "enumerate"], [], none⟩
def B_told_sequence : List (SS G_told_sequence N_told_sequence 0) := [(xSet 1 (sBlt bSorted [(sLc [("at", 4), ("one", 5), ("other", 6)] (gTp [(gNm 4), (gTp [(gNm 5), (gNm 6)])]) (iEnum (sVar 0)) (some (tCmp .Lt ltD lt_ok (sVar 5) (sVar 6))) (sTup [.one (sVar 5), .one (sVar 4)]))])), (xSet 2 (sBlt bSorted [(sLc [("at", 4), ("one", 5), ("other", 6)] (gTp [(gNm 4), (gTp [(gNm 5), (gNm 6)])]) (iEnum (sVar 0)) (some (tCmp .GtE geD ge_ok (sVar 5) (sVar 6))) (sTup [.one (sNeg (sVar 6)), .one (sVar 4)]))])), (xRet (sLc [("length", 3), ("at", 4)] (gTp [(gNm 3), (gNm 4)]) (iSeq (sLst [.st (sVar 1), .st (sVar 2)])) none (sVar 4)))]
def M_told_sequence : FnSem := semD 1 B_told_sequence
theorem len_told_sequence : N_told_sequence.length = 7 := rfl
@[simp] theorem fns_told_sequence : G_told_sequence.fns = ([] : List (Str × FnSem)) := rfl
@[simp] theorem cs_told_sequence : G_told_sequence.cs = ([] : List (Str × D)) := rfl
@[simp] theorem init_told_sequence (a0 : D) : initR N_told_sequence.length [a0] = [Slot.va a0, Slot.un, Slot.un, Slot.un, Slot.un, Slot.un, Slot.un] := rfl
@[simp] theorem nio_told_sequence : M_told_sequence.nio = false := rfl
/-! ### told_flow_end -/
def N_told_flow_end : List Str := ["jobs", "order", "first", "second", "at"]
def G_told_flow_end : Gx := ⟨[], ["max"], [], none⟩
def B_told_flow_end : List (SS G_told_flow_end N_told_flow_end 0) := [(xAsg (gtTp [(gtOf (gNm 2)), (gtOf (gNm 3))]) (sTup [.one (sCon (.int 0)), .one (sCon (.int 0))])), (xFor (gNm 4) (iSeq (sVar 1)) [(xAug .Add augAddD augAdd_ok 2 (sIx (sIx (sVar 0) (sVar 4)) (sCon (.int 0)))), (xSet 3 (sBin .Add addD add_ok (sBlt bMax [(sVar 2), (sVar 3)]) (sIx (sIx (sVar 0) (sVar 4)) (sCon (.int 1)))))]), (xRet (sVar 3))]
def M_told_flow_end : FnSem := semD 2 B_told_flow_end
theorem len_told_flow_end : N_told_flow_end.length = 5 := rfl
@[simp] theorem fns_told_flow_end : G_told_flow_end.fns = ([] : List (Str × FnSem)) := rfl
@[simp] theorem cs_told_flow_end : G_told_flow_end.cs = ([] : List (Str × D)) := rfl
@[simp] theorem init_told_flow_end (a0 a1 : D) : initR N_told_flow_end.length [a0, a1] = [Slot.va a0, Slot.va a1, Slot.un, Slot.un, Slot.un] := rfl
@[simp] theorem nio_told_flow_end : M_told_flow_end.nio = false := rfl
/-! ### best_sequence -/
def N_best_sequence : List Str := ["jobs"]
def G_best_sequence : Gx := ⟨[("look_at_flows", M_look_at_flows), ("told_sequence", M_told_sequence)], ["tuple"], [], none⟩
def B_best_sequence : List (SS G_best_sequence N_best_sequence 0) := [(xExpr (sCall 0 [(sVar 0)])), (xRet (sBlt bTuple [(sCall 1 [(sVar 0)])]))]
def M_best_sequence : FnSem := semD 1 B_best_sequence
theorem len_best_sequence : N_best_sequence.length = 1 := rfl
@[simp] theorem fns_best_sequence : G_best_sequence.fns = ([("look_at_flows", M_look_at_flows), ("told_sequence", M_told_sequence)] : List (Str × FnSem)) := rfl
@[simp] theorem cs_best_sequence : G_best_sequence.cs = ([] : List (Str × D)) := rfl
@[simp] theorem init_best_sequence (a0 : D) : initR N_best_sequence.length [a0] = [Slot.va a0] := rfl
@[simp] theorem nio_best_sequence : M_best_sequence.nio = false := rfl
/-! ### flow_end -/
def N_flow_end : List Str := ["jobs", "order"]
def G_flow_end : Gx := ⟨[("look_at_flows", M_look_at_flows), ("are_ints", M_are_ints), ("told_flow_end", M_told_flow_end)], ["len", "sorted", "list", "range"], [], none⟩
def B_flow_end : List (SS G_flow_end N_flow_end 0) := [(xExpr (sCall 0 [(sVar 0)])), (xIf (tOrs [(tNot (tVal (sCall 1 [(sVar 1), (sCon (.int 0)), (sBin .Sub subD sub_ok (sBlt bLen [(sVar 0)]) (sCon (.int 1)))]))), (tCmp .NotEq neSD neS_ok (sBlt bSorted [(sVar 1)]) (sLr (sBlt bLen [(sVar 0)])))]) [xDead] []), (xRet (sCall 2 [(sVar 0), (sVar 1)]))]
def M_flow_end : FnSem := semD 2 B_flow_end
theorem len_flow_end : N_flow_end.length = 2 := rfl
@[simp] theorem fns_flow_end : G_flow_end.fns = ([("look_at_flows", M_look_at_flows), ("are_ints", M_are_ints), ("told_flow_end", M_told_flow_end)] : List (Str × FnSem)) := rfl
@[simp] theorem cs_flow_end : G_flow_end.cs = ([] : List (Str × D)) := rfl
@[simp] theorem init_flow_end (a0 a1 : D) : initR N_flow_end.length [a0, a1] = [Slot.va a0, Slot.va a1] := rfl
@[simp] theorem nio_flow_end : M_flow_end.nio = false := rfl
/-! ### least_flow_end -/
def N_least_flow_end : List Str := ["jobs"]
def G_least_flow_end : Gx := ⟨[("look_at_flows", M_look_at_flows), ("told_flow_end", M_told_flow_end), ("told_sequence", M_told_sequence)], [], [], none⟩
def B_least_flow_end : List (SS G_least_flow_end N_least_flow_end 0) := [(xExpr (sCall 0 [(sVar 0)])), (xRet (sCall 1 [(sVar 0), (sCall 2 [(sVar 0)])]))]
def M_least_flow_end : FnSem := semD 1 B_least_flow_end
theorem len_least_flow_end : N_least_flow_end.length = 1 := rfl
@[simp] theorem fns_least_flow_end : G_least_flow_end.fns = ([("look_at_flows", M_look_at_flows), ("told_flow_end", M_told_flow_end), ("told_sequence", M_told_sequence)] : List (Str × FnSem)) := rfl
@[simp] theorem cs_least_flow_end : G_least_flow_end.cs = ([] : List (Str × D)) := rfl
@[simp] theorem init_least_flow_end (a0 : D) : initR N_least_flow_end.length [a0] = [Slot.va a0] := rfl
@[simp] theorem nio_least_flow_end : M_least_flow_end.nio = false := rfl
/-! ### is_best_sequence -/
def N_is_best_sequence : List Str := ["jobs", "value"]
def G_is_best_sequence : Gx := ⟨[("look_at_flows", M_look_at_flows), ("are_ints", M_are_ints), ("told_flow_end", M_told_flow_end), ("told_sequence", M_told_sequence)], ["len", "sorted", "list", "range"], [], none⟩
def B_is_best_sequence : List (SS G_is_best_sequence N_is_best_sequence 0) := [(xExpr (sCall 0 [(sVar 0)])), (xIf (tOrs [(tNot (tVal (sCall 1 [(sVar 1), (sCon (.int 0)), (sBin .Sub subD sub_ok (sBlt bLen [(sVar 0)]) (sCon (.int 1)))]))), (tCmp .NotEq neSD neS_ok (sBlt bSorted [(sVar 1)]) (sLr (sBlt bLen [(sVar 0)])))]) [(xRet (sCon (.bool false)))] []), (xRet (sCmp .Eq eqSD eqS_ok (sCall 2 [(sVar 0), (sVar 1)]) (sCall 2 [(sVar 0), (sCall 3 [(sVar 0)])])))]
def M_is_best_sequence : FnSem := semD 2 B_is_best_sequence
theorem len_is_best_sequence : N_is_best_sequence.length = 2 := rfl
@[simp] theorem fns_is_best_sequence : G_is_best_sequence.fns = ([("look_at_flows", M_look_at_flows), ("are_ints", M_are_ints), ("told_flow_end", M_told_flow_end), ("told_sequence", M_told_sequence)] : List (Str × FnSem)) := rfl
@[simp] theorem cs_is_best_sequence : G_is_best_sequence.cs = ([] : List (Str × D)) := rfl
@[simp] theorem init_is_best_sequence (a0 a1 : D) : initR N_is_best_sequence.length [a0, a1] = [Slot.va a0, Slot.va a1] := rfl
@[simp] theorem nio_is_best_sequence : M_is_best_sequence.nio = false := rfl
/-! ### told_turn -/
def N_told_turn : List Str := ["jobs", "order", "end", "first", "place", "at", "later"]
def G_told_turn : Gx := ⟨[("told_flow_end", M_told_flow_end)], ["enumerate", "sum"], [], none⟩
def B_told_turn : List (SS G_told_turn N_told_turn 0) := [(xPar2 2 3 (sCall 0 [(sVar 0), (sVar 1)]) (sCon (.int 0))), (xFor (gTp [(gNm 4), (gNm 5)]) (iEnum (sVar 1)) [(xAug .Add augAddD augAdd_ok 3 (sIx (sIx (sVar 0) (sVar 5)) (sCon (.int 0)))), (xIf (tCmp .Eq eqSD eqS_ok (sBin .Add addD add_ok (sVar 3) (sBlt bSum [(sLc [("later", 6)] (gNm 6) (iSeq (sSl (sVar 1) (some (sVar 4)) none)) none (sIx (sIx (sVar 0) (sVar 6)) (sCon (.int 1))))])) (sVar 2)) [(xRet (sVar 4))] [])]), (xRet (sCon .none))]
def M_told_turn : FnSem := semD 2 B_told_turn
theorem len_told_turn : N_told_turn.length = 7 := rfl
@[simp] theorem fns_told_turn : G_told_turn.fns = ([("told_flow_end", M_told_flow_end)] : List (Str × FnSem)) := rfl
@[simp] theorem cs_told_turn : G_told_turn.cs = ([] : List (Str × D)) := rfl
@[simp] theorem init_told_turn (a0 a1 : D) : initR N_told_turn.length [a0, a1] = [Slot.va a0, Slot.va a1, Slot.un, Slot.un, Slot.un, Slot.un, Slot.un] := rfl
@[simp] theorem nio_told_turn : M_told_turn.nio = false := rfl
/-! ### turn_of -/
def N_turn_of : List Str := ["jobs", "order"]
def G_turn_of : Gx := ⟨[("look_at_flows", M_look_at_flows), ("are_ints", M_are_ints), ("told_turn", M_told_turn)], ["len", "sorted", "list", "range"], [], none⟩
def B_turn_of : List (SS G_turn_of N_turn_of 0) := [(xExpr (sCall 0 [(sVar 0)])), (xIf (tOrs [(tNot (tVal (sCall 1 [(sVar 1), (sCon (.int 0)), (sBin .Sub subD sub_ok (sBlt bLen [(sVar 0)]) (sCon (.int 1)))]))), (tCmp .NotEq neSD neS_ok (sBlt bSorted [(sVar 1)]) (sLr (sBlt bLen [(sVar 0)])))]) [xDead] []), (xRet (sCall 2 [(sVar 0), (sVar 1)]))]
def M_turn_of : FnSem := semD 2 B_turn_of
theorem len_turn_of : N_turn_of.length = 2 := rfl
@[simp] theorem fns_turn_of : G_turn_of.fns = ([("look_at_flows", M_look_at_flows), ("are_ints", M_are_ints), ("told_turn", M_told_turn)] : List (Str × FnSem)) := rfl
@[simp] theorem cs_turn_of : G_turn_of.cs = ([] : List (Str × D)) := rfl
@[simp] theorem init_turn_of (a0 a1 : D) : initR N_turn_of.length [a0, a1] = [Slot.va a0, Slot.va a1] := rfl
@[simp] theorem nio_turn_of : M_turn_of.nio = false := rfl
/-! ### flow_shop -/
def N_flow_shop : List Str := ["jobs", "one", "other"]
def G_flow_shop : Gx := ⟨[("look_at_flows", M_look_at_flows), ("shop_of_jobs", M_shop_of_jobs)], ["tuple"], [], none⟩
def B_flow_shop : List (SS G_flow_shop N_flow_shop 0) := [(xExpr (sCall 0 [(sVar 0)])), (xRet (sCall 1 [(sCon (.int 2)), (sBlt bTuple [(sLc [("one", 1), ("other", 2)] (gTp [(gNm 1), (gNm 2)]) (iSeq (sVar 0)) none (sTup [.one (sTup [.one (sCon (.int 0)), .one (sVar 1)]), .one (sTup [.one (sCon (.int 1)), .one (sVar 2)])]))])]))]
def M_flow_shop : FnSem := semD 1 B_flow_shop
theorem len_flow_shop : N_flow_shop.length = 3 := rfl
@[simp] theorem fns_flow_shop : G_flow_shop.fns = ([("look_at_flows", M_look_at_flows), ("shop_of_jobs", M_shop_of_jobs)] : List (Str × FnSem)) := rfl
@[simp] theorem cs_flow_shop : G_flow_shop.cs = ([] : List (Str × D)) := rfl
@[simp] theorem init_flow_shop (a0 : D) : initR N_flow_shop.length [a0] = [Slot.va a0, Slot.un, Slot.un] := rfl
@[simp] theorem nio_flow_shop : M_flow_shop.nio = false := rfl
/-! ### told_row_steps -/
def N_told_row_steps : List Str := ["shop", "clock", "found", "work", "early", "late", "at", "one", "other", "lag"]
def G_told_row_steps : Gx := ⟨[], ["len", "enumerate"], [("ROW", (.str "row")), ("EARLY", (.str "early")), ("LATE", (.str "late"))], none⟩
def B_told_row_steps : List (SS G_told_row_steps N_told_row_steps 0) := [(xSet 1 (sBlt bLen [(sIx (sVar 0) (sCon (.int 1)))])), (xSetLc 2 [("at", 6), ("one", 7), ("other", 8), ("lag", 9)] (gTp [(gNm 6), (gTp [(gNm 7), (gNm 8), (gNm 9)])]) (iEnum (sIx (sVar 0) (sNeg (sCon (.int 1))))) none (sTup [.one (sVar 7), .one (sVar 8), .one (sVar 9), .one (sTup [.one (sGl 0), .one (sVar 6)])])), (xFor (gTp [(gNm 3), (gTp [(gNm 4), (gNm 5)])]) (iEnum (sIx (sVar 0) (sCon (.int 2)))) [(xExpr (sM1 mExtend 2 (sLst [.one (sTup [.one (sVar 1), .one (sVar 3), .one (sVar 4), .one (sTup [.one (sGl 1), .one (sVar 3)])]), .one (sTup [.one (sVar 3), .one (sVar 1), .one (sNeg (sVar 5)), .one (sTup [.one (sGl 2), .one (sVar 3)])])])))]), (xRet (sVar 2))]
def M_told_row_steps : FnSem := semD 1 B_told_row_steps
theorem len_told_row_steps : N_told_row_steps.length = 10 := rfl
@[simp] theorem fns_told_row_steps : G_told_row_steps.fns = ([] : List (Str × FnSem)) := rfl
@[simp] theorem cs_told_row_steps : G_told_row_steps.cs = ([("ROW", (.str "row")), ("EARLY", (.str "early")), ("LATE", (.str "late"))] : List (Str × D)) := rfl
@[simp] theorem init_told_row_steps (a0 : D) : initR N_told_row_steps.length [a0] = [Slot.va a0, Slot.un, Slot.un, Slot.un, Slot.un, Slot.un, Slot.un, Slot.un, Slot.un, Slot.un] := rfl
@[simp] theorem nio_told_row_steps : M_told_row_steps.nio = false := rfl
/-! ### told_end_steps -/
def N_told_end_steps : List Str := ["shop", "end", "clock", "work", "hand", "length"]
def G_told_end_steps : Gx := ⟨[], ["len", "enumerate"], [("END", (.str "end"))], none⟩
def B_told_end_steps : List (SS G_told_end_steps N_told_end_steps 0) := [(xSet 2 (sBlt bLen [(sIx (sVar 0) (sCon (.int 1)))])), (xRet (sLc [("work", 3), ("hand", 4), ("length", 5)] (gTp [(gNm 3), (gTp [(gNm 4), (gNm 5)])]) (iEnum (sIx (sVar 0) (sCon (.int 1)))) none (sTup [.one (sVar 3), .one (sVar 2), .one (sBin .Sub subD sub_ok (sVar 5) (sVar 1)), .one (sTup [.one (sGl 0), .one (sVar 3)])])))]
def M_told_end_steps : FnSem := semD 2 B_told_end_steps
theorem len_told_end_steps : N_told_end_steps.length = 6 := rfl
@[simp] theorem fns_told_end_steps : G_told_end_steps.fns = ([] : List (Str × FnSem)) := rfl
@[simp] theorem cs_told_end_steps : G_told_end_steps.cs = ([("END", (.str "end"))] : List (Str × D)) := rfl
@[simp] theorem init_told_end_steps (a0 a1 : D) : initR N_told_end_steps.length [a0, a1] = [Slot.va a0, Slot.va a1, Slot.un, Slot.un, Slot.un, Slot.un] := rfl
@[simp] theorem nio_told_end_steps : M_told_end_steps.nio = false := rfl
/-! ### told_order_steps -/
def N_told_order_steps : List Str := ["shop", "orders", "one", "other"]
def G_told_order_steps : Gx := ⟨[], [], [("AHEAD", (.str "ahead"))], none⟩
def B_told_order_steps : List (SS G_told_order_steps N_told_order_steps 0) := [(xRet (sLc [("one", 2), ("other", 3)] (gTp [(gNm 2), (gNm 3)]) (iSeq (sVar 1)) none (sTup [.one (sVar 2), .one (sVar 3), .one (sIx (sIx (sIx (sVar 0) (sCon (.int 1))) (sVar 2)) (sCon (.int 1))), .one (sTup [.one (sGl 0), .one (sVar 2), .one (sVar 3)])])))]
def M_told_order_steps : FnSem := semD 2 B_told_order_steps
theorem len_told_order_steps : N_told_order_steps.length = 4 := rfl
@[simp] theorem fns_told_order_steps : G_told_order_steps.fns = ([] : List (Str × FnSem)) := rfl
@[simp] theorem cs_told_order_steps : G_told_order_steps.cs = ([("AHEAD", (.str "ahead"))] : List (Str × D)) := rfl
@[simp] theorem init_told_order_steps (a0 a1 : D) : initR N_told_order_steps.length [a0, a1] = [Slot.va a0, Slot.va a1, Slot.un, Slot.un] := rfl
@[simp] theorem nio_told_order_steps : M_told_order_steps.nio = false := rfl
/-! ### told_steps -/
def N_told_steps : List Str := ["shop", "orders", "end", "found"]
def G_told_steps : Gx := ⟨[("told_row_steps", M_told_row_steps), ("told_order_steps", M_told_order_steps), ("told_end_steps", M_told_end_steps)], [], [], none⟩
def B_told_steps : List (SS G_told_steps N_told_steps 0) := [(xSet 3 (sLst [.st (sCall 0 [(sVar 0)]), .st (sCall 1 [(sVar 0), (sVar 1)])])), (xRet (sIte (tCmp .Is isD isR_ok (sVar 2) (sCon .none)) (sVar 3) (sLst [.st (sVar 3), .st (sCall 2 [(sVar 0), (sVar 2)])])))]
def M_told_steps : FnSem := semD 3 B_told_steps
theorem len_told_steps : N_told_steps.length = 4 := rfl
@[simp] theorem fns_told_steps : G_told_steps.fns = ([("told_row_steps", M_told_row_steps), ("told_order_steps", M_told_order_steps), ("told_end_steps", M_told_end_steps)] : List (Str × FnSem)) := rfl
@[simp] theorem cs_told_steps : G_told_steps.cs = ([] : List (Str × D)) := rfl
@[simp] theorem init_told_steps (a0 a1 a2 : D) : initR N_told_steps.length [a0, a1, a2] = [Slot.va a0, Slot.va a1, Slot.va a2, Slot.un] := rfl
@[simp] theorem nio_told_steps : M_told_steps.nio = false := rfl
/-! ### told_far -/
def N_told_far : List Str := ["steps", "places", "start", "far", "by", "lap", "here", "ring", "at", "moved", "step", "one", "other", "lag", "why"]
def G_told_far : Gx := ⟨[], ["range"], [], none⟩
def B_told_far : List (SS G_told_far N_told_far 0) := [(xPar2 3 4 (sDic1 (sVar 2) (sCon (.int 0))) sDic0), (xFor (gNm 5) (iRange [(sVar 1)]) [(xSet 9 (sCon .none)), (xFor (gNm 10) (iSeq (sVar 0)) [(xAsg (gtTp [(gtOf (gNm 11)), (gtOf (gNm 12)), (gtOf (gNm 13)), (gtOf (gNm 14))]) (sVar 10)), (xIf (tAnds [(tDin false (sVar 11) (sVar 3)), (tOrs [(tDin true (sVar 12) (sVar 3)), (tCmp .Gt gtD gt_ok (sBin .Add addD add_ok (sDix (sVar 3) (sVar 11)) (sVar 13)) (sDix (sVar 3) (sVar 12)))])]) [(xAsg (gtTp [(gtSub 3 (sVar 12)), (gtSub 4 (sVar 12)), (gtOf (gNm 9))]) (sTup [.one (sBin .Add addD add_ok (sDix (sVar 3) (sVar 11)) (sVar 13)), .one (sVar 10), .one (sVar 12)]))] [])]), (xIf (tCmp .Is isD isR_ok (sVar 9) (sCon .none)) [(xRet (sTup [.one (sVar 3), .one (sCon .none)]))] [])]), xDead, xDead, xDead, xDead, xDead]
def M_told_far : FnSem := semD 3 B_told_far
theorem len_told_far : N_told_far.length = 15 := rfl
@[simp] theorem fns_told_far : G_told_far.fns = ([] : List (Str × FnSem)) := rfl
@[simp] theorem cs_told_far : G_told_far.cs = ([] : List (Str × D)) := rfl
@[simp] theorem init_told_far (a0 a1 a2 : D) : initR N_told_far.length [a0, a1, a2] = [Slot.va a0, Slot.va a1, Slot.va a2, Slot.un, Slot.un, Slot.un, Slot.un, Slot.un, Slot.un, Slot.un, Slot.un, Slot.un, Slot.un, Slot.un, Slot.un] := rfl
@[simp] theorem nio_told_far : M_told_far.nio = false := rfl
/-! ### told_starts -/
def N_told_starts : List Str := ["shop", "orders", "end", "clock", "far", "ring", "work"]
def G_told_starts : Gx := ⟨[("told_far", M_told_far), ("told_steps", M_told_steps)], ["len", "range"], [], none⟩
def B_told_starts : List (SS G_told_starts N_told_starts 0) := [(xSet 3 (sBlt bLen [(sIx (sVar 0) (sCon (.int 1)))])), (xAsg (gtTp [(gtOf (gNm 4)), (gtOf (gNm 5))]) (sCall 0 [(sCall 1 [(sVar 0), (sVar 1), (sVar 2)]), (sBin .Add addD add_ok (sVar 3) (sCon (.int 1))), (sVar 3)])), (xIf (tCmp .IsNot isntD isnt_ok (sVar 5) (sCon .none)) [(xRet (sTup [.one (sCon .none), .one (sVar 5)]))] []), (xRet (sTup [.one (sLc [("work", 6)] (gNm 6) (iRange [(sVar 3)]) none (sDix (sVar 4) (sVar 6))), .one (sCon .none)]))]
def M_told_starts : FnSem := semD 3 B_told_starts
theorem len_told_starts : N_told_starts.length = 7 := rfl
@[simp] theorem fns_told_starts : G_told_starts.fns = ([("told_far", M_told_far), ("told_steps", M_told_steps)] : List (Str × FnSem)) := rfl
@[simp] theorem cs_told_starts : G_told_starts.cs = ([] : List (Str × D)) := rfl
@[simp] theorem init_told_starts (a0 a1 a2 : D) : initR N_told_starts.length [a0, a1, a2] = [Slot.va a0, Slot.va a1, Slot.va a2, Slot.un, Slot.un, Slot.un, Slot.un] := rfl
@[simp] theorem nio_told_starts : M_told_starts.nio = false := rfl
/-! ### are_starts -/
def N_are_starts : List Str := ["shop", "value"]
def G_are_starts : Gx := ⟨[("are_ints", M_are_ints)], ["len"], [("MOST_TIME", (.int 1000000))], none⟩
def B_are_starts : List (SS G_are_starts N_are_starts 0) := [(xRet (sAnd [(sCall 0 [(sVar 1), (sCon (.int 0)), (sGl 0)]), (sCmp .Eq eqSD eqS_ok (sBlt bLen [(sVar 1)]) (sBlt bLen [(sIx (sVar 0) (sCon (.int 1)))]))]))]
def M_are_starts : FnSem := semD 2 B_are_starts
theorem len_are_starts : N_are_starts.length = 2 := rfl
@[simp] theorem fns_are_starts : G_are_starts.fns = ([("are_ints", M_are_ints)] : List (Str × FnSem)) := rfl
@[simp] theorem cs_are_starts : G_are_starts.cs = ([("MOST_TIME", (.int 1000000))] : List (Str × D)) := rfl
@[simp] theorem init_are_starts (a0 a1 : D) : initR N_are_starts.length [a0, a1] = [Slot.va a0, Slot.va a1] := rfl
@[simp] theorem nio_are_starts : M_are_starts.nio = false := rfl
/-! ### look_at_starts -/
def N_look_at_starts : List Str := ["shop", "starts"]
def G_look_at_starts : Gx := ⟨[("look_at_shop", M_look_at_shop), ("are_starts", M_are_starts)], [], [], none⟩
def B_look_at_starts : List (SS G_look_at_starts N_look_at_starts 0) := [(xExpr (sCall 0 [(sVar 0)])), (xIf (tNot (tVal (sCall 1 [(sVar 0), (sVar 1)]))) [xDead] [])]
def M_look_at_starts : FnSem := semD 2 B_look_at_starts
theorem len_look_at_starts : N_look_at_starts.length = 2 := rfl
@[simp] theorem fns_look_at_starts : G_look_at_starts.fns = ([("look_at_shop", M_look_at_shop), ("are_starts", M_are_starts)] : List (Str × FnSem)) := rfl
@[simp] theorem cs_look_at_starts : G_look_at_starts.cs = ([] : List (Str × D)) := rfl
@[simp] theorem init_look_at_starts (a0 a1 : D) : initR N_look_at_starts.length [a0, a1] = [Slot.va a0, Slot.va a1] := rfl
@[simp] theorem nio_look_at_starts : M_look_at_starts.nio = false := rfl
/-! ### told_wrongs -/
def N_told_wrongs : List Str := ["shop", "starts", "found", "work", "early", "late", "at", "one", "other", "lag"]
def G_told_wrongs : Gx := ⟨[("told_pairs", M_told_pairs)], ["enumerate"], [("WINDOW", (.str "window")), ("BEHIND", (.str "row")), ("CLASH", (.str "clash"))], none⟩
def B_told_wrongs : List (SS G_told_wrongs N_told_wrongs 0) := [(xSet 2 (sLst [])), (xFor (gTp [(gNm 3), (gTp [(gNm 4), (gNm 5)])]) (iEnum (sIx (sVar 0) (sCon (.int 2)))) [(xIf (tNot (tChain2 .LtE .LtE leD leD le_ok le_ok (sVar 4) (sIx (sVar 1) (sVar 3)) (sVar 5))) [(xExpr (sM1 mAppend 2 (sTup [.one (sGl 0), .one (sVar 3)])))] [])]), (xFor (gTp [(gNm 6), (gTp [(gNm 7), (gNm 8), (gNm 9)])]) (iEnum (sIx (sVar 0) (sNeg (sCon (.int 1))))) [(xIf (tCmp .Lt ltD lt_ok (sBin .Sub subD sub_ok (sIx (sVar 1) (sVar 8)) (sIx (sVar 1) (sVar 7))) (sVar 9)) [(xExpr (sM1 mAppend 2 (sTup [.one (sGl 1), .one (sVar 6)])))] [])]), (xFor (gTp [(gNm 7), (gNm 8)]) (iSeq (sCall 0 [(sVar 0)])) [(xIf (tAnds [(tCmp .Lt ltD lt_ok (sIx (sVar 1) (sVar 7)) (sBin .Add addD add_ok (sIx (sVar 1) (sVar 8)) (sIx (sIx (sIx (sVar 0) (sCon (.int 1))) (sVar 8)) (sCon (.int 1))))), (tCmp .Lt ltD lt_ok (sIx (sVar 1) (sVar 8)) (sBin .Add addD add_ok (sIx (sVar 1) (sVar 7)) (sIx (sIx (sIx (sVar 0) (sCon (.int 1))) (sVar 7)) (sCon (.int 1)))))]) [(xExpr (sM1 mAppend 2 (sTup [.one (sGl 2), .one (sVar 7), .one (sVar 8)])))] [])]), (xRet (sVar 2))]
def M_told_wrongs : FnSem := semD 2 B_told_wrongs
theorem len_told_wrongs : N_told_wrongs.length = 10 := rfl
@[simp] theorem fns_told_wrongs : G_told_wrongs.fns = ([("told_pairs", M_told_pairs)] : List (Str × FnSem)) := rfl
@[simp] theorem cs_told_wrongs : G_told_wrongs.cs = ([("WINDOW", (.str "window")), ("BEHIND", (.str "row")), ("CLASH", (.str "clash"))] : List (Str × D)) := rfl
@[simp] theorem init_told_wrongs (a0 a1 : D) : initR N_told_wrongs.length [a0, a1] = [Slot.va a0, Slot.va a1, Slot.un, Slot.un, Slot.un, Slot.un, Slot.un, Slot.un, Slot.un, Slot.un] := rfl
@[simp] theorem nio_told_wrongs : M_told_wrongs.nio = false := rfl
/-! ### is_right -/
def N_is_right : List Str := ["shop", "starts"]
def G_is_right : Gx := ⟨[("told_wrongs", M_told_wrongs)], [], [], none⟩
def B_is_right : List (SS G_is_right N_is_right 0) := [(xRet (sCmp .Eq eqSD eqS_ok (sCall 0 [(sVar 0), (sVar 1)]) (sLst [])))]
def M_is_right : FnSem := semD 2 B_is_right
theorem len_is_right : N_is_right.length = 2 := rfl
@[simp] theorem fns_is_right : G_is_right.fns = ([("told_wrongs", M_told_wrongs)] : List (Str × FnSem)) := rfl
@[simp] theorem cs_is_right : G_is_right.cs = ([] : List (Str × D)) := rfl
@[simp] theorem init_is_right (a0 a1 : D) : initR N_is_right.length [a0, a1] = [Slot.va a0, Slot.va a1] := rfl
@[simp] theorem nio_is_right : M_is_right.nio = false := rfl
/-! ### is_plan -/
def N_is_plan : List Str := ["shop", "value"]
def G_is_plan : Gx := ⟨[("look_at_shop", M_look_at_shop), ("are_starts", M_are_starts), ("is_right", M_is_right)], [], [], none⟩
def B_is_plan : List (SS G_is_plan N_is_plan 0) := [(xExpr (sCall 0 [(sVar 0)])), (xRet (sAnd [(sCall 1 [(sVar 0), (sVar 1)]), (sCall 2 [(sVar 0), (sVar 1)])]))]
def M_is_plan : FnSem := semD 2 B_is_plan
theorem len_is_plan : N_is_plan.length = 2 := rfl
@[simp] theorem fns_is_plan : G_is_plan.fns = ([("look_at_shop", M_look_at_shop), ("are_starts", M_are_starts), ("is_right", M_is_right)] : List (Str × FnSem)) := rfl
@[simp] theorem cs_is_plan : G_is_plan.cs = ([] : List (Str × D)) := rfl
@[simp] theorem init_is_plan (a0 a1 : D) : initR N_is_plan.length [a0, a1] = [Slot.va a0, Slot.va a1] := rfl
@[simp] theorem nio_is_plan : M_is_plan.nio = false := rfl
/-! ### look_at_plan -/
def N_look_at_plan : List Str := ["shop", "plan"]
def G_look_at_plan : Gx := ⟨[("is_plan", M_is_plan)], [], [], none⟩
def B_look_at_plan : List (SS G_look_at_plan N_look_at_plan 0) := [(xIf (tNot (tVal (sCall 0 [(sVar 0), (sVar 1)]))) [xDead] [])]
def M_look_at_plan : FnSem := semD 2 B_look_at_plan
theorem len_look_at_plan : N_look_at_plan.length = 2 := rfl
@[simp] theorem fns_look_at_plan : G_look_at_plan.fns = ([("is_plan", M_is_plan)] : List (Str × FnSem)) := rfl
@[simp] theorem cs_look_at_plan : G_look_at_plan.cs = ([] : List (Str × D)) := rfl
@[simp] theorem init_look_at_plan (a0 a1 : D) : initR N_look_at_plan.length [a0, a1] = [Slot.va a0, Slot.va a1] := rfl
@[simp] theorem nio_look_at_plan : M_look_at_plan.nio = false := rfl
/-! ### told_end -/
def N_told_end : List Str := ["shop", "starts", "start", "hand", "length"]
def G_told_end : Gx := ⟨[], ["max", "zip"], [], none⟩
def B_told_end : List (SS G_told_end N_told_end 0) := [(xRet (sBlt bMax [(sLst [.one (sCon (.int 0)), .st (sLc [("start", 2), ("hand", 3), ("length", 4)] (gTp [(gNm 2), (gTp [(gNm 3), (gNm 4)])]) (iZip (sVar 1) (sIx (sVar 0) (sCon (.int 1)))) none (sBin .Add addD add_ok (sVar 2) (sVar 4)))])]))]
def M_told_end : FnSem := semD 2 B_told_end
theorem len_told_end : N_told_end.length = 5 := rfl
@[simp] theorem fns_told_end : G_told_end.fns = ([] : List (Str × FnSem)) := rfl
@[simp] theorem cs_told_end : G_told_end.cs = ([] : List (Str × D)) := rfl
@[simp] theorem init_told_end (a0 a1 : D) : initR N_told_end.length [a0, a1] = [Slot.va a0, Slot.va a1, Slot.un, Slot.un, Slot.un] := rfl
@[simp] theorem nio_told_end : M_told_end.nio = false := rfl
/-! ### end_of -/
def N_end_of : List Str := ["shop", "starts"]
def G_end_of : Gx := ⟨[("look_at_starts", M_look_at_starts), ("told_end", M_told_end)], [], [], none⟩
def B_end_of : List (SS G_end_of N_end_of 0) := [(xExpr (sCall 0 [(sVar 0), (sVar 1)])), (xRet (sCall 1 [(sVar 0), (sVar 1)]))]
def M_end_of : FnSem := semD 2 B_end_of
theorem len_end_of : N_end_of.length = 2 := rfl
@[simp] theorem fns_end_of : G_end_of.fns = ([("look_at_starts", M_look_at_starts), ("told_end", M_told_end)] : List (Str × FnSem)) := rfl
@[simp] theorem cs_end_of : G_end_of.cs = ([] : List (Str × D)) := rfl
@[simp] theorem init_end_of (a0 a1 : D) : initR N_end_of.length [a0, a1] = [Slot.va a0, Slot.va a1] := rfl
@[simp] theorem nio_end_of : M_end_of.nio = false := rfl
/-! ### told_next_orders -/
def N_told_next_orders : List Str := ["shop", "starts", "found", "hand", "row", "one", "other"]
def G_told_next_orders : Gx := ⟨[("told_on", M_told_on)], ["range", "sorted", "zip"], [], some "told_next_orders.<locals>.<lambda>"⟩
def B_told_next_orders : List (SS G_told_next_orders N_told_next_orders 0) := [(xSet 2 (sLst [])), (xFor (gNm 3) (iRange [(sIx (sVar 0) (sCon (.int 0)))]) [(xSet 4 (sSortKey "told_next_orders.<locals>.<lambda>" (sCall 0 [(sVar 0), (sVar 3)]) 1)), (xExpr (sM1 mExtend 2 (sLc [("one", 5), ("other", 6)] (gTp [(gNm 5), (gNm 6)]) (iZip (sVar 4) (sSl (sVar 4) (some (sCon (.int 1))) none)) none (sTup [.one (sVar 5), .one (sVar 6)]))))]), (xRet (sBlt bSorted [(sVar 2)]))]
def M_told_next_orders : FnSem := semD 2 B_told_next_orders
theorem len_told_next_orders : N_told_next_orders.length = 7 := rfl
@[simp] theorem fns_told_next_orders : G_told_next_orders.fns = ([("told_on", M_told_on)] : List (Str × FnSem)) := rfl
@[simp] theorem cs_told_next_orders : G_told_next_orders.cs = ([] : List (Str × D)) := rfl
@[simp] theorem init_told_next_orders (a0 a1 : D) : initR N_told_next_orders.length [a0, a1] = [Slot.va a0, Slot.va a1, Slot.un, Slot.un, Slot.un, Slot.un, Slot.un] := rfl
@[simp] theorem nio_told_next_orders : M_told_next_orders.nio = false := rfl
/-! ### pressed -/
def N_pressed : List Str := ["shop", "plan"]
def G_pressed : Gx := ⟨[("look_at_plan", M_look_at_plan), ("told_starts", M_told_starts), ("told_next_orders", M_told_next_orders)], ["tuple"], [], none⟩
def B_pressed : List (SS G_pressed N_pressed 0) := [(xExpr (sCall 0 [(sVar 0), (sVar 1)])), (xRet (sBlt bTuple [(sIx (sCall 1 [(sVar 0), (sCall 2 [(sVar 0), (sVar 1)]), (sCon .none)]) (sCon (.int 0)))]))]
def M_pressed : FnSem := semD 2 B_pressed
theorem len_pressed : N_pressed.length = 2 := rfl
@[simp] theorem fns_pressed : G_pressed.fns = ([("look_at_plan", M_look_at_plan), ("told_starts", M_told_starts), ("told_next_orders", M_told_next_orders)] : List (Str × FnSem)) := rfl
@[simp] theorem cs_pressed : G_pressed.cs = ([] : List (Str × D)) := rfl
@[simp] theorem init_pressed (a0 a1 : D) : initR N_pressed.length [a0, a1] = [Slot.va a0, Slot.va a1] := rfl
@[simp] theorem nio_pressed : M_pressed.nio = false := rfl
/-! ### _law_pot -/
def N__law_pot : List Str := ["script", "place", "cell", "own", "small"]
def G__law_pot : Gx := ⟨[], ["len", "int", "sum", "abs"], [], none⟩
def B__law_pot : List (SS G__law_pot N__law_pot 0) := [(xSet 2 (sIte (tCmp .Lt ltD lt_ok (sVar 1) (sBlt bLen [(sVar 0)])) (sIx (sVar 0) (sVar 1)) (sBin .Add addD add_ok (sBin .Add addD add_ok (sBin .Mod modD mod_ok (sBlt bInt [(sBlt bSum [(sSl (sVar 0) none (some (sCon (.int 1))))])]) (sCon (.int 1000303))) (sBin .Mult mulD mul_ok (sCon (.int 4723)) (sVar 1))) (sCon (.int 2971))))), (xSet 3 (sBin .Mult mulD mul_ok (sBin .Mod modD mod_ok (sBlt bInt [(sBlt bAbs [(sVar 2)])]) (sBin .Pow powD pow_ok (sBin .Pow powD pow_ok (sCon (.int 10)) (sCon (.int 60))) (sCon (.int 5)))) (sBlt bInt [(sCmp .GtE geD ge_ok (sBlt bAbs [(sVar 2)]) (sBin .Pow powD pow_ok (sCon (.int 10)) (sCon (.int 18))))]))), (xSet 4 (sBin .Mod modD mod_ok (sBlt bInt [(sVar 2)]) (sCon (.int 2305843009213693921)))), (xRet (sLst [.one (sVar 3), .one (sBin .Mod modD mod_ok (sBlt bInt [(sBin .Add addD add_ok (sBin .Add addD add_ok (sBin .Mult mulD mul_ok (sVar 4) (sCon (.int 68111))) (sBin .Mult mulD mul_ok (sBin .Mult mulD mul_ok (sCon (.int 12413)) (sVar 1)) (sVar 1))) (sCon (.int 2843)))]) (sCon (.int 2305843009213693921))), .one (sCon (.int 0))]))]
def M__law_pot : FnSem := semD 2 B__law_pot
theorem len__law_pot : N__law_pot.length = 5 := rfl
@[simp] theorem fns__law_pot : G__law_pot.fns = ([] : List (Str × FnSem)) := rfl
@[simp] theorem cs__law_pot : G__law_pot.cs = ([] : List (Str × D)) := rfl
@[simp] theorem init__law_pot (a0 a1 : D) : initR N__law_pot.length [a0, a1] = [Slot.va a0, Slot.va a1, Slot.un, Slot.un, Slot.un] := rfl
@[simp] theorem nio__law_pot : M__law_pot.nio = false := rfl
/-! ### _law_take -/
def N__law_take : List Str := ["pot", "upto", "prime", "mixture", "digit"]
def G__law_take : Gx := ⟨[], ["int"], [], none⟩
def B__law_take : List (SS G__law_take N__law_take 1) := [(xIf (tCmp .Gt gtD gt_ok (sIx (sVar 0) (sCon (.int 0))) (sCon (.int 0))) [(xSet 4 (sBin .Mod modD mod_ok (sBlt bInt [(sIx (sVar 0) (sCon (.int 0)))]) (sVar 1))), (xAsg (gtSub 0 (sCon (.int 0))) (sBin .FloorDiv fdvD fdv_ok (sIx (sVar 0) (sCon (.int 0))) (sVar 1))), (xRet (sVar 4))] []), (xAsg (gtSub 0 (sCon (.int 2))) (sBin .Add addD add_ok (sIx (sVar 0) (sCon (.int 2))) (sCon (.int 1)))), (xSet 2 (sIx (sLst [.one (sCon (.int 2147483647)), .one (sCon (.int 2147483629)), .one (sCon (.int 2147483587)), .one (sCon (.int 2147483579)), .one (sCon (.int 2147483563))]) (sBin .Mod modD mod_ok (sBlt bInt [(sIx (sVar 0) (sCon (.int 2)))]) (sCon (.int 5))))), (xSet 3 (sBin .Mod modD mod_ok (sBlt bInt [(sBin .Pow powD pow_ok (sBlt bInt [(sBin .Add addD add_ok (sBin .Add addD add_ok (sIx (sVar 0) (sCon (.int 1))) (sBin .Mult mulD mul_ok (sBin .Mult mulD mul_ok (sCon (.int 88211)) (sIx (sVar 0) (sCon (.int 2)))) (sIx (sVar 0) (sCon (.int 2))))) (sCon (.int 2909)))]) (sCon (.int 3)))]) (sVar 2))), (xSet 3 (sBin .Mod modD mod_ok (sBlt bInt [(sBin .Mult mulD mul_ok (sVar 3) (sBin .Add addD add_ok (sBin .Mod modD mod_ok (sBlt bInt [(sVar 3)]) (sCon (.int 13441))) (sBin .Mult mulD mul_ok (sCon (.int 419)) (sIx (sVar 0) (sCon (.int 2))))))]) (sCon (.int 2305843009213693907)))), (xRet (sBin .Mod modD mod_ok (sBlt bInt [(sBin .FloorDiv fdvD fdv_ok (sVar 3) (sCon (.int 229)))]) (sVar 1)))]
def M__law_take : FnSem := semI 2 B__law_take
theorem len__law_take : N__law_take.length = 5 := rfl
@[simp] theorem fns__law_take : G__law_take.fns = ([] : List (Str × FnSem)) := rfl
@[simp] theorem cs__law_take : G__law_take.cs = ([] : List (Str × D)) := rfl
@[simp] theorem init__law_take (a0 a1 : D) : initI N__law_take.length [a0, a1] = [Slot.ow a0, Slot.va a1, Slot.un, Slot.un, Slot.un] := rfl
@[simp] theorem nio__law_take : M__law_take.nio = true := rfl
/-! ### _law_of -/
def N__law_of : List Str := ["pot", "some"]
def G__law_of : Gx := ⟨[("_law_take", M__law_take)], ["len"], [], none⟩
def B__law_of : List (SS G__law_of N__law_of 1) := [(xRet (sIx (sVar 1) (sCallI 0 0 [(sBlt bLen [(sVar 1)])])))]
def M__law_of : FnSem := semI 2 B__law_of
theorem len__law_of : N__law_of.length = 2 := rfl
@[simp] theorem fns__law_of : G__law_of.fns = ([("_law_take", M__law_take)] : List (Str × FnSem)) := rfl
@[simp] theorem cs__law_of : G__law_of.cs = ([] : List (Str × D)) := rfl
@[simp] theorem init__law_of (a0 a1 : D) : initI N__law_of.length [a0, a1] = [Slot.ow a0, Slot.va a1] := rfl
@[simp] theorem nio__law_of : M__law_of.nio = true := rfl
/-! ### _law_cells -/
def N__law_cells : List Str := ["script", "most"]
def G__law_cells : Gx := ⟨[], ["list", "range", "max", "min", "len"], [], none⟩
def B__law_cells : List (SS G__law_cells N__law_cells 0) := [(xRet (sLr (sBlt bMax [(sCon (.int 1)), (sBlt bMin [(sVar 1), (sBlt bLen [(sVar 0)])])])))]
def M__law_cells : FnSem := semD 2 B__law_cells
theorem len__law_cells : N__law_cells.length = 2 := rfl
@[simp] theorem fns__law_cells : G__law_cells.fns = ([] : List (Str × FnSem)) := rfl
@[simp] theorem cs__law_cells : G__law_cells.cs = ([] : List (Str × D)) := rfl
@[simp] theorem init__law_cells (a0 a1 : D) : initR N__law_cells.length [a0, a1] = [Slot.va a0, Slot.va a1] := rfl
@[simp] theorem nio__law_cells : M__law_cells.nio = false := rfl
/-! ### _law_some -/
def N__law_some : List Str := ["pot", "pool", "many", "rests", "found", "lap"]
def G__law_some : Gx := ⟨[("_law_take", M__law_take)], ["list", "range", "len"], [], none⟩
def B__law_some : List (SS G__law_some N__law_some 1) := [(xPar2 3 4 (sBlt bList [(sVar 1)]) (sLst [])), (xFor (gNm 5) (iRange [(sVar 2)]) [(xExpr (sM1 mAppend 4 (sM1 mPopAt 3 (sCallI 0 0 [(sBlt bLen [(sVar 3)])]))))]), (xRet (sVar 4))]
def M__law_some : FnSem := semI 3 B__law_some
theorem len__law_some : N__law_some.length = 6 := rfl
@[simp] theorem fns__law_some : G__law_some.fns = ([("_law_take", M__law_take)] : List (Str × FnSem)) := rfl
@[simp] theorem cs__law_some : G__law_some.cs = ([] : List (Str × D)) := rfl
@[simp] theorem init__law_some (a0 a1 a2 : D) : initI N__law_some.length [a0, a1, a2] = [Slot.ow a0, Slot.va a1, Slot.va a2, Slot.un, Slot.un, Slot.un] := rfl
@[simp] theorem nio__law_some : M__law_some.nio = true := rfl
/-! ### _law_drawn -/
def N__law_drawn : List Str := ["pot", "most", "many", "scale", "jobs", "job"]
def G__law_drawn : Gx := ⟨[("_law_take", M__law_take), ("_law_of", M__law_of)], ["int", "range", "tuple"], [], none⟩
def B__law_drawn : List (SS G__law_drawn N__law_drawn 1) := [(xPar3 2 3 4 (sBlt bInt [(sBin .Add addD add_ok (sCon (.int 2)) (sCallI 0 0 [(sBin .Sub subD sub_ok (sVar 1) (sCon (.int 1)))]))]) (sBlt bInt [(sCallI 1 0 [(sLst [.one (sCon (.int 2)), .one (sCon (.int 9)), .one (sCon (.int 1000))])])]) (sLst [])), (xFor (gNm 5) (iRange [(sVar 2)]) [(xExpr (sM1 mAppend 4 (sTup [.one (sBlt bInt [(sBin .Add addD add_ok (sCon (.int 1)) (sCallI 0 0 [(sVar 3)]))]), .one (sBlt bInt [(sBin .Add addD add_ok (sCon (.int 1)) (sCallI 0 0 [(sVar 3)]))])]))), (xIf (tAnds [(tCmp .Gt gtD gt_ok (sVar 5) (sCon (.int 0))), (tCmp .Eq eqSD eqS_ok (sCallI 0 0 [(sCon (.int 4))]) (sCon (.int 0)))]) [(xAsg (gtSub 4 (sNeg (sCon (.int 1)))) (sCallI 1 0 [(sLst [.one (sIx (sVar 4) (sNeg (sCon (.int 2)))), .one (sRev (sIx (sVar 4) (sNeg (sCon (.int 2))))), .one (sTup [.one (sIx (sIx (sVar 4) (sNeg (sCon (.int 2)))) (sCon (.int 0))), .one (sIx (sIx (sVar 4) (sNeg (sCon (.int 1)))) (sCon (.int 1)))])])]))] [])]), (xRet (sBlt bTuple [(sVar 4)]))]
def M__law_drawn : FnSem := semI 2 B__law_drawn
theorem len__law_drawn : N__law_drawn.length = 6 := rfl
@[simp] theorem fns__law_drawn : G__law_drawn.fns = ([("_law_take", M__law_take), ("_law_of", M__law_of)] : List (Str × FnSem)) := rfl
@[simp] theorem cs__law_drawn : G__law_drawn.cs = ([] : List (Str × D)) := rfl
@[simp] theorem init__law_drawn (a0 a1 : D) : initI N__law_drawn.length [a0, a1] = [Slot.ow a0, Slot.va a1, Slot.un, Slot.un, Slot.un, Slot.un] := rfl
@[simp] theorem nio__law_drawn : M__law_drawn.nio = true := rfl
/-! ### _law_end -/
def N__law_end : List Str := ["jobs", "order", "first", "second", "at"]
def G__law_end : Gx := ⟨[], ["max"], [], none⟩
def B__law_end : List (SS G__law_end N__law_end 0) := [(xAsg (gtTp [(gtOf (gNm 2)), (gtOf (gNm 3))]) (sTup [.one (sCon (.int 0)), .one (sCon (.int 0))])), (xFor (gNm 4) (iSeq (sVar 1)) [(xSet 2 (sBin .Add addD add_ok (sVar 2) (sIx (sIx (sVar 0) (sVar 4)) (sCon (.int 0))))), (xSet 3 (sBin .Add addD add_ok (sBlt bMax [(sVar 2), (sVar 3)]) (sIx (sIx (sVar 0) (sVar 4)) (sCon (.int 1)))))]), (xRet (sVar 3))]
def M__law_end : FnSem := semD 2 B__law_end
theorem len__law_end : N__law_end.length = 5 := rfl
@[simp] theorem fns__law_end : G__law_end.fns = ([] : List (Str × FnSem)) := rfl
@[simp] theorem cs__law_end : G__law_end.cs = ([] : List (Str × D)) := rfl
@[simp] theorem init__law_end (a0 a1 : D) : initR N__law_end.length [a0, a1] = [Slot.va a0, Slot.va a1, Slot.un, Slot.un, Slot.un] := rfl
@[simp] theorem nio__law_end : M__law_end.nio = false := rfl
/-! ### _law_rule -/
def N__law_rule : List Str := ["jobs", "ahead", "rest", "length", "at"]
def G__law_rule : Gx := ⟨[], ["sorted", "range", "len", "tuple"], [], none⟩
def B__law_rule : List (SS G__law_rule N__law_rule 0) := [(xSetLc 1 [("length", 3), ("at", 4)] (gTp [(gNm 3), (gNm 4)]) (iSeq (sBlt bSorted [(sLc [("at", 4)] (gNm 4) (iRange [(sBlt bLen [(sVar 0)])]) (some (tCmp .Lt ltD lt_ok (sIx (sIx (sVar 0) (sVar 4)) (sCon (.int 0))) (sIx (sIx (sVar 0) (sVar 4)) (sCon (.int 1))))) (sTup [.one (sIx (sIx (sVar 0) (sVar 4)) (sCon (.int 0))), .one (sVar 4)]))])) none (sVar 4)), (xSetLc 2 [("length", 3), ("at", 4)] (gTp [(gNm 3), (gNm 4)]) (iSeq (sBlt bSorted [(sLc [("at", 4)] (gNm 4) (iRange [(sBlt bLen [(sVar 0)])]) (some (tCmp .GtE geD ge_ok (sIx (sIx (sVar 0) (sVar 4)) (sCon (.int 0))) (sIx (sIx (sVar 0) (sVar 4)) (sCon (.int 1))))) (sTup [.one (sNeg (sIx (sIx (sVar 0) (sVar 4)) (sCon (.int 1)))), .one (sVar 4)]))])) none (sVar 4)), (xRet (sBlt bTuple [(sBin .Add addD add_ok (sVar 1) (sVar 2))]))]
def M__law_rule : FnSem := semD 1 B__law_rule
theorem len__law_rule : N__law_rule.length = 5 := rfl
@[simp] theorem fns__law_rule : G__law_rule.fns = ([] : List (Str × FnSem)) := rfl
@[simp] theorem cs__law_rule : G__law_rule.cs = ([] : List (Str × D)) := rfl
@[simp] theorem init__law_rule (a0 : D) : initR N__law_rule.length [a0] = [Slot.va a0, Slot.un, Slot.un, Slot.un, Slot.un] := rfl
@[simp] theorem nio__law_rule : M__law_rule.nio = false := rfl
/-! ### _law_starts -/
def N__law_starts : List Str := ["jobs", "order", "found", "first", "second", "at"]
def G__law_starts : Gx := ⟨[], ["len", "max", "tuple"], [], none⟩
def B__law_starts : List (SS G__law_starts N__law_starts 0) := [(xPar3 2 3 4 (sBin .Mult mulD mul_ok (sLst [.one (sCon .none)]) (sBin .Mult mulD mul_ok (sCon (.int 2)) (sBlt bLen [(sVar 0)]))) (sCon (.int 0)) (sCon (.int 0))), (xFor (gNm 5) (iSeq (sVar 1)) [(xAsg (gtSub 2 (sBin .Mult mulD mul_ok (sCon (.int 2)) (sVar 5))) (sVar 3)), (xSet 3 (sBin .Add addD add_ok (sVar 3) (sIx (sIx (sVar 0) (sVar 5)) (sCon (.int 0))))), (xAsg (gtSub 2 (sBin .Add addD add_ok (sBin .Mult mulD mul_ok (sCon (.int 2)) (sVar 5)) (sCon (.int 1)))) (sBlt bMax [(sVar 3), (sVar 4)])), (xSet 4 (sBin .Add addD add_ok (sIx (sVar 2) (sBin .Add addD add_ok (sBin .Mult mulD mul_ok (sCon (.int 2)) (sVar 5)) (sCon (.int 1)))) (sIx (sIx (sVar 0) (sVar 5)) (sCon (.int 1)))))]), (xRet (sBlt bTuple [(sVar 2)]))]
def M__law_starts : FnSem := semD 2 B__law_starts
theorem len__law_starts : N__law_starts.length = 6 := rfl
@[simp] theorem fns__law_starts : G__law_starts.fns = ([] : List (Str × FnSem)) := rfl
@[simp] theorem cs__law_starts : G__law_starts.cs = ([] : List (Str × D)) := rfl
@[simp] theorem init__law_starts (a0 a1 : D) : initR N__law_starts.length [a0, a1] = [Slot.va a0, Slot.va a1, Slot.un, Slot.un, Slot.un, Slot.un] := rfl
@[simp] theorem nio__law_starts : M__law_starts.nio = false := rfl
/-! ### _law_is_order_right -/
def N__law_is_order_right : List Str := ["shop", "jobs", "order", "least", "end", "starts", "spot", "sums", "at", "job"]
def G__law_is_order_right : Gx := ⟨[("_law_end", M__law_end), ("_law_starts", M__law_starts), ("flow_end", M_flow_end), ("is_best_sequence", M_is_best_sequence), ("is_plan", M_is_plan), ("end_of", M_end_of), ("pressed", M_pressed), ("turn_of", M_turn_of)], ["repr", "range", "len", "sum", "max"], [], none⟩
def B__law_is_order_right : List (SS G__law_is_order_right N__law_is_order_right 0) := [(xPar2 4 5 (sCall 0 [(sVar 1), (sVar 2)]) (sCall 1 [(sVar 1), (sVar 2)])), (xIf (tOrs [(tCmp .NotEq neSD neS_ok (sCall 2 [(sVar 1), (sVar 2)]) (sVar 4)), (tCmp .Lt ltD lt_ok (sVar 4) (sVar 3)), (tCmp .NotEq neSD neS_ok (sBlt bRepr [(sCall 3 [(sVar 1), (sVar 2)])]) (sBlt bRepr [(sCmp .Eq eqSD eqS_ok (sVar 4) (sVar 3))]))]) [(xRet (sCon (.bool false)))] []), (xIf (tOrs [(tCmp .IsNot isntD isnt_ok (sCall 4 [(sVar 0), (sVar 5)]) (sCon (.bool true))), (tCmp .NotEq neSD neS_ok (sCall 5 [(sVar 0), (sVar 5)]) (sVar 4)), (tCmp .NotEq neSD neS_ok (sCall 6 [(sVar 0), (sVar 5)]) (sVar 5))]) [(xRet (sCon (.bool false)))] []), (xSet 6 (sCall 7 [(sVar 1), (sVar 2)])), (xSet 7 (sLst [])), (xFor (gNm 8) (iRange [(sBlt bLen [(sVar 2)])]) [(xExpr (sM1 mAppend 7 (sBin .Add addD add_ok (sBlt bSum [(sLc [("job", 9)] (gNm 9) (iSeq (sSl (sVar 2) none (some (sBin .Add addD add_ok (sVar 8) (sCon (.int 1)))))) none (sIx (sIx (sVar 1) (sVar 9)) (sCon (.int 0))))]) (sBlt bSum [(sLc [("job", 9)] (gNm 9) (iSeq (sSl (sVar 2) (some (sVar 8)) none)) none (sIx (sIx (sVar 1) (sVar 9)) (sCon (.int 1))))]))))]), (xRet (sAnd [(sCmp .Eq eqSD eqS_ok (sBlt bMax [(sVar 7)]) (sVar 4)), (sCmp .Eq eqSD eqS_ok (sBlt bRepr [(sVar 6)]) (sBlt bRepr [(sIdx 7 (sVar 4))]))]))]
def M__law_is_order_right : FnSem := semD 4 B__law_is_order_right
theorem len__law_is_order_right : N__law_is_order_right.length = 10 := rfl
@[simp] theorem fns__law_is_order_right : G__law_is_order_right.fns = ([("_law_end", M__law_end), ("_law_starts", M__law_starts), ("flow_end", M_flow_end), ("is_best_sequence", M_is_best_sequence), ("is_plan", M_is_plan), ("end_of", M_end_of), ("pressed", M_pressed), ("turn_of", M_turn_of)] : List (Str × FnSem)) := rfl
@[simp] theorem cs__law_is_order_right : G__law_is_order_right.cs = ([] : List (Str × D)) := rfl
@[simp] theorem init__law_is_order_right (a0 a1 a2 a3 : D) : initR N__law_is_order_right.length [a0, a1, a2, a3] = [Slot.va a0, Slot.va a1, Slot.va a2, Slot.va a3, Slot.un, Slot.un, Slot.un, Slot.un, Slot.un, Slot.un] := rfl
@[simp] theorem nio__law_is_order_right : M__law_is_order_right.nio = false := rfl
/-! ### _law_right -/
def N__law_right : List Str := ["pot", "jobs", "many", "least", "shop", "told", "flow", "orders", "turn", "at", "near", "loads", "low", "out", "less", "job", "more", "longer", "cut", "ends", "hand", "some", "order", "one", "other"]
def G__law_right : Gx := ⟨[("_law_drawn", M__law_drawn), ("_law_end", M__law_end), ("_law_rule", M__law_rule), ("shop_of_jobs", M_shop_of_jobs), ("best_sequence", M_best_sequence), ("flow_shop", M_flow_shop), ("load_of", M_load_of), ("least_flow_end", M_least_flow_end), ("_law_some", M__law_some), ("_law_is_order_right", M__law_is_order_right), ("_law_take", M__law_take), ("flow_end", M_flow_end)], ["len", "tuple", "sorted", "repr", "range", "list", "int", "all", "max", "min", "sum"], [], none⟩
def B__law_right : List (SS G__law_right N__law_right 1) := [(xSet 1 (sCallI 0 0 [(sCon (.int 12))])), (xAsg (gtTp [(gtOf (gNm 2)), (gtOf (gNm 3))]) (sTup [.one (sBlt bLen [(sVar 1)]), .one (sCall 1 [(sVar 1), (sCall 2 [(sVar 1)])])])), (xAsg (gtTp [(gtOf (gNm 4)), (gtOf (gNm 5))]) (sTup [.one (sCall 3 [(sCon (.int 2)), (sBlt bTuple [(sLc [("one", 23), ("other", 24)] (gTp [(gNm 23), (gNm 24)]) (iSeq (sVar 1)) none (sTup [.one (sTup [.one (sCon (.int 0)), .one (sVar 23)]), .one (sTup [.one (sCon (.int 1)), .one (sVar 24)])]))])]), .one (sCall 4 [(sVar 1)])])), (xSet 6 (sCall 5 [(sVar 1)])), (xIf (tOrs [(tCmp .NotEq neSD neS_ok (sBlt bSorted [(sIx (sVar 6) (sCon (.int 1)))]) (sBlt bSorted [(sIx (sVar 4) (sCon (.int 1)))])), (tCmp .NotEq neSD neS_ok (sCall 6 [(sVar 6), (sCon (.int 1))]) (sCall 6 [(sVar 4), (sCon (.int 1))]))]) [(xRet (sCon (.bool false)))] []), (xIf (tOrs [(tCmp .NotEq neSD neS_ok (sCall 7 [(sVar 1)]) (sVar 3)), (tCmp .NotEq neSD neS_ok (sBlt bRepr [(sVar 5)]) (sBlt bRepr [(sCall 2 [(sVar 1)])]))]) [(xRet (sCon (.bool false)))] []), (xSet 7 (sLst [.one (sVar 5), .one (sRev (sVar 5))])), (xFor (gNm 8) (iRange [(sCon (.int 4))]) [(xExpr (sM1 mAppend 7 (sBlt bTuple [(sLc [("at", 9)] (gNm 9) (iSeq (sCallI 8 0 [(sLr (sVar 2)), (sVar 2)])) none (sBlt bInt [(sVar 9)]))])))]), (xIf (tNot (tVal (sBlt bAll [(sLc [("order", 22)] (gNm 22) (iSeq (sVar 7)) none (sCall 9 [(sVar 4), (sVar 1), (sVar 22), (sVar 3)]))]))) [(xRet (sCon (.bool false)))] []), (xSet 9 (sBlt bInt [(sCallI 10 0 [(sBin .Sub subD sub_ok (sVar 2) (sCon (.int 1)))])])), (xSet 10 (sBin .Add addD add_ok (sBin .Add addD add_ok (sSl (sVar 5) none (some (sVar 9))) (sTup [.one (sIx (sVar 5) (sBin .Add addD add_ok (sVar 9) (sCon (.int 1)))), .one (sIx (sVar 5) (sVar 9))])) (sSl (sVar 5) (some (sBin .Add addD add_ok (sVar 9) (sCon (.int 2)))) none))), (xIf (tCmp .Lt ltD lt_ok (sCall 11 [(sVar 1), (sVar 10)]) (sVar 3)) [(xRet (sCon (.bool false)))] []), (xSetLc 11 [("hand", 20)] (gNm 20) (iRange [(sCon (.int 2))]) none (sCall 6 [(sVar 4), (sVar 20)])), (xSet 12 (sBlt bMax [(sBin .Add addD add_ok (sIx (sVar 11) (sCon (.int 0))) (sBlt bMin [(sLc [("job", 15)] (gNm 15) (iSeq (sVar 1)) none (sIx (sVar 15) (sCon (.int 1))))])), (sBin .Add addD add_ok (sIx (sVar 11) (sCon (.int 1))) (sBlt bMin [(sLc [("job", 15)] (gNm 15) (iSeq (sVar 1)) none (sIx (sVar 15) (sCon (.int 0))))]))])), (xIf (tNot (tChain2 .LtE .LtE leD leD le_ok le_ok (sBlt bMax [(sBin .Add addD add_ok (sLst [.one (sVar 12)]) (sLc [("job", 15)] (gNm 15) (iSeq (sVar 1)) none (sBlt bSum [(sVar 15)])))]) (sVar 3) (sBlt bSum [(sVar 11)]))) [(xRet (sCon (.bool false)))] []), (xSet 13 (sBlt bInt [(sCallI 10 0 [(sVar 2)])])), (xPar2 14 15 (sBin .Add addD add_ok (sSl (sVar 1) none (some (sVar 13))) (sSl (sVar 1) (some (sBin .Add addD add_ok (sVar 13) (sCon (.int 1)))) none)) (sIx (sVar 1) (sVar 13))), (xSet 16 (sBlt bInt [(sCallI 10 0 [(sBin .Sub subD sub_ok (sCon (.int 1001)) (sIx (sVar 15) (sCon (.int 0))))])])), (xSet 17 (sBin .Add addD add_ok (sBin .Add addD add_ok (sSl (sVar 1) none (some (sVar 13))) (sTup [.one (sTup [.one (sBin .Add addD add_ok (sIx (sVar 15) (sCon (.int 0))) (sVar 16)), .one (sIx (sVar 15) (sCon (.int 1)))])])) (sSl (sVar 1) (some (sBin .Add addD add_ok (sVar 13) (sCon (.int 1)))) none))), (xIf (tNot (tChain2 .LtE .LtE leD leD le_ok le_ok (sVar 3) (sCall 7 [(sVar 17)]) (sBin .Add addD add_ok (sVar 3) (sVar 16)))) [(xRet (sCon (.bool false)))] []), (xIf (tAnds [(tCmp .NotEq neSD neS_ok (sVar 14) (sTup [])), (tNot (tChain2 .LtE .LtE leD leD le_ok le_ok (sCall 7 [(sVar 14)]) (sVar 3) (sBin .Add addD add_ok (sCall 7 [(sVar 14)]) (sBlt bSum [(sVar 15)]))))]) [(xRet (sCon (.bool false)))] []), (xSet 18 (sBlt bInt [(sBin .Add addD add_ok (sCon (.int 1)) (sCallI 10 0 [(sBin .Sub subD sub_ok (sVar 2) (sCon (.int 1)))]))])), (xSetLc 19 [("some", 21)] (gNm 21) (iSeq (sTup [.one (sSl (sVar 1) none (some (sVar 18))), .one (sSl (sVar 1) (some (sVar 18)) none)])) none (sCall 7 [(sVar 21)])), (xRet (sChain .LtE .LtE leD leD le_ok le_ok (sBlt bMax [(sVar 19)]) (sVar 3) (sBlt bSum [(sVar 19)])))]
def M__law_right : FnSem := semI 1 B__law_right
theorem len__law_right : N__law_right.length = 25 := rfl
@[simp] theorem fns__law_right : G__law_right.fns = ([("_law_drawn", M__law_drawn), ("_law_end", M__law_end), ("_law_rule", M__law_rule), ("shop_of_jobs", M_shop_of_jobs), ("best_sequence", M_best_sequence), ("flow_shop", M_flow_shop), ("load_of", M_load_of), ("least_flow_end", M_least_flow_end), ("_law_some", M__law_some), ("_law_is_order_right", M__law_is_order_right), ("_law_take", M__law_take), ("flow_end", M_flow_end)] : List (Str × FnSem)) := rfl
@[simp] theorem cs__law_right : G__law_right.cs = ([] : List (Str × D)) := rfl
@[simp] theorem init__law_right (a0 : D) : initI N__law_right.length [a0] = [Slot.ow a0, Slot.un, Slot.un, Slot.un, Slot.un, Slot.un, Slot.un, Slot.un, Slot.un, Slot.un, Slot.un, Slot.un, Slot.un, Slot.un, Slot.un, Slot.un, Slot.un, Slot.un, Slot.un, Slot.un, Slot.un, Slot.un, Slot.un, Slot.un, Slot.un] := rfl
@[simp] theorem nio__law_right : M__law_right.nio = true := rfl
/-! ### law -/
def N_law : List Str := ["script", "place"]
def G_law : Gx := ⟨[("_law_cells", M__law_cells), ("_law_right", M__law_right), ("_law_pot", M__law_pot)], ["all"], [], none⟩
def B_law : List (SS G_law N_law 0) := [(xRet (sBlt bAll [(sLc [("place", 1)] (gNm 1) (iSeq (sCall 0 [(sVar 0), (sCon (.int 3))])) none (sCallF 1 (sCall 2 [(sVar 0), (sVar 1)]) []))]))]
def M_law : FnSem := semD 1 B_law
theorem len_law : N_law.length = 2 := rfl
@[simp] theorem fns_law : G_law.fns = ([("_law_cells", M__law_cells), ("_law_right", M__law_right), ("_law_pot", M__law_pot)] : List (Str × FnSem)) := rfl
@[simp] theorem cs_law : G_law.cs = ([] : List (Str × D)) := rfl
@[simp] theorem init_law (a0 : D) : initR N_law.length [a0] = [Slot.va a0, Slot.un] := rfl
@[simp] theorem nio_law : M_law.nio = false := rfl
end
section
variable [Tbs]
theorem m_is_int : mtB (defScope H88.s_is_int) (fun _ => true) B_is_int (defBody H88.s_is_int) = true := by kernel_rfl
theorem sc_is_int : FnScope N_is_int ["value", "low", "high"] (defScope H88.s_is_int) := C8.fnScope_by (by decide +kernel)
theorem m_are_ints : mtB (defScope H88.s_are_ints) (fun _ => true) B_are_ints (defBody H88.s_are_ints) = true := by kernel_rfl
theorem sc_are_ints : FnScope N_are_ints ["value", "low", "high"] (defScope H88.s_are_ints) := C8.fnScope_by (by decide +kernel)
theorem m_is_rising : mtB (defScope H88.s_is_rising) (fun _ => true) B_is_rising (defBody H88.s_is_rising) = true := by kernel_rfl
theorem sc_is_rising : FnScope N_is_rising ["some"] (defScope H88.s_is_rising) := C8.fnScope_by (by decide +kernel)
theorem m_is_work : mtB (defScope H88.s_is_work) (fun _ => true) B_is_work (defBody H88.s_is_work) = true := by kernel_rfl
theorem sc_is_work : FnScope N_is_work ["value", "hands"] (defScope H88.s_is_work) := C8.fnScope_by (by decide +kernel)
theorem m_is_window : mtB (defScope H88.s_is_window) (fun _ => true) B_is_window (defBody H88.s_is_window) = true := by kernel_rfl
theorem sc_is_window : FnScope N_is_window ["value"] (defScope H88.s_is_window) := C8.fnScope_by (by decide +kernel)
theorem m_is_row : mtB (defScope H88.s_is_row) (fun _ => true) B_is_row (defBody H88.s_is_row) = true := by kernel_rfl
theorem sc_is_row : FnScope N_is_row ["value", "works"] (defScope H88.s_is_row) := C8.fnScope_by (by decide +kernel)
theorem m_is_shop : mtB (defScope H88.s_is_shop) (fun _ => true) B_is_shop (defBody H88.s_is_shop) = true := by kernel_rfl
theorem sc_is_shop : FnScope N_is_shop ["value"] (defScope H88.s_is_shop) := C8.fnScope_by (by decide +kernel)
theorem m_look_at_shop : mtB (defScope H88.s_look_at_shop) (fun _ => true) B_look_at_shop (defBody H88.s_look_at_shop) = true := by kernel_rfl
theorem sc_look_at_shop : FnScope N_look_at_shop ["shop"] (defScope H88.s_look_at_shop) := C8.fnScope_by (by decide +kernel)
theorem m_look_at_hand : mtB (defScope H88.s_look_at_hand) (fun _ => true) B_look_at_hand (defBody H88.s_look_at_hand) = true := by kernel_rfl
theorem sc_look_at_hand : FnScope N_look_at_hand ["shop", "hand"] (defScope H88.s_look_at_hand) := C8.fnScope_by (by decide +kernel)
theorem m_told_on : mtB (defScope H88.s_told_on) (fun _ => true) B_told_on (defBody H88.s_told_on) = true := by kernel_rfl
theorem sc_told_on : FnScope N_told_on ["shop", "hand"] (defScope H88.s_told_on) := C8.fnScope_by (by decide +kernel)
theorem m_told_pairs : mtB (defScope H88.s_told_pairs) (fun _ => true) B_told_pairs (defBody H88.s_told_pairs) = true := by kernel_rfl
theorem sc_told_pairs : FnScope N_told_pairs ["shop"] (defScope H88.s_told_pairs) := C8.fnScope_by (by decide +kernel)
theorem m_load_of : mtB (defScope H88.s_load_of) (fun _ => true) B_load_of (defBody H88.s_load_of) = true := by kernel_rfl
theorem sc_load_of : FnScope N_load_of ["shop", "hand"] (defScope H88.s_load_of) := C8.fnScope_by (by decide +kernel)
theorem m_are_jobs : mtB (defScope H88.s_are_jobs) (fun _ => true) B_are_jobs (defBody H88.s_are_jobs) = true := by kernel_rfl
theorem sc_are_jobs : FnScope N_are_jobs ["value", "hands"] (defScope H88.s_are_jobs) := C8.fnScope_by (by decide +kernel)
theorem m_shop_of_jobs : mtB (defScope H88.s_shop_of_jobs) (fun _ => true) B_shop_of_jobs (defBody H88.s_shop_of_jobs) = true := by kernel_rfl
theorem sc_shop_of_jobs : FnScope N_shop_of_jobs ["hands", "jobs"] (defScope H88.s_shop_of_jobs) := C8.fnScope_by (by decide +kernel)
theorem m_are_flows : mtB (defScope H88.s_are_flows) (fun _ => true) B_are_flows (defBody H88.s_are_flows) = true := by kernel_rfl
theorem sc_are_flows : FnScope N_are_flows ["value"] (defScope H88.s_are_flows) := C8.fnScope_by (by decide +kernel)
theorem m_look_at_flows : mtB (defScope H88.s_look_at_flows) (fun _ => true) B_look_at_flows (defBody H88.s_look_at_flows) = true := by kernel_rfl
theorem sc_look_at_flows : FnScope N_look_at_flows ["jobs"] (defScope H88.s_look_at_flows) := C8.fnScope_by (by decide +kernel)
theorem m_told_sequence : mtB (defScope H88.s_told_sequence) (fun _ => true) B_told_sequence (defBody H88.s_told_sequence) = true := by kernel_rfl
theorem sc_told_sequence : FnScope N_told_sequence ["jobs"] (defScope H88.s_told_sequence) := C8.fnScope_by (by decide +kernel)
theorem m_told_flow_end : mtB (defScope H88.s_told_flow_end) (fun _ => true) B_told_flow_end (defBody H88.s_told_flow_end) = true := by kernel_rfl
theorem sc_told_flow_end : FnScope N_told_flow_end ["jobs", "order"] (defScope H88.s_told_flow_end) := C8.fnScope_by (by decide +kernel)
theorem m_best_sequence : mtB (defScope H88.s_best_sequence) (fun _ => true) B_best_sequence (defBody H88.s_best_sequence) = true := by kernel_rfl
theorem sc_best_sequence : FnScope N_best_sequence ["jobs"] (defScope H88.s_best_sequence) := C8.fnScope_by (by decide +kernel)
theorem m_flow_end : mtB (defScope H88.s_flow_end) (fun _ => true) B_flow_end (defBody H88.s_flow_end) = true := by kernel_rfl
theorem sc_flow_end : FnScope N_flow_end ["jobs", "order"] (defScope H88.s_flow_end) := C8.fnScope_by (by decide +kernel)
theorem m_least_flow_end : mtB (defScope H88.s_least_flow_end) (fun _ => true) B_least_flow_end (defBody H88.s_least_flow_end) = true := by kernel_rfl
theorem sc_least_flow_end : FnScope N_least_flow_end ["jobs"] (defScope H88.s_least_flow_end) := C8.fnScope_by (by decide +kernel)
theorem m_is_best_sequence : mtB (defScope H88.s_is_best_sequence) (fun _ => true) B_is_best_sequence (defBody H88.s_is_best_sequence) = true := by kernel_rfl
theorem sc_is_best_sequence : FnScope N_is_best_sequence ["jobs", "value"] (defScope H88.s_is_best_sequence) := C8.fnScope_by (by decide +kernel)
theorem m_told_turn : mtB (defScope H88.s_told_turn) (fun _ => true) B_told_turn (defBody H88.s_told_turn) = true := by kernel_rfl
theorem sc_told_turn : FnScope N_told_turn ["jobs", "order"] (defScope H88.s_told_turn) := C8.fnScope_by (by decide +kernel)
theorem m_turn_of : mtB (defScope H88.s_turn_of) (fun _ => true) B_turn_of (defBody H88.s_turn_of) = true := by kernel_rfl
theorem sc_turn_of : FnScope N_turn_of ["jobs", "order"] (defScope H88.s_turn_of) := C8.fnScope_by (by decide +kernel)
theorem m_flow_shop : mtB (defScope H88.s_flow_shop) (fun _ => true) B_flow_shop (defBody H88.s_flow_shop) = true := by kernel_rfl
theorem sc_flow_shop : FnScope N_flow_shop ["jobs"] (defScope H88.s_flow_shop) := C8.fnScope_by (by decide +kernel)
theorem m_told_row_steps : mtB (defScope H88.s_told_row_steps) (fun _ => true) B_told_row_steps (defBody H88.s_told_row_steps) = true := by kernel_rfl
theorem sc_told_row_steps : FnScope N_told_row_steps ["shop"] (defScope H88.s_told_row_steps) := C8.fnScope_by (by decide +kernel)
theorem m_told_end_steps : mtB (defScope H88.s_told_end_steps) (fun _ => true) B_told_end_steps (defBody H88.s_told_end_steps) = true := by kernel_rfl
theorem sc_told_end_steps : FnScope N_told_end_steps ["shop", "end"] (defScope H88.s_told_end_steps) := C8.fnScope_by (by decide +kernel)
theorem m_told_order_steps : mtB (defScope H88.s_told_order_steps) (fun _ => true) B_told_order_steps (defBody H88.s_told_order_steps) = true := by kernel_rfl
theorem sc_told_order_steps : FnScope N_told_order_steps ["shop", "orders"] (defScope H88.s_told_order_steps) := C8.fnScope_by (by decide +kernel)
theorem m_told_steps : mtB (defScope H88.s_told_steps) (fun _ => true) B_told_steps (defBody H88.s_told_steps) = true := by kernel_rfl
theorem sc_told_steps : FnScope N_told_steps ["shop", "orders", "end"] (defScope H88.s_told_steps) := C8.fnScope_by (by decide +kernel)
theorem m_told_far : mtB (defScope H88.s_told_far) (fun _ => true) B_told_far (defBody H88.s_told_far) = true := by kernel_rfl
theorem sc_told_far : FnScope N_told_far ["steps", "places", "start"] (defScope H88.s_told_far) := C8.fnScope_by (by decide +kernel)
theorem m_told_starts : mtB (defScope H88.s_told_starts) (fun _ => true) B_told_starts (defBody H88.s_told_starts) = true := by kernel_rfl
theorem sc_told_starts : FnScope N_told_starts ["shop", "orders", "end"] (defScope H88.s_told_starts) := C8.fnScope_by (by decide +kernel)
theorem m_are_starts : mtB (defScope H88.s_are_starts) (fun _ => true) B_are_starts (defBody H88.s_are_starts) = true := by kernel_rfl
theorem sc_are_starts : FnScope N_are_starts ["shop", "value"] (defScope H88.s_are_starts) := C8.fnScope_by (by decide +kernel)
theorem m_look_at_starts : mtB (defScope H88.s_look_at_starts) (fun _ => true) B_look_at_starts (defBody H88.s_look_at_starts) = true := by kernel_rfl
theorem sc_look_at_starts : FnScope N_look_at_starts ["shop", "starts"] (defScope H88.s_look_at_starts) := C8.fnScope_by (by decide +kernel)
theorem m_told_wrongs : mtB (defScope H88.s_told_wrongs) (fun _ => true) B_told_wrongs (defBody H88.s_told_wrongs) = true := by kernel_rfl
theorem sc_told_wrongs : FnScope N_told_wrongs ["shop", "starts"] (defScope H88.s_told_wrongs) := C8.fnScope_by (by decide +kernel)
theorem m_is_right : mtB (defScope H88.s_is_right) (fun _ => true) B_is_right (defBody H88.s_is_right) = true := by kernel_rfl
theorem sc_is_right : FnScope N_is_right ["shop", "starts"] (defScope H88.s_is_right) := C8.fnScope_by (by decide +kernel)
theorem m_is_plan : mtB (defScope H88.s_is_plan) (fun _ => true) B_is_plan (defBody H88.s_is_plan) = true := by kernel_rfl
theorem sc_is_plan : FnScope N_is_plan ["shop", "value"] (defScope H88.s_is_plan) := C8.fnScope_by (by decide +kernel)
theorem m_look_at_plan : mtB (defScope H88.s_look_at_plan) (fun _ => true) B_look_at_plan (defBody H88.s_look_at_plan) = true := by kernel_rfl
theorem sc_look_at_plan : FnScope N_look_at_plan ["shop", "plan"] (defScope H88.s_look_at_plan) := C8.fnScope_by (by decide +kernel)
theorem m_told_end : mtB (defScope H88.s_told_end) (fun _ => true) B_told_end (defBody H88.s_told_end) = true := by kernel_rfl
theorem sc_told_end : FnScope N_told_end ["shop", "starts"] (defScope H88.s_told_end) := C8.fnScope_by (by decide +kernel)
theorem m_end_of : mtB (defScope H88.s_end_of) (fun _ => true) B_end_of (defBody H88.s_end_of) = true := by kernel_rfl
theorem sc_end_of : FnScope N_end_of ["shop", "starts"] (defScope H88.s_end_of) := C8.fnScope_by (by decide +kernel)
theorem m_told_next_orders : mtB (defScope H88.s_told_next_orders) (fun _ => true) B_told_next_orders (defBody H88.s_told_next_orders) = true := by kernel_rfl
theorem sc_told_next_orders : FnScope N_told_next_orders ["shop", "starts"] (defScope H88.s_told_next_orders) := C8.fnScope_by (by decide +kernel)
theorem m_pressed : mtB (defScope H88.s_pressed) (fun _ => true) B_pressed (defBody H88.s_pressed) = true := by kernel_rfl
theorem sc_pressed : FnScope N_pressed ["shop", "plan"] (defScope H88.s_pressed) := C8.fnScope_by (by decide +kernel)
theorem m__law_pot : mtB (defScope H88.s__law_pot) (fun _ => true) B__law_pot (defBody H88.s__law_pot) = true := by kernel_rfl
theorem sc__law_pot : FnScope N__law_pot ["script", "place"] (defScope H88.s__law_pot) := C8.fnScope_by (by decide +kernel)
theorem m__law_take : mtB (defScope H88.s__law_take) (fun _ => true) B__law_take (defBody H88.s__law_take) = true := by kernel_rfl
theorem sc__law_take : FnScope N__law_take ["pot", "upto"] (defScope H88.s__law_take) := C8.fnScope_by (by decide +kernel)
theorem m__law_of : mtB (defScope H88.s__law_of) (fun _ => true) B__law_of (defBody H88.s__law_of) = true := by kernel_rfl
theorem sc__law_of : FnScope N__law_of ["pot", "some"] (defScope H88.s__law_of) := C8.fnScope_by (by decide +kernel)
theorem m__law_cells : mtB (defScope H88.s__law_cells) (fun _ => true) B__law_cells (defBody H88.s__law_cells) = true := by kernel_rfl
theorem sc__law_cells : FnScope N__law_cells ["script", "most"] (defScope H88.s__law_cells) := C8.fnScope_by (by decide +kernel)
theorem m__law_some : mtB (defScope H88.s__law_some) (fun _ => true) B__law_some (defBody H88.s__law_some) = true := by kernel_rfl
theorem sc__law_some : FnScope N__law_some ["pot", "pool", "many"] (defScope H88.s__law_some) := C8.fnScope_by (by decide +kernel)
theorem m__law_drawn : mtB (defScope H88.s__law_drawn) (fun _ => true) B__law_drawn (defBody H88.s__law_drawn) = true := by kernel_rfl
theorem sc__law_drawn : FnScope N__law_drawn ["pot", "most"] (defScope H88.s__law_drawn) := C8.fnScope_by (by decide +kernel)
theorem m__law_end : mtB (defScope H88.s__law_end) (fun _ => true) B__law_end (defBody H88.s__law_end) = true := by kernel_rfl
theorem sc__law_end : FnScope N__law_end ["jobs", "order"] (defScope H88.s__law_end) := C8.fnScope_by (by decide +kernel)
theorem m__law_rule : mtB (defScope H88.s__law_rule) (fun _ => true) B__law_rule (defBody H88.s__law_rule) = true := by kernel_rfl
theorem sc__law_rule : FnScope N__law_rule ["jobs"] (defScope H88.s__law_rule) := C8.fnScope_by (by decide +kernel)
theorem m__law_starts : mtB (defScope H88.s__law_starts) (fun _ => true) B__law_starts (defBody H88.s__law_starts) = true := by kernel_rfl
theorem sc__law_starts : FnScope N__law_starts ["jobs", "order"] (defScope H88.s__law_starts) := C8.fnScope_by (by decide +kernel)
theorem m__law_is_order_right : mtB (defScope H88.s__law_is_order_right) (fun _ => true) B__law_is_order_right (defBody H88.s__law_is_order_right) = true := by kernel_rfl
theorem sc__law_is_order_right : FnScope N__law_is_order_right ["shop", "jobs", "order", "least"] (defScope H88.s__law_is_order_right) := C8.fnScope_by (by decide +kernel)
theorem m__law_right : mtB (defScope H88.s__law_right) (fun _ => true) B__law_right (defBody H88.s__law_right) = true := by kernel_rfl
theorem sc__law_right : FnScope N__law_right ["pot"] (defScope H88.s__law_right) := C8.fnScope_by (by decide +kernel)
theorem m_law : mtB (defScope H88.s_law) (fun _ => true) B_law (defBody H88.s_law) = true := by kernel_rfl
theorem sc_law : FnScope N_law ["script"] (defScope H88.s_law) := C8.fnScope_by (by decide +kernel)
end
end B88
set_option Elab.async false
set_option linter.all false
set_option maxRecDepth 100000
set_option maxHeartbeats 4000000
/-! printed by genchain.py: each def keeps its meaning -/
namespace F88
open PySem L2 Ev PyProof.Rows
variable [Tbs]
structure Amb (w : World) (K : PySem.W.Frag) (h : Heap) (mg : Str → Option Value) (base : Heap) : Prop where
  X : K.In h
  G : h.Ns mainGlobals mg
  c : He.SaysD H88.fa H88.fn K
  tb : ∀ p ∈ H88.tf, LamX.TabB base mg (He.cT K p).1 (He.cT K p).2
  hT : Tbs.T = [((He.cT K ("told_next_orders", none)).2, ("told_next_orders.<locals>.<lambda>" : Str))]
section
variable {P : Program} {w : World} {K : PySem.W.Frag} {h : Heap} {mg : Str → Option Value} {base : Heap}
theorem ok_is_int (A : Amb w K h mg base)  : Has P w K mg base 1 "is_int" B88.M_is_int := by
  obtain ⟨fd, F⟩ := A.c.def_ 0 (d := H88.d_is_int) rfl
  exact ⟨_, fd, ["value", "low", "high"], fn_ok B88.B_is_int F B88.sc_is_int B88.m_is_int (by decide) all_nil (all_cons (He.free_ok A.X A.G (A.c.fact 59 (f := .free "isinstance") rfl)) (all_cons (He.free_ok A.X A.G (A.c.fact 58 (f := .free "int") rfl)) (all_cons (He.free_ok A.X A.G (A.c.fact 56 (f := .free "bool") rfl)) all_nil))) all_nil (lam_none rfl), He.glo_ok A.X A.G (A.c.fact 0 (f := .glo "is_int") rfl), F.kp, F.bindsN fun _ _ _ _ _ _ us hl => match us, hl with | [_, _, _], _ => rfl⟩
theorem ok_are_ints (A : Amb w K h mg base) (h_is_int : Has P w K mg base 1 "is_int" B88.M_is_int) : Has P w K mg base 2 "are_ints" B88.M_are_ints := by
  obtain ⟨fd, F⟩ := A.c.def_ 1 (d := H88.d_are_ints) rfl
  exact ⟨_, fd, ["value", "low", "high"], fn_ok B88.B_are_ints F B88.sc_are_ints B88.m_are_ints (by decide) (all_cons (h_is_int.at (by decide)) all_nil) (all_cons (He.free_ok A.X A.G (A.c.fact 59 (f := .free "isinstance") rfl)) (all_cons (He.free_ok A.X A.G (A.c.fact 69 (f := .free "tuple") rfl)) (all_cons (He.free_ok A.X A.G (A.c.fact 55 (f := .free "all") rfl)) all_nil))) all_nil (lam_none rfl), He.glo_ok A.X A.G (A.c.fact 1 (f := .glo "are_ints") rfl), F.kp, F.bindsN fun _ _ _ _ _ _ us hl => match us, hl with | [_, _, _], _ => rfl⟩
theorem ok_is_rising (A : Amb w K h mg base)  : Has P w K mg base 1 "is_rising" B88.M_is_rising := by
  obtain ⟨fd, F⟩ := A.c.def_ 2 (d := H88.d_is_rising) rfl
  exact ⟨_, fd, ["some"], fn_ok B88.B_is_rising F B88.sc_is_rising B88.m_is_rising (by decide) all_nil (all_cons (He.free_ok A.X A.G (A.c.fact 55 (f := .free "all") rfl)) (all_cons (He.free_ok A.X A.G (A.c.fact 70 (f := .free "zip") rfl)) all_nil)) all_nil (lam_none rfl), He.glo_ok A.X A.G (A.c.fact 2 (f := .glo "is_rising") rfl), F.kp, F.bindsN fun _ _ _ _ _ _ us hl => match us, hl with | [_], _ => rfl⟩
theorem ok_is_work (A : Amb w K h mg base) (h_are_ints : Has P w K mg base 2 "are_ints" B88.M_are_ints) : Has P w K mg base 3 "is_work" B88.M_is_work := by
  obtain ⟨fd, F⟩ := A.c.def_ 3 (d := H88.d_is_work) rfl
  exact ⟨_, fd, ["value", "hands"], fn_ok B88.B_is_work F B88.sc_is_work B88.m_is_work (by decide) (all_cons (h_are_ints.at (by decide)) all_nil) (all_cons (He.free_ok A.X A.G (A.c.fact 60 (f := .free "len") rfl)) all_nil) (all_cons (con_int (He.int_ok A.X A.G (A.c.fact 73 (f := .int "MOST_LENGTH" (1000)) rfl))) all_nil) (lam_none rfl), He.glo_ok A.X A.G (A.c.fact 3 (f := .glo "is_work") rfl), F.kp, F.bindsN fun _ _ _ _ _ _ us hl => match us, hl with | [_, _], _ => rfl⟩
theorem ok_is_window (A : Amb w K h mg base) (h_are_ints : Has P w K mg base 2 "are_ints" B88.M_are_ints) : Has P w K mg base 3 "is_window" B88.M_is_window := by
  obtain ⟨fd, F⟩ := A.c.def_ 4 (d := H88.d_is_window) rfl
  exact ⟨_, fd, ["value"], fn_ok B88.B_is_window F B88.sc_is_window B88.m_is_window (by decide) (all_cons (h_are_ints.at (by decide)) all_nil) (all_cons (He.free_ok A.X A.G (A.c.fact 60 (f := .free "len") rfl)) all_nil) (all_cons (con_int (He.int_ok A.X A.G (A.c.fact 74 (f := .int "MOST_TIME" (1000000)) rfl))) all_nil) (lam_none rfl), He.glo_ok A.X A.G (A.c.fact 4 (f := .glo "is_window") rfl), F.kp, F.bindsN fun _ _ _ _ _ _ us hl => match us, hl with | [_], _ => rfl⟩
theorem ok_is_row (A : Amb w K h mg base) (h_are_ints : Has P w K mg base 2 "are_ints" B88.M_are_ints) (h_is_int : Has P w K mg base 1 "is_int" B88.M_is_int) : Has P w K mg base 3 "is_row" B88.M_is_row := by
  obtain ⟨fd, F⟩ := A.c.def_ 5 (d := H88.d_is_row) rfl
  exact ⟨_, fd, ["value", "works"], fn_ok B88.B_is_row F B88.sc_is_row B88.m_is_row (by decide) (all_cons (h_are_ints.at (by decide)) (all_cons (h_is_int.at (by decide)) all_nil)) (all_cons (He.free_ok A.X A.G (A.c.fact 59 (f := .free "isinstance") rfl)) (all_cons (He.free_ok A.X A.G (A.c.fact 69 (f := .free "tuple") rfl)) (all_cons (He.free_ok A.X A.G (A.c.fact 60 (f := .free "len") rfl)) all_nil))) (all_cons (con_int (He.int_ok A.X A.G (A.c.fact 74 (f := .int "MOST_TIME" (1000000)) rfl))) all_nil) (lam_none rfl), He.glo_ok A.X A.G (A.c.fact 5 (f := .glo "is_row") rfl), F.kp, F.bindsN fun _ _ _ _ _ _ us hl => match us, hl with | [_, _], _ => rfl⟩
theorem ok_is_shop (A : Amb w K h mg base) (h_is_int : Has P w K mg base 1 "is_int" B88.M_is_int) (h_is_work : Has P w K mg base 3 "is_work" B88.M_is_work) (h_is_window : Has P w K mg base 3 "is_window" B88.M_is_window) (h_is_row : Has P w K mg base 3 "is_row" B88.M_is_row) (h_is_rising : Has P w K mg base 1 "is_rising" B88.M_is_rising) : Has P w K mg base 4 "is_shop" B88.M_is_shop := by
  obtain ⟨fd, F⟩ := A.c.def_ 6 (d := H88.d_is_shop) rfl
  exact ⟨_, fd, ["value"], fn_ok B88.B_is_shop F B88.sc_is_shop B88.m_is_shop (by decide) (all_cons (h_is_int.at (by decide)) (all_cons (h_is_work.at (by decide)) (all_cons (h_is_window.at (by decide)) (all_cons (h_is_row.at (by decide)) (all_cons (h_is_rising.at (by decide)) all_nil))))) (all_cons (He.free_ok A.X A.G (A.c.fact 59 (f := .free "isinstance") rfl)) (all_cons (He.free_ok A.X A.G (A.c.fact 69 (f := .free "tuple") rfl)) (all_cons (He.free_ok A.X A.G (A.c.fact 60 (f := .free "len") rfl)) (all_cons (He.free_ok A.X A.G (A.c.fact 55 (f := .free "all") rfl)) all_nil)))) (all_cons (con_int (He.int_ok A.X A.G (A.c.fact 76 (f := .int "FOUR" (4)) rfl))) (all_cons (con_int (He.int_ok A.X A.G (A.c.fact 71 (f := .int "MOST_HANDS" (8)) rfl))) (all_cons (con_int (He.int_ok A.X A.G (A.c.fact 72 (f := .int "MOST_WORKS" (24)) rfl))) (all_cons (con_int (He.int_ok A.X A.G (A.c.fact 75 (f := .int "MOST_ROWS" (100)) rfl))) all_nil)))) (lam_none rfl), He.glo_ok A.X A.G (A.c.fact 6 (f := .glo "is_shop") rfl), F.kp, F.bindsN fun _ _ _ _ _ _ us hl => match us, hl with | [_], _ => rfl⟩
theorem ok_look_at_shop (A : Amb w K h mg base) (h_is_shop : Has P w K mg base 4 "is_shop" B88.M_is_shop) : Has P w K mg base 5 "look_at_shop" B88.M_look_at_shop := by
  obtain ⟨fd, F⟩ := A.c.def_ 7 (d := H88.d_look_at_shop) rfl
  exact ⟨_, fd, ["shop"], fn_ok B88.B_look_at_shop F B88.sc_look_at_shop B88.m_look_at_shop (by decide) (all_cons (h_is_shop.at (by decide)) all_nil) all_nil all_nil (lam_none rfl), He.glo_ok A.X A.G (A.c.fact 7 (f := .glo "look_at_shop") rfl), F.kp, F.bindsN fun _ _ _ _ _ _ us hl => match us, hl with | [_], _ => rfl⟩
theorem ok_look_at_hand (A : Amb w K h mg base) (h_is_int : Has P w K mg base 1 "is_int" B88.M_is_int) : Has P w K mg base 2 "look_at_hand" B88.M_look_at_hand := by
  obtain ⟨fd, F⟩ := A.c.def_ 8 (d := H88.d_look_at_hand) rfl
  exact ⟨_, fd, ["shop", "hand"], fn_ok B88.B_look_at_hand F B88.sc_look_at_hand B88.m_look_at_hand (by decide) (all_cons (h_is_int.at (by decide)) all_nil) all_nil all_nil (lam_none rfl), He.glo_ok A.X A.G (A.c.fact 8 (f := .glo "look_at_hand") rfl), F.kp, F.bindsN fun _ _ _ _ _ _ us hl => match us, hl with | [_, _], _ => rfl⟩
theorem ok_told_on (A : Amb w K h mg base)  : Has P w K mg base 1 "told_on" B88.M_told_on := by
  obtain ⟨fd, F⟩ := A.c.def_ 9 (d := H88.d_told_on) rfl
  exact ⟨_, fd, ["shop", "hand"], fn_ok B88.B_told_on F B88.sc_told_on B88.m_told_on (by decide) all_nil (all_cons (He.free_ok A.X A.G (A.c.fact 57 (f := .free "enumerate") rfl)) all_nil) all_nil (lam_none rfl), He.glo_ok A.X A.G (A.c.fact 9 (f := .glo "told_on") rfl), F.kp, F.bindsN fun _ _ _ _ _ _ us hl => match us, hl with | [_, _], _ => rfl⟩
theorem ok_told_pairs (A : Amb w K h mg base)  : Has P w K mg base 1 "told_pairs" B88.M_told_pairs := by
  obtain ⟨fd, F⟩ := A.c.def_ 10 (d := H88.d_told_pairs) rfl
  exact ⟨_, fd, ["shop"], fn_ok B88.B_told_pairs F B88.sc_told_pairs B88.m_told_pairs (by decide) all_nil (all_cons (He.free_ok A.X A.G (A.c.fact 57 (f := .free "enumerate") rfl)) (all_cons (He.free_ok A.X A.G (A.c.fact 64 (f := .free "range") rfl)) (all_cons (He.free_ok A.X A.G (A.c.fact 60 (f := .free "len") rfl)) all_nil))) all_nil (lam_none rfl), He.glo_ok A.X A.G (A.c.fact 10 (f := .glo "told_pairs") rfl), F.kp, F.bindsN fun _ _ _ _ _ _ us hl => match us, hl with | [_], _ => rfl⟩
theorem ok_load_of (A : Amb w K h mg base) (h_look_at_shop : Has P w K mg base 5 "look_at_shop" B88.M_look_at_shop) (h_look_at_hand : Has P w K mg base 2 "look_at_hand" B88.M_look_at_hand) (h_told_on : Has P w K mg base 1 "told_on" B88.M_told_on) : Has P w K mg base 6 "load_of" B88.M_load_of := by
  obtain ⟨fd, F⟩ := A.c.def_ 11 (d := H88.d_load_of) rfl
  exact ⟨_, fd, ["shop", "hand"], fn_ok B88.B_load_of F B88.sc_load_of B88.m_load_of (by decide) (all_cons (h_look_at_shop.at (by decide)) (all_cons (h_look_at_hand.at (by decide)) (all_cons (h_told_on.at (by decide)) all_nil))) (all_cons (He.free_ok A.X A.G (A.c.fact 67 (f := .free "sum") rfl)) all_nil) all_nil (lam_none rfl), He.glo_ok A.X A.G (A.c.fact 11 (f := .glo "load_of") rfl), F.kp, F.bindsN fun _ _ _ _ _ _ us hl => match us, hl with | [_, _], _ => rfl⟩
theorem ok_are_jobs (A : Amb w K h mg base) (h_is_work : Has P w K mg base 3 "is_work" B88.M_is_work) : Has P w K mg base 4 "are_jobs" B88.M_are_jobs := by
  obtain ⟨fd, F⟩ := A.c.def_ 12 (d := H88.d_are_jobs) rfl
  exact ⟨_, fd, ["value", "hands"], fn_ok B88.B_are_jobs F B88.sc_are_jobs B88.m_are_jobs (by decide) (all_cons (h_is_work.at (by decide)) all_nil) (all_cons (He.free_ok A.X A.G (A.c.fact 59 (f := .free "isinstance") rfl)) (all_cons (He.free_ok A.X A.G (A.c.fact 69 (f := .free "tuple") rfl)) (all_cons (He.free_ok A.X A.G (A.c.fact 55 (f := .free "all") rfl)) (all_cons (He.free_ok A.X A.G (A.c.fact 67 (f := .free "sum") rfl)) (all_cons (He.free_ok A.X A.G (A.c.fact 60 (f := .free "len") rfl)) all_nil))))) (all_cons (con_int (He.int_ok A.X A.G (A.c.fact 72 (f := .int "MOST_WORKS" (24)) rfl))) all_nil) (lam_none rfl), He.glo_ok A.X A.G (A.c.fact 12 (f := .glo "are_jobs") rfl), F.kp, F.bindsN fun _ _ _ _ _ _ us hl => match us, hl with | [_, _], _ => rfl⟩
theorem ok_shop_of_jobs (A : Amb w K h mg base) (h_is_int : Has P w K mg base 1 "is_int" B88.M_is_int) (h_are_jobs : Has P w K mg base 4 "are_jobs" B88.M_are_jobs) : Has P w K mg base 5 "shop_of_jobs" B88.M_shop_of_jobs := by
  obtain ⟨fd, F⟩ := A.c.def_ 13 (d := H88.d_shop_of_jobs) rfl
  exact ⟨_, fd, ["hands", "jobs"], fn_ok B88.B_shop_of_jobs F B88.sc_shop_of_jobs B88.m_shop_of_jobs (by decide) (all_cons (h_is_int.at (by decide)) (all_cons (h_are_jobs.at (by decide)) all_nil)) (all_cons (He.free_ok A.X A.G (A.c.fact 57 (f := .free "enumerate") rfl)) (all_cons (He.free_ok A.X A.G (A.c.fact 60 (f := .free "len") rfl)) (all_cons (He.free_ok A.X A.G (A.c.fact 69 (f := .free "tuple") rfl)) all_nil))) (all_cons (con_int (He.int_ok A.X A.G (A.c.fact 71 (f := .int "MOST_HANDS" (8)) rfl))) (all_cons (con_int (He.int_ok A.X A.G (A.c.fact 74 (f := .int "MOST_TIME" (1000000)) rfl))) all_nil)) (lam_none rfl), He.glo_ok A.X A.G (A.c.fact 13 (f := .glo "shop_of_jobs") rfl), F.kp, F.bindsN fun _ _ _ _ _ _ us hl => match us, hl with | [_, _], _ => rfl⟩
theorem ok_are_flows (A : Amb w K h mg base) (h_are_ints : Has P w K mg base 2 "are_ints" B88.M_are_ints) : Has P w K mg base 3 "are_flows" B88.M_are_flows := by
  obtain ⟨fd, F⟩ := A.c.def_ 14 (d := H88.d_are_flows) rfl
  exact ⟨_, fd, ["value"], fn_ok B88.B_are_flows F B88.sc_are_flows B88.m_are_flows (by decide) (all_cons (h_are_ints.at (by decide)) all_nil) (all_cons (He.free_ok A.X A.G (A.c.fact 59 (f := .free "isinstance") rfl)) (all_cons (He.free_ok A.X A.G (A.c.fact 69 (f := .free "tuple") rfl)) (all_cons (He.free_ok A.X A.G (A.c.fact 60 (f := .free "len") rfl)) (all_cons (He.free_ok A.X A.G (A.c.fact 55 (f := .free "all") rfl)) all_nil)))) (all_cons (con_int (He.int_ok A.X A.G (A.c.fact 77 (f := .int "MOST_JOBS" (12)) rfl))) (all_cons (con_int (He.int_ok A.X A.G (A.c.fact 73 (f := .int "MOST_LENGTH" (1000)) rfl))) all_nil)) (lam_none rfl), He.glo_ok A.X A.G (A.c.fact 14 (f := .glo "are_flows") rfl), F.kp, F.bindsN fun _ _ _ _ _ _ us hl => match us, hl with | [_], _ => rfl⟩
theorem ok_look_at_flows (A : Amb w K h mg base) (h_are_flows : Has P w K mg base 3 "are_flows" B88.M_are_flows) : Has P w K mg base 4 "look_at_flows" B88.M_look_at_flows := by
  obtain ⟨fd, F⟩ := A.c.def_ 15 (d := H88.d_look_at_flows) rfl
  exact ⟨_, fd, ["jobs"], fn_ok B88.B_look_at_flows F B88.sc_look_at_flows B88.m_look_at_flows (by decide) (all_cons (h_are_flows.at (by decide)) all_nil) all_nil all_nil (lam_none rfl), He.glo_ok A.X A.G (A.c.fact 15 (f := .glo "look_at_flows") rfl), F.kp, F.bindsN fun _ _ _ _ _ _ us hl => match us, hl with | [_], _ => rfl⟩
theorem ok_told_sequence (A : Amb w K h mg base)  : Has P w K mg base 1 "told_sequence" B88.M_told_sequence := by
  obtain ⟨fd, F⟩ := A.c.def_ 16 (d := H88.d_told_sequence) rfl
  exact ⟨_, fd, ["jobs"], fn_ok B88.B_told_sequence F B88.sc_told_sequence B88.m_told_sequence (by decide) all_nil (all_cons (He.free_ok A.X A.G (A.c.fact 66 (f := .free "sorted") rfl)) (all_cons (He.free_ok A.X A.G (A.c.fact 57 (f := .free "enumerate") rfl)) all_nil)) all_nil (lam_none rfl), He.glo_ok A.X A.G (A.c.fact 16 (f := .glo "told_sequence") rfl), F.kp, F.bindsN fun _ _ _ _ _ _ us hl => match us, hl with | [_], _ => rfl⟩
theorem ok_told_flow_end (A : Amb w K h mg base)  : Has P w K mg base 1 "told_flow_end" B88.M_told_flow_end := by
  obtain ⟨fd, F⟩ := A.c.def_ 17 (d := H88.d_told_flow_end) rfl
  exact ⟨_, fd, ["jobs", "order"], fn_ok B88.B_told_flow_end F B88.sc_told_flow_end B88.m_told_flow_end (by decide) all_nil (all_cons (He.free_ok A.X A.G (A.c.fact 62 (f := .free "max") rfl)) all_nil) all_nil (lam_none rfl), He.glo_ok A.X A.G (A.c.fact 17 (f := .glo "told_flow_end") rfl), F.kp, F.bindsN fun _ _ _ _ _ _ us hl => match us, hl with | [_, _], _ => rfl⟩
theorem ok_best_sequence (A : Amb w K h mg base) (h_look_at_flows : Has P w K mg base 4 "look_at_flows" B88.M_look_at_flows) (h_told_sequence : Has P w K mg base 1 "told_sequence" B88.M_told_sequence) : Has P w K mg base 5 "best_sequence" B88.M_best_sequence := by
  obtain ⟨fd, F⟩ := A.c.def_ 18 (d := H88.d_best_sequence) rfl
  exact ⟨_, fd, ["jobs"], fn_ok B88.B_best_sequence F B88.sc_best_sequence B88.m_best_sequence (by decide) (all_cons (h_look_at_flows.at (by decide)) (all_cons (h_told_sequence.at (by decide)) all_nil)) (all_cons (He.free_ok A.X A.G (A.c.fact 69 (f := .free "tuple") rfl)) all_nil) all_nil (lam_none rfl), He.glo_ok A.X A.G (A.c.fact 18 (f := .glo "best_sequence") rfl), F.kp, F.bindsN fun _ _ _ _ _ _ us hl => match us, hl with | [_], _ => rfl⟩
theorem ok_flow_end (A : Amb w K h mg base) (h_look_at_flows : Has P w K mg base 4 "look_at_flows" B88.M_look_at_flows) (h_are_ints : Has P w K mg base 2 "are_ints" B88.M_are_ints) (h_told_flow_end : Has P w K mg base 1 "told_flow_end" B88.M_told_flow_end) : Has P w K mg base 5 "flow_end" B88.M_flow_end := by
  obtain ⟨fd, F⟩ := A.c.def_ 19 (d := H88.d_flow_end) rfl
  exact ⟨_, fd, ["jobs", "order"], fn_ok B88.B_flow_end F B88.sc_flow_end B88.m_flow_end (by decide) (all_cons (h_look_at_flows.at (by decide)) (all_cons (h_are_ints.at (by decide)) (all_cons (h_told_flow_end.at (by decide)) all_nil))) (all_cons (He.free_ok A.X A.G (A.c.fact 60 (f := .free "len") rfl)) (all_cons (He.free_ok A.X A.G (A.c.fact 66 (f := .free "sorted") rfl)) (all_cons (He.free_ok A.X A.G (A.c.fact 61 (f := .free "list") rfl)) (all_cons (He.free_ok A.X A.G (A.c.fact 64 (f := .free "range") rfl)) all_nil)))) all_nil (lam_none rfl), He.glo_ok A.X A.G (A.c.fact 19 (f := .glo "flow_end") rfl), F.kp, F.bindsN fun _ _ _ _ _ _ us hl => match us, hl with | [_, _], _ => rfl⟩
theorem ok_least_flow_end (A : Amb w K h mg base) (h_look_at_flows : Has P w K mg base 4 "look_at_flows" B88.M_look_at_flows) (h_told_flow_end : Has P w K mg base 1 "told_flow_end" B88.M_told_flow_end) (h_told_sequence : Has P w K mg base 1 "told_sequence" B88.M_told_sequence) : Has P w K mg base 5 "least_flow_end" B88.M_least_flow_end := by
  obtain ⟨fd, F⟩ := A.c.def_ 20 (d := H88.d_least_flow_end) rfl
  exact ⟨_, fd, ["jobs"], fn_ok B88.B_least_flow_end F B88.sc_least_flow_end B88.m_least_flow_end (by decide) (all_cons (h_look_at_flows.at (by decide)) (all_cons (h_told_flow_end.at (by decide)) (all_cons (h_told_sequence.at (by decide)) all_nil))) all_nil all_nil (lam_none rfl), He.glo_ok A.X A.G (A.c.fact 20 (f := .glo "least_flow_end") rfl), F.kp, F.bindsN fun _ _ _ _ _ _ us hl => match us, hl with | [_], _ => rfl⟩
theorem ok_is_best_sequence (A : Amb w K h mg base) (h_look_at_flows : Has P w K mg base 4 "look_at_flows" B88.M_look_at_flows) (h_are_ints : Has P w K mg base 2 "are_ints" B88.M_are_ints) (h_told_flow_end : Has P w K mg base 1 "told_flow_end" B88.M_told_flow_end) (h_told_sequence : Has P w K mg base 1 "told_sequence" B88.M_told_sequence) : Has P w K mg base 5 "is_best_sequence" B88.M_is_best_sequence := by
  obtain ⟨fd, F⟩ := A.c.def_ 21 (d := H88.d_is_best_sequence) rfl
  exact ⟨_, fd, ["jobs", "value"], fn_ok B88.B_is_best_sequence F B88.sc_is_best_sequence B88.m_is_best_sequence (by decide) (all_cons (h_look_at_flows.at (by decide)) (all_cons (h_are_ints.at (by decide)) (all_cons (h_told_flow_end.at (by decide)) (all_cons (h_told_sequence.at (by decide)) all_nil)))) (all_cons (He.free_ok A.X A.G (A.c.fact 60 (f := .free "len") rfl)) (all_cons (He.free_ok A.X A.G (A.c.fact 66 (f := .free "sorted") rfl)) (all_cons (He.free_ok A.X A.G (A.c.fact 61 (f := .free "list") rfl)) (all_cons (He.free_ok A.X A.G (A.c.fact 64 (f := .free "range") rfl)) all_nil)))) all_nil (lam_none rfl), He.glo_ok A.X A.G (A.c.fact 21 (f := .glo "is_best_sequence") rfl), F.kp, F.bindsN fun _ _ _ _ _ _ us hl => match us, hl with | [_, _], _ => rfl⟩
theorem ok_told_turn (A : Amb w K h mg base) (h_told_flow_end : Has P w K mg base 1 "told_flow_end" B88.M_told_flow_end) : Has P w K mg base 2 "told_turn" B88.M_told_turn := by
  obtain ⟨fd, F⟩ := A.c.def_ 22 (d := H88.d_told_turn) rfl
  exact ⟨_, fd, ["jobs", "order"], fn_ok B88.B_told_turn F B88.sc_told_turn B88.m_told_turn (by decide) (all_cons (h_told_flow_end.at (by decide)) all_nil) (all_cons (He.free_ok A.X A.G (A.c.fact 57 (f := .free "enumerate") rfl)) (all_cons (He.free_ok A.X A.G (A.c.fact 67 (f := .free "sum") rfl)) all_nil)) all_nil (lam_none rfl), He.glo_ok A.X A.G (A.c.fact 22 (f := .glo "told_turn") rfl), F.kp, F.bindsN fun _ _ _ _ _ _ us hl => match us, hl with | [_, _], _ => rfl⟩
theorem ok_turn_of (A : Amb w K h mg base) (h_look_at_flows : Has P w K mg base 4 "look_at_flows" B88.M_look_at_flows) (h_are_ints : Has P w K mg base 2 "are_ints" B88.M_are_ints) (h_told_turn : Has P w K mg base 2 "told_turn" B88.M_told_turn) : Has P w K mg base 5 "turn_of" B88.M_turn_of := by
  obtain ⟨fd, F⟩ := A.c.def_ 23 (d := H88.d_turn_of) rfl
  exact ⟨_, fd, ["jobs", "order"], fn_ok B88.B_turn_of F B88.sc_turn_of B88.m_turn_of (by decide) (all_cons (h_look_at_flows.at (by decide)) (all_cons (h_are_ints.at (by decide)) (all_cons (h_told_turn.at (by decide)) all_nil))) (all_cons (He.free_ok A.X A.G (A.c.fact 60 (f := .free "len") rfl)) (all_cons (He.free_ok A.X A.G (A.c.fact 66 (f := .free "sorted") rfl)) (all_cons (He.free_ok A.X A.G (A.c.fact 61 (f := .free "list") rfl)) (all_cons (He.free_ok A.X A.G (A.c.fact 64 (f := .free "range") rfl)) all_nil)))) all_nil (lam_none rfl), He.glo_ok A.X A.G (A.c.fact 23 (f := .glo "turn_of") rfl), F.kp, F.bindsN fun _ _ _ _ _ _ us hl => match us, hl with | [_, _], _ => rfl⟩
theorem ok_flow_shop (A : Amb w K h mg base) (h_look_at_flows : Has P w K mg base 4 "look_at_flows" B88.M_look_at_flows) (h_shop_of_jobs : Has P w K mg base 5 "shop_of_jobs" B88.M_shop_of_jobs) : Has P w K mg base 6 "flow_shop" B88.M_flow_shop := by
  obtain ⟨fd, F⟩ := A.c.def_ 24 (d := H88.d_flow_shop) rfl
  exact ⟨_, fd, ["jobs"], fn_ok B88.B_flow_shop F B88.sc_flow_shop B88.m_flow_shop (by decide) (all_cons (h_look_at_flows.at (by decide)) (all_cons (h_shop_of_jobs.at (by decide)) all_nil)) (all_cons (He.free_ok A.X A.G (A.c.fact 69 (f := .free "tuple") rfl)) all_nil) all_nil (lam_none rfl), He.glo_ok A.X A.G (A.c.fact 24 (f := .glo "flow_shop") rfl), F.kp, F.bindsN fun _ _ _ _ _ _ us hl => match us, hl with | [_], _ => rfl⟩
theorem ok_told_row_steps (A : Amb w K h mg base)  : Has P w K mg base 1 "told_row_steps" B88.M_told_row_steps := by
  obtain ⟨fd, F⟩ := A.c.def_ 25 (d := H88.d_told_row_steps) rfl
  exact ⟨_, fd, ["shop"], fn_ok B88.B_told_row_steps F B88.sc_told_row_steps B88.m_told_row_steps (by decide) all_nil (all_cons (He.free_ok A.X A.G (A.c.fact 60 (f := .free "len") rfl)) (all_cons (He.free_ok A.X A.G (A.c.fact 57 (f := .free "enumerate") rfl)) all_nil)) (all_cons (con_str (He.str_ok A.X A.G (A.c.fact 78 (f := .str "ROW" "row") rfl))) (all_cons (con_str (He.str_ok A.X A.G (A.c.fact 79 (f := .str "EARLY" "early") rfl))) (all_cons (con_str (He.str_ok A.X A.G (A.c.fact 80 (f := .str "LATE" "late") rfl))) all_nil))) (lam_none rfl), He.glo_ok A.X A.G (A.c.fact 25 (f := .glo "told_row_steps") rfl), F.kp, F.bindsN fun _ _ _ _ _ _ us hl => match us, hl with | [_], _ => rfl⟩
theorem ok_told_end_steps (A : Amb w K h mg base)  : Has P w K mg base 1 "told_end_steps" B88.M_told_end_steps := by
  obtain ⟨fd, F⟩ := A.c.def_ 26 (d := H88.d_told_end_steps) rfl
  exact ⟨_, fd, ["shop", "end"], fn_ok B88.B_told_end_steps F B88.sc_told_end_steps B88.m_told_end_steps (by decide) all_nil (all_cons (He.free_ok A.X A.G (A.c.fact 60 (f := .free "len") rfl)) (all_cons (He.free_ok A.X A.G (A.c.fact 57 (f := .free "enumerate") rfl)) all_nil)) (all_cons (con_str (He.str_ok A.X A.G (A.c.fact 81 (f := .str "END" "end") rfl))) all_nil) (lam_none rfl), He.glo_ok A.X A.G (A.c.fact 26 (f := .glo "told_end_steps") rfl), F.kp, F.bindsN fun _ _ _ _ _ _ us hl => match us, hl with | [_, _], _ => rfl⟩
theorem ok_told_order_steps (A : Amb w K h mg base)  : Has P w K mg base 1 "told_order_steps" B88.M_told_order_steps := by
  obtain ⟨fd, F⟩ := A.c.def_ 27 (d := H88.d_told_order_steps) rfl
  exact ⟨_, fd, ["shop", "orders"], fn_ok B88.B_told_order_steps F B88.sc_told_order_steps B88.m_told_order_steps (by decide) all_nil all_nil (all_cons (con_str (He.str_ok A.X A.G (A.c.fact 82 (f := .str "AHEAD" "ahead") rfl))) all_nil) (lam_none rfl), He.glo_ok A.X A.G (A.c.fact 27 (f := .glo "told_order_steps") rfl), F.kp, F.bindsN fun _ _ _ _ _ _ us hl => match us, hl with | [_, _], _ => rfl⟩
theorem ok_told_steps (A : Amb w K h mg base) (h_told_row_steps : Has P w K mg base 1 "told_row_steps" B88.M_told_row_steps) (h_told_order_steps : Has P w K mg base 1 "told_order_steps" B88.M_told_order_steps) (h_told_end_steps : Has P w K mg base 1 "told_end_steps" B88.M_told_end_steps) : Has P w K mg base 2 "told_steps" B88.M_told_steps := by
  obtain ⟨fd, F⟩ := A.c.def_ 28 (d := H88.d_told_steps) rfl
  exact ⟨_, fd, ["shop", "orders", "end"], fn_ok B88.B_told_steps F B88.sc_told_steps B88.m_told_steps (by decide) (all_cons (h_told_row_steps.at (by decide)) (all_cons (h_told_order_steps.at (by decide)) (all_cons (h_told_end_steps.at (by decide)) all_nil))) all_nil all_nil (lam_none rfl), He.glo_ok A.X A.G (A.c.fact 28 (f := .glo "told_steps") rfl), F.kp, F.bindsN fun _ _ _ _ _ _ us hl => match us, hl with | [_, _, _], _ => rfl⟩
theorem ok_told_far (A : Amb w K h mg base)  : Has P w K mg base 1 "told_far" B88.M_told_far := by
  obtain ⟨fd, F⟩ := A.c.def_ 29 (d := H88.d_told_far) rfl
  exact ⟨_, fd, ["steps", "places", "start"], fn_ok B88.B_told_far F B88.sc_told_far B88.m_told_far (by decide) all_nil (all_cons (He.free_ok A.X A.G (A.c.fact 64 (f := .free "range") rfl)) all_nil) all_nil (lam_none rfl), He.glo_ok A.X A.G (A.c.fact 29 (f := .glo "told_far") rfl), F.kp, F.bindsN fun _ _ _ _ _ _ us hl => match us, hl with | [_, _, _], _ => rfl⟩
theorem ok_told_starts (A : Amb w K h mg base) (h_told_far : Has P w K mg base 1 "told_far" B88.M_told_far) (h_told_steps : Has P w K mg base 2 "told_steps" B88.M_told_steps) : Has P w K mg base 3 "told_starts" B88.M_told_starts := by
  obtain ⟨fd, F⟩ := A.c.def_ 30 (d := H88.d_told_starts) rfl
  exact ⟨_, fd, ["shop", "orders", "end"], fn_ok B88.B_told_starts F B88.sc_told_starts B88.m_told_starts (by decide) (all_cons (h_told_far.at (by decide)) (all_cons (h_told_steps.at (by decide)) all_nil)) (all_cons (He.free_ok A.X A.G (A.c.fact 60 (f := .free "len") rfl)) (all_cons (He.free_ok A.X A.G (A.c.fact 64 (f := .free "range") rfl)) all_nil)) all_nil (lam_none rfl), He.glo_ok A.X A.G (A.c.fact 30 (f := .glo "told_starts") rfl), F.kp, F.bindsN fun _ _ _ _ _ _ us hl => match us, hl with | [_, _, _], _ => rfl⟩
theorem ok_are_starts (A : Amb w K h mg base) (h_are_ints : Has P w K mg base 2 "are_ints" B88.M_are_ints) : Has P w K mg base 3 "are_starts" B88.M_are_starts := by
  obtain ⟨fd, F⟩ := A.c.def_ 31 (d := H88.d_are_starts) rfl
  exact ⟨_, fd, ["shop", "value"], fn_ok B88.B_are_starts F B88.sc_are_starts B88.m_are_starts (by decide) (all_cons (h_are_ints.at (by decide)) all_nil) (all_cons (He.free_ok A.X A.G (A.c.fact 60 (f := .free "len") rfl)) all_nil) (all_cons (con_int (He.int_ok A.X A.G (A.c.fact 74 (f := .int "MOST_TIME" (1000000)) rfl))) all_nil) (lam_none rfl), He.glo_ok A.X A.G (A.c.fact 31 (f := .glo "are_starts") rfl), F.kp, F.bindsN fun _ _ _ _ _ _ us hl => match us, hl with | [_, _], _ => rfl⟩
theorem ok_look_at_starts (A : Amb w K h mg base) (h_look_at_shop : Has P w K mg base 5 "look_at_shop" B88.M_look_at_shop) (h_are_starts : Has P w K mg base 3 "are_starts" B88.M_are_starts) : Has P w K mg base 6 "look_at_starts" B88.M_look_at_starts := by
  obtain ⟨fd, F⟩ := A.c.def_ 32 (d := H88.d_look_at_starts) rfl
  exact ⟨_, fd, ["shop", "starts"], fn_ok B88.B_look_at_starts F B88.sc_look_at_starts B88.m_look_at_starts (by decide) (all_cons (h_look_at_shop.at (by decide)) (all_cons (h_are_starts.at (by decide)) all_nil)) all_nil all_nil (lam_none rfl), He.glo_ok A.X A.G (A.c.fact 32 (f := .glo "look_at_starts") rfl), F.kp, F.bindsN fun _ _ _ _ _ _ us hl => match us, hl with | [_, _], _ => rfl⟩
theorem ok_told_wrongs (A : Amb w K h mg base) (h_told_pairs : Has P w K mg base 1 "told_pairs" B88.M_told_pairs) : Has P w K mg base 2 "told_wrongs" B88.M_told_wrongs := by
  obtain ⟨fd, F⟩ := A.c.def_ 33 (d := H88.d_told_wrongs) rfl
  exact ⟨_, fd, ["shop", "starts"], fn_ok B88.B_told_wrongs F B88.sc_told_wrongs B88.m_told_wrongs (by decide) (all_cons (h_told_pairs.at (by decide)) all_nil) (all_cons (He.free_ok A.X A.G (A.c.fact 57 (f := .free "enumerate") rfl)) all_nil) (all_cons (con_str (He.str_ok A.X A.G (A.c.fact 83 (f := .str "WINDOW" "window") rfl))) (all_cons (con_str (He.str_ok A.X A.G (A.c.fact 84 (f := .str "BEHIND" "row") rfl))) (all_cons (con_str (He.str_ok A.X A.G (A.c.fact 85 (f := .str "CLASH" "clash") rfl))) all_nil))) (lam_none rfl), He.glo_ok A.X A.G (A.c.fact 33 (f := .glo "told_wrongs") rfl), F.kp, F.bindsN fun _ _ _ _ _ _ us hl => match us, hl with | [_, _], _ => rfl⟩
theorem ok_is_right (A : Amb w K h mg base) (h_told_wrongs : Has P w K mg base 2 "told_wrongs" B88.M_told_wrongs) : Has P w K mg base 3 "is_right" B88.M_is_right := by
  obtain ⟨fd, F⟩ := A.c.def_ 34 (d := H88.d_is_right) rfl
  exact ⟨_, fd, ["shop", "starts"], fn_ok B88.B_is_right F B88.sc_is_right B88.m_is_right (by decide) (all_cons (h_told_wrongs.at (by decide)) all_nil) all_nil all_nil (lam_none rfl), He.glo_ok A.X A.G (A.c.fact 34 (f := .glo "is_right") rfl), F.kp, F.bindsN fun _ _ _ _ _ _ us hl => match us, hl with | [_, _], _ => rfl⟩
theorem ok_is_plan (A : Amb w K h mg base) (h_look_at_shop : Has P w K mg base 5 "look_at_shop" B88.M_look_at_shop) (h_are_starts : Has P w K mg base 3 "are_starts" B88.M_are_starts) (h_is_right : Has P w K mg base 3 "is_right" B88.M_is_right) : Has P w K mg base 6 "is_plan" B88.M_is_plan := by
  obtain ⟨fd, F⟩ := A.c.def_ 35 (d := H88.d_is_plan) rfl
  exact ⟨_, fd, ["shop", "value"], fn_ok B88.B_is_plan F B88.sc_is_plan B88.m_is_plan (by decide) (all_cons (h_look_at_shop.at (by decide)) (all_cons (h_are_starts.at (by decide)) (all_cons (h_is_right.at (by decide)) all_nil))) all_nil all_nil (lam_none rfl), He.glo_ok A.X A.G (A.c.fact 35 (f := .glo "is_plan") rfl), F.kp, F.bindsN fun _ _ _ _ _ _ us hl => match us, hl with | [_, _], _ => rfl⟩
theorem ok_look_at_plan (A : Amb w K h mg base) (h_is_plan : Has P w K mg base 6 "is_plan" B88.M_is_plan) : Has P w K mg base 7 "look_at_plan" B88.M_look_at_plan := by
  obtain ⟨fd, F⟩ := A.c.def_ 36 (d := H88.d_look_at_plan) rfl
  exact ⟨_, fd, ["shop", "plan"], fn_ok B88.B_look_at_plan F B88.sc_look_at_plan B88.m_look_at_plan (by decide) (all_cons (h_is_plan.at (by decide)) all_nil) all_nil all_nil (lam_none rfl), He.glo_ok A.X A.G (A.c.fact 36 (f := .glo "look_at_plan") rfl), F.kp, F.bindsN fun _ _ _ _ _ _ us hl => match us, hl with | [_, _], _ => rfl⟩
theorem ok_told_end (A : Amb w K h mg base)  : Has P w K mg base 1 "told_end" B88.M_told_end := by
  obtain ⟨fd, F⟩ := A.c.def_ 37 (d := H88.d_told_end) rfl
  exact ⟨_, fd, ["shop", "starts"], fn_ok B88.B_told_end F B88.sc_told_end B88.m_told_end (by decide) all_nil (all_cons (He.free_ok A.X A.G (A.c.fact 62 (f := .free "max") rfl)) (all_cons (He.free_ok A.X A.G (A.c.fact 70 (f := .free "zip") rfl)) all_nil)) all_nil (lam_none rfl), He.glo_ok A.X A.G (A.c.fact 37 (f := .glo "told_end") rfl), F.kp, F.bindsN fun _ _ _ _ _ _ us hl => match us, hl with | [_, _], _ => rfl⟩
theorem ok_end_of (A : Amb w K h mg base) (h_look_at_starts : Has P w K mg base 6 "look_at_starts" B88.M_look_at_starts) (h_told_end : Has P w K mg base 1 "told_end" B88.M_told_end) : Has P w K mg base 7 "end_of" B88.M_end_of := by
  obtain ⟨fd, F⟩ := A.c.def_ 38 (d := H88.d_end_of) rfl
  exact ⟨_, fd, ["shop", "starts"], fn_ok B88.B_end_of F B88.sc_end_of B88.m_end_of (by decide) (all_cons (h_look_at_starts.at (by decide)) (all_cons (h_told_end.at (by decide)) all_nil)) all_nil all_nil (lam_none rfl), He.glo_ok A.X A.G (A.c.fact 38 (f := .glo "end_of") rfl), F.kp, F.bindsN fun _ _ _ _ _ _ us hl => match us, hl with | [_, _], _ => rfl⟩
theorem ok_told_next_orders (A : Amb w K h mg base) (h_told_on : Has P w K mg base 1 "told_on" B88.M_told_on) : Has P w K mg base 2 "told_next_orders" B88.M_told_next_orders := by
  obtain ⟨fd, F⟩ := A.c.def_ 39 (d := H88.d_told_next_orders) rfl
  exact ⟨_, fd, ["shop", "starts"], fn_ok B88.B_told_next_orders F B88.sc_told_next_orders B88.m_told_next_orders (by decide) (all_cons (h_told_on.at (by decide)) all_nil) (all_cons (He.free_ok A.X A.G (A.c.fact 64 (f := .free "range") rfl)) (all_cons (He.free_ok A.X A.G (A.c.fact 66 (f := .free "sorted") rfl)) (all_cons (He.free_ok A.X A.G (A.c.fact 70 (f := .free "zip") rfl)) all_nil))) all_nil (lam_some rfl F (by decide +kernel) (A.tb _ (by decide +kernel)) A.hT), He.glo_ok A.X A.G (A.c.fact 39 (f := .glo "told_next_orders") rfl), F.kp, F.bindsN fun _ _ _ _ _ _ us hl => match us, hl with | [_, _], _ => rfl⟩
theorem ok_pressed (A : Amb w K h mg base) (h_look_at_plan : Has P w K mg base 7 "look_at_plan" B88.M_look_at_plan) (h_told_starts : Has P w K mg base 3 "told_starts" B88.M_told_starts) (h_told_next_orders : Has P w K mg base 2 "told_next_orders" B88.M_told_next_orders) : Has P w K mg base 8 "pressed" B88.M_pressed := by
  obtain ⟨fd, F⟩ := A.c.def_ 40 (d := H88.d_pressed) rfl
  exact ⟨_, fd, ["shop", "plan"], fn_ok B88.B_pressed F B88.sc_pressed B88.m_pressed (by decide) (all_cons (h_look_at_plan.at (by decide)) (all_cons (h_told_starts.at (by decide)) (all_cons (h_told_next_orders.at (by decide)) all_nil))) (all_cons (He.free_ok A.X A.G (A.c.fact 69 (f := .free "tuple") rfl)) all_nil) all_nil (lam_none rfl), He.glo_ok A.X A.G (A.c.fact 40 (f := .glo "pressed") rfl), F.kp, F.bindsN fun _ _ _ _ _ _ us hl => match us, hl with | [_, _], _ => rfl⟩
theorem ok__law_pot (A : Amb w K h mg base)  : Has P w K mg base 1 "_law_pot" B88.M__law_pot := by
  obtain ⟨fd, F⟩ := A.c.def_ 41 (d := H88.d__law_pot) rfl
  exact ⟨_, fd, ["script", "place"], fn_ok B88.B__law_pot F B88.sc__law_pot B88.m__law_pot (by decide) all_nil (all_cons (He.free_ok A.X A.G (A.c.fact 60 (f := .free "len") rfl)) (all_cons (He.free_ok A.X A.G (A.c.fact 58 (f := .free "int") rfl)) (all_cons (He.free_ok A.X A.G (A.c.fact 67 (f := .free "sum") rfl)) (all_cons (He.free_ok A.X A.G (A.c.fact 54 (f := .free "abs") rfl)) all_nil)))) all_nil (lam_none rfl), He.glo_ok A.X A.G (A.c.fact 41 (f := .glo "_law_pot") rfl), F.kp, F.bindsN fun _ _ _ _ _ _ us hl => match us, hl with | [_, _], _ => rfl⟩
theorem ok__law_take (A : Amb w K h mg base)  : Has P w K mg base 1 "_law_take" B88.M__law_take := by
  obtain ⟨fd, F⟩ := A.c.def_ 42 (d := H88.d__law_take) rfl
  exact ⟨_, fd, ["pot", "upto"], fn_okI B88.B__law_take F B88.sc__law_take B88.m__law_take (by decide) all_nil (all_cons (He.free_ok A.X A.G (A.c.fact 58 (f := .free "int") rfl)) all_nil) all_nil (lam_none rfl), He.glo_ok A.X A.G (A.c.fact 42 (f := .glo "_law_take") rfl), F.kp, F.bindsN fun _ _ _ _ _ _ us hl => match us, hl with | [_, _], _ => rfl⟩
theorem ok__law_of (A : Amb w K h mg base) (h__law_take : Has P w K mg base 1 "_law_take" B88.M__law_take) : Has P w K mg base 2 "_law_of" B88.M__law_of := by
  obtain ⟨fd, F⟩ := A.c.def_ 43 (d := H88.d__law_of) rfl
  exact ⟨_, fd, ["pot", "some"], fn_okI B88.B__law_of F B88.sc__law_of B88.m__law_of (by decide) (all_cons (h__law_take.at (by decide)) all_nil) (all_cons (He.free_ok A.X A.G (A.c.fact 60 (f := .free "len") rfl)) all_nil) all_nil (lam_none rfl), He.glo_ok A.X A.G (A.c.fact 43 (f := .glo "_law_of") rfl), F.kp, F.bindsN fun _ _ _ _ _ _ us hl => match us, hl with | [_, _], _ => rfl⟩
theorem ok__law_cells (A : Amb w K h mg base)  : Has P w K mg base 1 "_law_cells" B88.M__law_cells := by
  obtain ⟨fd, F⟩ := A.c.def_ 44 (d := H88.d__law_cells) rfl
  exact ⟨_, fd, ["script", "most"], fn_ok B88.B__law_cells F B88.sc__law_cells B88.m__law_cells (by decide) all_nil (all_cons (He.free_ok A.X A.G (A.c.fact 61 (f := .free "list") rfl)) (all_cons (He.free_ok A.X A.G (A.c.fact 64 (f := .free "range") rfl)) (all_cons (He.free_ok A.X A.G (A.c.fact 62 (f := .free "max") rfl)) (all_cons (He.free_ok A.X A.G (A.c.fact 63 (f := .free "min") rfl)) (all_cons (He.free_ok A.X A.G (A.c.fact 60 (f := .free "len") rfl)) all_nil))))) all_nil (lam_none rfl), He.glo_ok A.X A.G (A.c.fact 44 (f := .glo "_law_cells") rfl), F.kp, F.bindsN fun _ _ _ _ _ _ us hl => match us, hl with | [_, _], _ => rfl⟩
theorem ok__law_some (A : Amb w K h mg base) (h__law_take : Has P w K mg base 1 "_law_take" B88.M__law_take) : Has P w K mg base 2 "_law_some" B88.M__law_some := by
  obtain ⟨fd, F⟩ := A.c.def_ 45 (d := H88.d__law_some) rfl
  exact ⟨_, fd, ["pot", "pool", "many"], fn_okI B88.B__law_some F B88.sc__law_some B88.m__law_some (by decide) (all_cons (h__law_take.at (by decide)) all_nil) (all_cons (He.free_ok A.X A.G (A.c.fact 61 (f := .free "list") rfl)) (all_cons (He.free_ok A.X A.G (A.c.fact 64 (f := .free "range") rfl)) (all_cons (He.free_ok A.X A.G (A.c.fact 60 (f := .free "len") rfl)) all_nil))) all_nil (lam_none rfl), He.glo_ok A.X A.G (A.c.fact 45 (f := .glo "_law_some") rfl), F.kp, F.bindsN fun _ _ _ _ _ _ us hl => match us, hl with | [_, _, _], _ => rfl⟩
theorem ok__law_drawn (A : Amb w K h mg base) (h__law_take : Has P w K mg base 1 "_law_take" B88.M__law_take) (h__law_of : Has P w K mg base 2 "_law_of" B88.M__law_of) : Has P w K mg base 3 "_law_drawn" B88.M__law_drawn := by
  obtain ⟨fd, F⟩ := A.c.def_ 46 (d := H88.d__law_drawn) rfl
  exact ⟨_, fd, ["pot", "most"], fn_okI B88.B__law_drawn F B88.sc__law_drawn B88.m__law_drawn (by decide) (all_cons (h__law_take.at (by decide)) (all_cons (h__law_of.at (by decide)) all_nil)) (all_cons (He.free_ok A.X A.G (A.c.fact 58 (f := .free "int") rfl)) (all_cons (He.free_ok A.X A.G (A.c.fact 64 (f := .free "range") rfl)) (all_cons (He.free_ok A.X A.G (A.c.fact 69 (f := .free "tuple") rfl)) all_nil))) all_nil (lam_none rfl), He.glo_ok A.X A.G (A.c.fact 46 (f := .glo "_law_drawn") rfl), F.kp, F.bindsN fun _ _ _ _ _ _ us hl => match us, hl with | [_, _], _ => rfl⟩
theorem ok__law_end (A : Amb w K h mg base)  : Has P w K mg base 1 "_law_end" B88.M__law_end := by
  obtain ⟨fd, F⟩ := A.c.def_ 47 (d := H88.d__law_end) rfl
  exact ⟨_, fd, ["jobs", "order"], fn_ok B88.B__law_end F B88.sc__law_end B88.m__law_end (by decide) all_nil (all_cons (He.free_ok A.X A.G (A.c.fact 62 (f := .free "max") rfl)) all_nil) all_nil (lam_none rfl), He.glo_ok A.X A.G (A.c.fact 47 (f := .glo "_law_end") rfl), F.kp, F.bindsN fun _ _ _ _ _ _ us hl => match us, hl with | [_, _], _ => rfl⟩
theorem ok__law_rule (A : Amb w K h mg base)  : Has P w K mg base 1 "_law_rule" B88.M__law_rule := by
  obtain ⟨fd, F⟩ := A.c.def_ 48 (d := H88.d__law_rule) rfl
  exact ⟨_, fd, ["jobs"], fn_ok B88.B__law_rule F B88.sc__law_rule B88.m__law_rule (by decide) all_nil (all_cons (He.free_ok A.X A.G (A.c.fact 66 (f := .free "sorted") rfl)) (all_cons (He.free_ok A.X A.G (A.c.fact 64 (f := .free "range") rfl)) (all_cons (He.free_ok A.X A.G (A.c.fact 60 (f := .free "len") rfl)) (all_cons (He.free_ok A.X A.G (A.c.fact 69 (f := .free "tuple") rfl)) all_nil)))) all_nil (lam_none rfl), He.glo_ok A.X A.G (A.c.fact 48 (f := .glo "_law_rule") rfl), F.kp, F.bindsN fun _ _ _ _ _ _ us hl => match us, hl with | [_], _ => rfl⟩
theorem ok__law_starts (A : Amb w K h mg base)  : Has P w K mg base 1 "_law_starts" B88.M__law_starts := by
  obtain ⟨fd, F⟩ := A.c.def_ 49 (d := H88.d__law_starts) rfl
  exact ⟨_, fd, ["jobs", "order"], fn_ok B88.B__law_starts F B88.sc__law_starts B88.m__law_starts (by decide) all_nil (all_cons (He.free_ok A.X A.G (A.c.fact 60 (f := .free "len") rfl)) (all_cons (He.free_ok A.X A.G (A.c.fact 62 (f := .free "max") rfl)) (all_cons (He.free_ok A.X A.G (A.c.fact 69 (f := .free "tuple") rfl)) all_nil))) all_nil (lam_none rfl), He.glo_ok A.X A.G (A.c.fact 49 (f := .glo "_law_starts") rfl), F.kp, F.bindsN fun _ _ _ _ _ _ us hl => match us, hl with | [_, _], _ => rfl⟩
theorem ok__law_is_order_right (A : Amb w K h mg base) (h__law_end : Has P w K mg base 1 "_law_end" B88.M__law_end) (h__law_starts : Has P w K mg base 1 "_law_starts" B88.M__law_starts) (h_flow_end : Has P w K mg base 5 "flow_end" B88.M_flow_end) (h_is_best_sequence : Has P w K mg base 5 "is_best_sequence" B88.M_is_best_sequence) (h_is_plan : Has P w K mg base 6 "is_plan" B88.M_is_plan) (h_end_of : Has P w K mg base 7 "end_of" B88.M_end_of) (h_pressed : Has P w K mg base 8 "pressed" B88.M_pressed) (h_turn_of : Has P w K mg base 5 "turn_of" B88.M_turn_of) : Has P w K mg base 9 "_law_is_order_right" B88.M__law_is_order_right := by
  obtain ⟨fd, F⟩ := A.c.def_ 50 (d := H88.d__law_is_order_right) rfl
  exact ⟨_, fd, ["shop", "jobs", "order", "least"], fn_ok B88.B__law_is_order_right F B88.sc__law_is_order_right B88.m__law_is_order_right (by decide) (all_cons (h__law_end.at (by decide)) (all_cons (h__law_starts.at (by decide)) (all_cons (h_flow_end.at (by decide)) (all_cons (h_is_best_sequence.at (by decide)) (all_cons (h_is_plan.at (by decide)) (all_cons (h_end_of.at (by decide)) (all_cons (h_pressed.at (by decide)) (all_cons (h_turn_of.at (by decide)) all_nil)))))))) (all_cons (He.free_ok A.X A.G (A.c.fact 65 (f := .free "repr") rfl)) (all_cons (He.free_ok A.X A.G (A.c.fact 64 (f := .free "range") rfl)) (all_cons (He.free_ok A.X A.G (A.c.fact 60 (f := .free "len") rfl)) (all_cons (He.free_ok A.X A.G (A.c.fact 67 (f := .free "sum") rfl)) (all_cons (He.free_ok A.X A.G (A.c.fact 62 (f := .free "max") rfl)) all_nil))))) all_nil (lam_none rfl), He.glo_ok A.X A.G (A.c.fact 50 (f := .glo "_law_is_order_right") rfl), F.kp, F.bindsN fun _ _ _ _ _ _ us hl => match us, hl with | [_, _, _, _], _ => rfl⟩
theorem ok__law_right (A : Amb w K h mg base) (h__law_drawn : Has P w K mg base 3 "_law_drawn" B88.M__law_drawn) (h__law_end : Has P w K mg base 1 "_law_end" B88.M__law_end) (h__law_rule : Has P w K mg base 1 "_law_rule" B88.M__law_rule) (h_shop_of_jobs : Has P w K mg base 5 "shop_of_jobs" B88.M_shop_of_jobs) (h_best_sequence : Has P w K mg base 5 "best_sequence" B88.M_best_sequence) (h_flow_shop : Has P w K mg base 6 "flow_shop" B88.M_flow_shop) (h_load_of : Has P w K mg base 6 "load_of" B88.M_load_of) (h_least_flow_end : Has P w K mg base 5 "least_flow_end" B88.M_least_flow_end) (h__law_some : Has P w K mg base 2 "_law_some" B88.M__law_some) (h__law_is_order_right : Has P w K mg base 9 "_law_is_order_right" B88.M__law_is_order_right) (h__law_take : Has P w K mg base 1 "_law_take" B88.M__law_take) (h_flow_end : Has P w K mg base 5 "flow_end" B88.M_flow_end) : Has P w K mg base 10 "_law_right" B88.M__law_right := by
  obtain ⟨fd, F⟩ := A.c.def_ 51 (d := H88.d__law_right) rfl
  exact ⟨_, fd, ["pot"], fn_okI B88.B__law_right F B88.sc__law_right B88.m__law_right (by decide) (all_cons (h__law_drawn.at (by decide)) (all_cons (h__law_end.at (by decide)) (all_cons (h__law_rule.at (by decide)) (all_cons (h_shop_of_jobs.at (by decide)) (all_cons (h_best_sequence.at (by decide)) (all_cons (h_flow_shop.at (by decide)) (all_cons (h_load_of.at (by decide)) (all_cons (h_least_flow_end.at (by decide)) (all_cons (h__law_some.at (by decide)) (all_cons (h__law_is_order_right.at (by decide)) (all_cons (h__law_take.at (by decide)) (all_cons (h_flow_end.at (by decide)) all_nil)))))))))))) (all_cons (He.free_ok A.X A.G (A.c.fact 60 (f := .free "len") rfl)) (all_cons (He.free_ok A.X A.G (A.c.fact 69 (f := .free "tuple") rfl)) (all_cons (He.free_ok A.X A.G (A.c.fact 66 (f := .free "sorted") rfl)) (all_cons (He.free_ok A.X A.G (A.c.fact 65 (f := .free "repr") rfl)) (all_cons (He.free_ok A.X A.G (A.c.fact 64 (f := .free "range") rfl)) (all_cons (He.free_ok A.X A.G (A.c.fact 61 (f := .free "list") rfl)) (all_cons (He.free_ok A.X A.G (A.c.fact 58 (f := .free "int") rfl)) (all_cons (He.free_ok A.X A.G (A.c.fact 55 (f := .free "all") rfl)) (all_cons (He.free_ok A.X A.G (A.c.fact 62 (f := .free "max") rfl)) (all_cons (He.free_ok A.X A.G (A.c.fact 63 (f := .free "min") rfl)) (all_cons (He.free_ok A.X A.G (A.c.fact 67 (f := .free "sum") rfl)) all_nil))))))))))) all_nil (lam_none rfl), He.glo_ok A.X A.G (A.c.fact 51 (f := .glo "_law_right") rfl), F.kp, F.bindsN fun _ _ _ _ _ _ us hl => match us, hl with | [_], _ => rfl⟩
theorem ok_law (A : Amb w K h mg base) (h__law_cells : Has P w K mg base 1 "_law_cells" B88.M__law_cells) (h__law_right : Has P w K mg base 10 "_law_right" B88.M__law_right) (h__law_pot : Has P w K mg base 1 "_law_pot" B88.M__law_pot) : Has P w K mg base 11 "law" B88.M_law := by
  obtain ⟨fd, F⟩ := A.c.def_ 52 (d := H88.d_law) rfl
  exact ⟨_, fd, ["script"], fn_ok B88.B_law F B88.sc_law B88.m_law (by decide) (all_cons (h__law_cells.at (by decide)) (all_cons (h__law_right.at (by decide)) (all_cons (h__law_pot.at (by decide)) all_nil))) (all_cons (He.free_ok A.X A.G (A.c.fact 55 (f := .free "all") rfl)) all_nil) all_nil (lam_none rfl), He.glo_ok A.X A.G (A.c.fact 52 (f := .glo "law") rfl), F.kp, F.bindsN fun _ _ _ _ _ _ us hl => match us, hl with | [_], _ => rfl⟩
theorem okF_law {fd : FuncData} (A : Amb w K h mg base) (F : FunD K "law" "law" (defArgs H88.s_law) (defBody H88.s_law) (defScope H88.s_law) [] [] (He.fAd K ("law", none)) fd) (h__law_cells : Has P w K mg base 1 "_law_cells" B88.M__law_cells) (h__law_right : Has P w K mg base 10 "_law_right" B88.M__law_right) (h__law_pot : Has P w K mg base 1 "_law_pot" B88.M__law_pot) : FnG P w K mg base CX0 11 (He.fAd K ("law", none)) fd ["script"] (spOf B88.M_law) :=
  fn_ok B88.B_law F B88.sc_law B88.m_law (by decide) (all_cons (h__law_cells.at (by decide)) (all_cons (h__law_right.at (by decide)) (all_cons (h__law_pot.at (by decide)) all_nil))) (all_cons (He.free_ok A.X A.G (A.c.fact 55 (f := .free "all") rfl)) all_nil) all_nil (lam_none rfl)
theorem all {fd : FuncData} (A : Amb w K h mg base) (F : FunD K "law" "law" (defArgs H88.s_law) (defBody H88.s_law) (defScope H88.s_law) [] [] (He.fAd K ("law", none)) fd) : FnG P w K mg base CX0 11 (He.fAd K ("law", none)) fd ["script"] (spOf B88.M_law) := by
  have h_is_int : Has P w K mg base 1 "is_int" B88.M_is_int := ok_is_int A 
  have h_are_ints : Has P w K mg base 2 "are_ints" B88.M_are_ints := ok_are_ints A h_is_int
  have h_is_rising : Has P w K mg base 1 "is_rising" B88.M_is_rising := ok_is_rising A 
  have h_is_work : Has P w K mg base 3 "is_work" B88.M_is_work := ok_is_work A h_are_ints
  have h_is_window : Has P w K mg base 3 "is_window" B88.M_is_window := ok_is_window A h_are_ints
  have h_is_row : Has P w K mg base 3 "is_row" B88.M_is_row := ok_is_row A h_are_ints h_is_int
  have h_is_shop : Has P w K mg base 4 "is_shop" B88.M_is_shop := ok_is_shop A h_is_int h_is_work h_is_window h_is_row h_is_rising
  have h_look_at_shop : Has P w K mg base 5 "look_at_shop" B88.M_look_at_shop := ok_look_at_shop A h_is_shop
  have h_look_at_hand : Has P w K mg base 2 "look_at_hand" B88.M_look_at_hand := ok_look_at_hand A h_is_int
  have h_told_on : Has P w K mg base 1 "told_on" B88.M_told_on := ok_told_on A 
  have h_told_pairs : Has P w K mg base 1 "told_pairs" B88.M_told_pairs := ok_told_pairs A 
  have h_load_of : Has P w K mg base 6 "load_of" B88.M_load_of := ok_load_of A h_look_at_shop h_look_at_hand h_told_on
  have h_are_jobs : Has P w K mg base 4 "are_jobs" B88.M_are_jobs := ok_are_jobs A h_is_work
  have h_shop_of_jobs : Has P w K mg base 5 "shop_of_jobs" B88.M_shop_of_jobs := ok_shop_of_jobs A h_is_int h_are_jobs
  have h_are_flows : Has P w K mg base 3 "are_flows" B88.M_are_flows := ok_are_flows A h_are_ints
  have h_look_at_flows : Has P w K mg base 4 "look_at_flows" B88.M_look_at_flows := ok_look_at_flows A h_are_flows
  have h_told_sequence : Has P w K mg base 1 "told_sequence" B88.M_told_sequence := ok_told_sequence A 
  have h_told_flow_end : Has P w K mg base 1 "told_flow_end" B88.M_told_flow_end := ok_told_flow_end A 
  have h_best_sequence : Has P w K mg base 5 "best_sequence" B88.M_best_sequence := ok_best_sequence A h_look_at_flows h_told_sequence
  have h_flow_end : Has P w K mg base 5 "flow_end" B88.M_flow_end := ok_flow_end A h_look_at_flows h_are_ints h_told_flow_end
  have h_least_flow_end : Has P w K mg base 5 "least_flow_end" B88.M_least_flow_end := ok_least_flow_end A h_look_at_flows h_told_flow_end h_told_sequence
  have h_is_best_sequence : Has P w K mg base 5 "is_best_sequence" B88.M_is_best_sequence := ok_is_best_sequence A h_look_at_flows h_are_ints h_told_flow_end h_told_sequence
  have h_told_turn : Has P w K mg base 2 "told_turn" B88.M_told_turn := ok_told_turn A h_told_flow_end
  have h_turn_of : Has P w K mg base 5 "turn_of" B88.M_turn_of := ok_turn_of A h_look_at_flows h_are_ints h_told_turn
  have h_flow_shop : Has P w K mg base 6 "flow_shop" B88.M_flow_shop := ok_flow_shop A h_look_at_flows h_shop_of_jobs
  have h_told_row_steps : Has P w K mg base 1 "told_row_steps" B88.M_told_row_steps := ok_told_row_steps A 
  have h_told_end_steps : Has P w K mg base 1 "told_end_steps" B88.M_told_end_steps := ok_told_end_steps A 
  have h_told_order_steps : Has P w K mg base 1 "told_order_steps" B88.M_told_order_steps := ok_told_order_steps A 
  have h_told_steps : Has P w K mg base 2 "told_steps" B88.M_told_steps := ok_told_steps A h_told_row_steps h_told_order_steps h_told_end_steps
  have h_told_far : Has P w K mg base 1 "told_far" B88.M_told_far := ok_told_far A 
  have h_told_starts : Has P w K mg base 3 "told_starts" B88.M_told_starts := ok_told_starts A h_told_far h_told_steps
  have h_are_starts : Has P w K mg base 3 "are_starts" B88.M_are_starts := ok_are_starts A h_are_ints
  have h_look_at_starts : Has P w K mg base 6 "look_at_starts" B88.M_look_at_starts := ok_look_at_starts A h_look_at_shop h_are_starts
  have h_told_wrongs : Has P w K mg base 2 "told_wrongs" B88.M_told_wrongs := ok_told_wrongs A h_told_pairs
  have h_is_right : Has P w K mg base 3 "is_right" B88.M_is_right := ok_is_right A h_told_wrongs
  have h_is_plan : Has P w K mg base 6 "is_plan" B88.M_is_plan := ok_is_plan A h_look_at_shop h_are_starts h_is_right
  have h_look_at_plan : Has P w K mg base 7 "look_at_plan" B88.M_look_at_plan := ok_look_at_plan A h_is_plan
  have h_told_end : Has P w K mg base 1 "told_end" B88.M_told_end := ok_told_end A 
  have h_end_of : Has P w K mg base 7 "end_of" B88.M_end_of := ok_end_of A h_look_at_starts h_told_end
  have h_told_next_orders : Has P w K mg base 2 "told_next_orders" B88.M_told_next_orders := ok_told_next_orders A h_told_on
  have h_pressed : Has P w K mg base 8 "pressed" B88.M_pressed := ok_pressed A h_look_at_plan h_told_starts h_told_next_orders
  have h__law_pot : Has P w K mg base 1 "_law_pot" B88.M__law_pot := ok__law_pot A 
  have h__law_take : Has P w K mg base 1 "_law_take" B88.M__law_take := ok__law_take A 
  have h__law_of : Has P w K mg base 2 "_law_of" B88.M__law_of := ok__law_of A h__law_take
  have h__law_cells : Has P w K mg base 1 "_law_cells" B88.M__law_cells := ok__law_cells A 
  have h__law_some : Has P w K mg base 2 "_law_some" B88.M__law_some := ok__law_some A h__law_take
  have h__law_drawn : Has P w K mg base 3 "_law_drawn" B88.M__law_drawn := ok__law_drawn A h__law_take h__law_of
  have h__law_end : Has P w K mg base 1 "_law_end" B88.M__law_end := ok__law_end A 
  have h__law_rule : Has P w K mg base 1 "_law_rule" B88.M__law_rule := ok__law_rule A 
  have h__law_starts : Has P w K mg base 1 "_law_starts" B88.M__law_starts := ok__law_starts A 
  have h__law_is_order_right : Has P w K mg base 9 "_law_is_order_right" B88.M__law_is_order_right := ok__law_is_order_right A h__law_end h__law_starts h_flow_end h_is_best_sequence h_is_plan h_end_of h_pressed h_turn_of
  have h__law_right : Has P w K mg base 10 "_law_right" B88.M__law_right := ok__law_right A h__law_drawn h__law_end h__law_rule h_shop_of_jobs h_best_sequence h_flow_shop h_load_of h_least_flow_end h__law_some h__law_is_order_right h__law_take h_flow_end
  exact okF_law A F h__law_cells h__law_right h__law_pot
end
end F88
set_option Elab.async false
set_option linter.all false
set_option maxRecDepth 100000
set_option maxHeartbeats 4000000
/-! R1: what the small defs give -/
namespace R88
open PySem L2 Ev B88
variable [Tbs]
theorem run_is_int (i lo hi : Int) : M_is_int.run [.int i, .int lo, .int hi] = some (.v (.bool (decide (lo ≤ i) && decide (i ≤ hi))), .none) := by
  simp [M_is_int, B_is_int]
  by_cases h : lo ≤ i <;> simp [h]
theorem run_are_ints (ns : List Int) (lo hi : Int) (h : ns.length ≤ 100000) : M_are_ints.run [.tuple (ns.map .int), .int lo, .int hi] = some (.v (.bool (ns.all fun i => decide (lo ≤ i) && decide (i ≤ hi))), .none) := by
  have e := compF_all (G := G_are_ints) (N := N_are_ints) [3] (gNm 3) (sCall 0 [sVar 3, sVar 1, sVar 2]) PyData.int (fun i => .bool (decide (lo ≤ i) && decide (i ≤ hi))) [.va (.tuple (ns.map .int)), .va (.int lo), .va (.int hi), .un] ns fun a ha => by
    refine ⟨_, rfl, ?_, rfl⟩
    simp [run_is_int]
  simp [M_are_ints, B_are_ints, h, e, List.all_map, Function.comp_def]
end R88
set_option linter.all false
/-! J1: two hands one after the other: the best order (plain numbers, no program) -/
namespace J
abbrev P2 := Int × Int
def st (s j : P2) : P2 := (s.1 + j.1, max (s.1 + j.1) s.2 + j.2)
def F (s : P2) (l : List P2) : P2 := l.foldl st s
def E (l : List P2) : Int := (F (0, 0) l).2
def A (l : List P2) : Int := (l.map Prod.fst).sum
def B (l : List P2) : Int := (l.map Prod.snd).sum
def Ok (l : List P2) : Prop := ∀ j ∈ l, 0 ≤ j.1 ∧ 0 ≤ j.2
@[simp] theorem F_nil (s : P2) : F s [] = s := rfl
@[simp] theorem F_cons (s j : P2) (l : List P2) : F s (j :: l) = F (st s j) l := rfl
theorem F_app (s : P2) (p q : List P2) : F s (p ++ q) = F (F s p) q := List.foldl_append ..
@[simp] theorem A_nil : A [] = 0 := rfl
@[simp] theorem B_nil : B [] = 0 := rfl
@[simp] theorem A_cons (j : P2) (l : List P2) : A (j :: l) = j.1 + A l := by simp [A]
@[simp] theorem B_cons (j : P2) (l : List P2) : B (j :: l) = j.2 + B l := by simp [B]
@[simp] theorem A_app (p q : List P2) : A (p ++ q) = A p + A q := by simp [A]
@[simp] theorem B_app (p q : List P2) : B (p ++ q) = B p + B q := by simp [B]
theorem A_perm {p q : List P2} (h : p.Perm q) : A p = A q := by
  induction h with
  | nil => rfl
  | cons x _ ih => simp [ih]
  | swap x y l => simp; omega
  | trans _ _ a b => exact a.trans b
theorem B_perm {p q : List P2} (h : p.Perm q) : B p = B q := by
  induction h with
  | nil => rfl
  | cons x _ ih => simp [ih]
  | swap x y l => simp; omega
  | trans _ _ a b => exact a.trans b
theorem F_fst : ∀ (l : List P2) (s : P2), (F s l).1 = s.1 + A l
  | [], s => by simp
  | j :: l, s => by rw [F_cons, F_fst l]; simp [st]; omega
theorem F_mono : ∀ (l : List P2) (s t : P2), s.1 ≤ t.1 → s.2 ≤ t.2 → (F s l).2 ≤ (F t l).2
  | [], s, t, h, k => k
  | j :: l, s, t, h, k => by
    rw [F_cons, F_cons]
    refine F_mono l _ _ ?_ ?_ <;> simp only [st] <;> omega
theorem F_shift : ∀ (l : List P2) (s : P2) (m : Int), (F (s.1 + m, s.2 + m) l).2 = (F s l).2 + m
  | [], s, m => rfl
  | j :: l, s, m => by
    rw [F_cons, F_cons, ← F_shift l]
    congr 2
    simp only [st, Prod.mk.injEq]
    omega
theorem F_ge : ∀ (l : List P2) (s : P2), s.2 + B l ≤ (F s l).2
  | [], s => by simp
  | j :: l, s => by
    have := F_ge l (st s j)
    rw [F_cons, B_cons]
    simp only [st] at this ⊢
    omega
theorem F_le : ∀ (l : List P2) (s : P2), Ok l → s.1 ≤ s.2 → (F s l).2 ≤ s.2 + A l + B l
  | [], s, _, _ => by simp
  | j :: l, s, o, h => by
    have hj := o j List.mem_cons_self
    have := F_le l (st s j) (fun k hk => o k (List.mem_cons_of_mem _ hk)) (by simp only [st]; omega)
    rw [F_cons, B_cons, A_cons]
    simp only [st] at this ⊢
    omega
theorem F_inv : ∀ (l : List P2) (s : P2), Ok l → s.1 ≤ s.2 → (F s l).1 ≤ (F s l).2
  | [], s, _, h => h
  | j :: l, s, o, h => by
    have hj := o j List.mem_cons_self
    rw [F_cons]
    exact F_inv l _ (fun k hk => o k (List.mem_cons_of_mem _ hk)) (by simp only [st]; omega)
/-- x may stand ahead of y -/
def Ex (x y : P2) : Prop := min x.1 y.2 ≤ min y.1 x.2
theorem swap_le (x y s : P2) (h : Ex x y) (l : List P2) : (F s (x :: y :: l)).2 ≤ (F s (y :: x :: l)).2 := by
  simp only [F_cons]
  unfold Ex at h
  refine F_mono l _ _ ?_ ?_ <;> simp only [st] <;> omega
theorem front (x : P2) (q : List P2) : ∀ (p : List P2) (s : P2), (∀ y ∈ p, Ex x y) → (F s (x :: (p ++ q))).2 ≤ (F s (p ++ x :: q)).2
  | [], s, _ => Int.le_refl _
  | y :: p, s, h => by
    refine Int.le_trans (swap_le x y s (h y List.mem_cons_self) (p ++ q)) ?_
    rw [List.cons_append, F_cons, F_cons]
    exact front x q p (st s y) fun z hz => h z (List.mem_cons_of_mem _ hz)
theorem best : ∀ (l m : List P2) (s : P2), l.Pairwise Ex → (∀ x ∈ l, Ex x x) → l.Perm m → (F s l).2 ≤ (F s m).2
  | [], m, s, _, _, p => by rw [List.nil_perm.1 p]; exact Int.le_refl _
  | x :: l, m, s, w, r, p => by
    obtain ⟨u, v, rfl⟩ := List.append_of_mem (p.subset List.mem_cons_self)
    have p' : l.Perm (u ++ v) := (p.trans List.perm_middle).cons_inv
    rw [List.pairwise_cons] at w
    refine Int.le_trans ?_ (front x v u s fun y hy => w.1 y (p'.symm.subset (List.mem_append_left _ hy)))
    rw [F_cons, F_cons]
    exact best l _ _ w.2 (fun y hy => r y (List.mem_cons_of_mem _ hy)) p'
/-- v is the least end of the jobs -/
def Least (js : List P2) (v : Int) : Prop := (∃ l, l.Perm js ∧ E l = v) ∧ ∀ l, l.Perm js → v ≤ E l
theorem Ok.perm {p q : List P2} (o : Ok q) (h : p.Perm q) : Ok p := fun j hj => o j (h.subset hj)
theorem least_of (js l : List P2) (p : l.Perm js) (w : l.Pairwise Ex) (r : ∀ x ∈ l, Ex x x) : Least js (E l) :=
  ⟨⟨l, p, rfl⟩, fun m hm => best l m _ w r (p.trans hm.symm)⟩
theorem drop_le (p q : List P2) (x s : P2) (hx : 0 ≤ x.1 ∧ 0 ≤ x.2) : (F s (p ++ q)).2 ≤ (F s (p ++ x :: q)).2 := by
  rw [F_app, F_app, F_cons]
  refine F_mono q _ _ ?_ ?_ <;> simp only [st] <;> omega
theorem mid {l u v : List P2} {x : P2} (p : l.Perm (u ++ x :: v)) : ∃ a b, l = a ++ x :: b ∧ (a ++ b).Perm (u ++ v) := by
  obtain ⟨a, b, rfl⟩ := List.append_of_mem (p.symm.subset (List.mem_append_right _ List.mem_cons_self))
  exact ⟨a, b, rfl, ((List.perm_middle.symm.trans p).trans List.perm_middle).cons_inv⟩
theorem put {a b u v : List P2} (x : P2) (p : (a ++ b).Perm (u ++ v)) : (a ++ x :: b).Perm (u ++ x :: v) :=
  (List.perm_middle.trans (p.cons x)).trans List.perm_middle.symm
theorem least_all (js : List P2) (v : Int) (o : Ok js) (h : Least js v) : v ≤ A js + B js := by
  have := h.2 js (List.Perm.refl _)
  have k := F_le js (0, 0) o (Int.le_refl _)
  simp only [E] at this
  simp only at k
  omega
theorem least_b (js : List P2) (v b : Int) (n : js ≠ []) (h : Least js v) (hb : ∀ j ∈ js, b ≤ j.2) : A js + b ≤ v := by
  obtain ⟨⟨l, p, e⟩, _⟩ := h
  have nl : l ≠ [] := fun z => n (List.nil_perm.1 (z ▸ p))
  have q := List.dropLast_concat_getLast nl
  have hl := hb _ (p.subset (List.getLast_mem nl))
  have a := A_perm p
  rw [← q] at a e
  rw [E, F_app] at e
  have f := F_fst l.dropLast (0, 0)
  simp only [F_cons, F_nil, st] at e f
  simp at a
  omega
theorem least_a (js : List P2) (v a : Int) (n : js ≠ []) (h : Least js v) (ha : ∀ j ∈ js, a ≤ j.1) : B js + a ≤ v := by
  obtain ⟨⟨l, p, e⟩, _⟩ := h
  cases l with
  | nil => exact absurd (List.nil_perm.1 p) n
  | cons x t =>
    have hl := ha _ (p.subset List.mem_cons_self)
    have b := B_perm p
    have g := F_ge t (st (0, 0) x)
    rw [E, F_cons] at e
    simp only [st] at g e
    simp at b
    omega
theorem least_job (js : List P2) (v : Int) (o : Ok js) (h : Least js v) (j : P2) (hj : j ∈ js) : j.1 + j.2 ≤ v := by
  obtain ⟨⟨l, p, e⟩, _⟩ := h
  obtain ⟨a, b, rfl⟩ := List.append_of_mem (p.symm.subset hj)
  have o' := o.perm p
  have f := F_fst a (0, 0)
  have g := F_ge b (st (F (0, 0) a) j)
  have hA : 0 ≤ A a := by
    have : ∀ l : List P2, Ok l → 0 ≤ A l := by
      intro l
      induction l with
      | nil => simp
      | cons x l ih => intro o; have := ih (fun k hk => o k (List.mem_cons_of_mem _ hk)); have := o x List.mem_cons_self; simp; omega
    exact this a fun k hk => o' k (List.mem_append_left _ hk)
  have hB : 0 ≤ B b := by
    have : ∀ l : List P2, Ok l → 0 ≤ B l := by
      intro l
      induction l with
      | nil => simp
      | cons x l ih => intro o; have := ih (fun k hk => o k (List.mem_cons_of_mem _ hk)); have := o x List.mem_cons_self; simp; omega
    exact this b fun k hk => o' k (List.mem_append_right _ (List.mem_cons_of_mem _ hk))
  rw [E, F_app, F_cons] at e
  simp only [st] at g e f
  omega
theorem least_longer (u w : List P2) (a b m v v' : Int) (hm : 0 ≤ m) (h : Least (u ++ (a, b) :: w) v) (h' : Least (u ++ (a + m, b) :: w) v') : v ≤ v' ∧ v' ≤ v + m := by
  constructor
  · obtain ⟨⟨l, p, e⟩, _⟩ := h'
    obtain ⟨x, y, rfl, q⟩ := mid p
    have k := h.2 _ (put (a, b) q)
    rw [← e]
    refine Int.le_trans k ?_
    rw [E, E, F_app, F_app, F_cons, F_cons]
    refine F_mono y _ _ ?_ ?_ <;> simp only [st] <;> omega
  · obtain ⟨⟨l, p, e⟩, _⟩ := h
    obtain ⟨x, y, rfl, q⟩ := mid p
    have k := h'.2 _ (put (a + m, b) q)
    rw [← e]
    refine Int.le_trans k ?_
    rw [E, E, F_app, F_app, F_cons, F_cons, ← F_shift]
    refine F_mono y _ _ ?_ ?_ <;> simp only [st] <;> omega
theorem least_less (u w : List P2) (j : P2) (v v' : Int) (o : Ok (u ++ j :: w)) (h : Least (u ++ j :: w) v) (h' : Least (u ++ w) v') : v' ≤ v ∧ v ≤ v' + (j.1 + j.2) := by
  have hj := o j (List.mem_append_right _ List.mem_cons_self)
  constructor
  · obtain ⟨⟨l, p, e⟩, _⟩ := h
    obtain ⟨x, y, rfl, q⟩ := mid p
    have k := h'.2 _ q
    rw [← e]
    exact Int.le_trans k (drop_le x y j _ hj)
  · obtain ⟨⟨l, p, e⟩, _⟩ := h'
    have o' : Ok l := fun k hk => o k (by
      have := p.subset hk
      rcases List.mem_append.1 this with z | z
      · exact List.mem_append_left _ z
      · exact List.mem_append_right _ (List.mem_cons_of_mem _ z))
    have k := h.2 (l ++ [j]) (by
      have := put (a := l) (b := []) j (by simpa using p)
      exact this)
    have i := F_inv l (0, 0) o' (Int.le_refl _)
    rw [E, F_app] at k
    rw [E] at e
    simp only [F_cons, F_nil, st] at k
    omega
theorem sub_le (P : List P2) : ∀ (Q l : List P2), Ok (P ++ Q) → l.Perm (P ++ Q) → ∃ l', l'.Perm P ∧ E l' ≤ E l
  | [], l, _, p => ⟨l, by simpa using p, Int.le_refl _⟩
  | x :: Q, l, o, p => by
    obtain ⟨a, b, rfl, q⟩ := mid p
    obtain ⟨l', h1, h2⟩ := sub_le P Q (a ++ b) (fun k hk => o k (by
      rcases List.mem_append.1 hk with z | z
      · exact List.mem_append_left _ z
      · exact List.mem_append_right _ (List.mem_cons_of_mem _ z))) q
    exact ⟨l', h1, Int.le_trans h2 (drop_le a b x _ (o x (List.mem_append_right _ List.mem_cons_self)))⟩
theorem least_cut (P Q : List P2) (v v1 v2 : Int) (o : Ok (P ++ Q)) (h : Least (P ++ Q) v) (h1 : Least P v1) (h2 : Least Q v2) : v1 ≤ v ∧ v2 ≤ v ∧ v ≤ v1 + v2 := by
  refine ⟨?_, ?_, ?_⟩
  · obtain ⟨⟨l, p, e⟩, _⟩ := h
    obtain ⟨l', a, b⟩ := sub_le P Q l o p
    have := h1.2 l' a
    omega
  · obtain ⟨⟨l, p, e⟩, _⟩ := h
    obtain ⟨l', a, b⟩ := sub_le Q P l (o.perm List.perm_append_comm) (p.trans List.perm_append_comm)
    have := h2.2 l' a
    omega
  · obtain ⟨⟨l1, p1, e1⟩, _⟩ := h1
    obtain ⟨⟨l2, p2, e2⟩, _⟩ := h2
    have k := h.2 (l1 ++ l2) (p1.append p2)
    have o1 : Ok l1 := fun j hj => o j (List.mem_append_left _ (p1.subset hj))
    have i := F_inv l1 (0, 0) o1 (Int.le_refl _)
    rw [E, F_app] at k
    have m := F_mono l2 (F (0, 0) l1) ((0 : Int) + (F (0, 0) l1).2, (0 : Int) + (F (0, 0) l1).2) (by simp only; omega) (by simp only; omega)
    have s := F_shift l2 (0, 0) (F (0, 0) l1).2
    simp only [E] at e1 e2 k
    simp only at s m
    omega
end J
set_option linter.all false
/-! J2: the end is the greatest of the runs -/
namespace J
/-- the first hand up to place k, the second hand from there on -/
def T (l : List P2) (k : Nat) : Int := A (l.take (k + 1)) + B (l.drop k)
theorem T_le : ∀ (l : List P2) (s : P2) (k : Nat), k < l.length → s.1 + T l k ≤ (F s l).2
  | [], s, k, h => absurd h (Nat.not_lt_zero k)
  | j :: l, s, 0, _ => by
    have := F_ge l (st s j)
    rw [F_cons]
    simp only [st] at this ⊢
    simp [T]
    omega
  | j :: l, s, k + 1, h => by
    have := T_le l (st s j) k (by simpa using h)
    rw [F_cons]
    simp only [st, T] at this ⊢
    rw [List.take_succ_cons, List.drop_succ_cons, A_cons]
    omega
theorem T_ex : ∀ (l : List P2) (s : P2), (F s l).2 = s.2 + B l ∨ ∃ k, k < l.length ∧ (F s l).2 = s.1 + T l k
  | [], s => by simp
  | j :: l, s => by
    rw [F_cons]
    rcases T_ex l (st s j) with h | ⟨k, hk, h⟩
    · by_cases c : s.1 + j.1 ≤ s.2
      · left
        rw [h, B_cons]
        simp only [st]
        omega
      · right
        refine ⟨0, by simp, ?_⟩
        rw [h]
        simp [st, T]
        omega
    · right
      refine ⟨k + 1, by simpa using hk, ?_⟩
      rw [h]
      simp only [st, T]
      rw [List.take_succ_cons, List.drop_succ_cons, A_cons]
      omega
theorem T_max (l : List P2) (n : l ≠ []) (o : Ok l) : (∀ k, k < l.length → T l k ≤ E l) ∧ ∃ k, k < l.length ∧ T l k = E l := by
  have le : ∀ k, k < l.length → T l k ≤ E l := fun k hk => by
    have := T_le l (0, 0) k hk
    simp only at this
    unfold E
    omega
  refine ⟨le, ?_⟩
  have hl : 0 < l.length := List.length_pos_iff.2 n
  rcases T_ex l (0, 0) with h | ⟨k, hk, h⟩
  · refine ⟨0, hl, Int.le_antisymm (le 0 hl) ?_⟩
    unfold E
    rw [h]
    cases l with
    | nil => exact absurd rfl n
    | cons j l =>
      have := o j List.mem_cons_self
      simp [T]
      omega
  · exact ⟨k, hk, by unfold E; rw [h]; simp⟩
end J
set_option linter.all false
/-! J3: the rule's order is pairwise in order; starts of a sequence -/
namespace J
theorem pw_of (p q : List P2) (hp : ∀ x ∈ p, x.1 < x.2) (sp : p.Pairwise fun x y => x.1 ≤ y.1) (hq : ∀ x ∈ q, x.2 ≤ x.1) (sq : q.Pairwise fun x y => y.2 ≤ x.2) : (p ++ q).Pairwise Ex := by
  rw [List.pairwise_append]
  refine ⟨?_, ?_, ?_⟩
  · exact sp.imp_of_mem fun {x y} hx hy h => by
      have := hp x hx; have := hp y hy
      unfold Ex; omega
  · exact sq.imp_of_mem fun {x y} hx hy h => by
      have := hq x hx; have := hq y hy
      unfold Ex; omega
  · intro x hx y hy
    have := hp x hx; have := hq y hy
    unfold Ex; omega
theorem ex_self (x : P2) : Ex x x := by unfold Ex; omega
/-- when the first hand is free ahead of place i; when the second one is -/
def f1 (l : List P2) (i : Nat) : Int := A (l.take i)
def f2 (l : List P2) (i : Nat) : Int := (F (0, 0) (l.take i)).2
def s2 (l : List P2) (i : Nat) : Int := max (f1 l (i + 1)) (f2 l i)
theorem f1_eq (l : List P2) (i : Nat) : (F (0, 0) (l.take i)).1 = f1 l i := by rw [F_fst]; simp [f1]
@[simp] theorem f1_zero (l : List P2) : f1 l 0 = 0 := by simp [f1]
@[simp] theorem f2_zero (l : List P2) : f2 l 0 = 0 := by simp [f2]
theorem f1_succ (l : List P2) (i : Nat) (h : i < l.length) : f1 l (i + 1) = f1 l i + l[i].1 := by
  unfold f1
  rw [List.take_succ_eq_append_getElem h, A_app]
  simp
theorem f2_succ (l : List P2) (i : Nat) (h : i < l.length) : f2 l (i + 1) = s2 l i + l[i].2 := by
  have e := f1_eq l i
  unfold s2
  rw [f1_succ l i h, ← e]
  unfold f2
  rw [List.take_succ_eq_append_getElem h, F_app]
  simp [st]
theorem f2_end (l : List P2) : f2 l l.length = E l := by simp [f2, E]
theorem Ok.get {l : List P2} (o : Ok l) (i : Nat) (h : i < l.length) : 0 ≤ l[i].1 ∧ 0 ≤ l[i].2 := o _ (List.getElem_mem h)
theorem f1_mono (l : List P2) (o : Ok l) : ∀ (i j : Nat), i ≤ j → j ≤ l.length → f1 l i ≤ f1 l j := by
  intro i j hij
  induction j with
  | zero => intro _; rw [show i = 0 by omega]; exact Int.le_refl _
  | succ j ih =>
    intro hj
    rcases Nat.lt_or_ge i (j + 1) with z | z
    · have := ih (by omega) (by omega)
      have := o.get j (by omega)
      rw [f1_succ l j (by omega)]; omega
    · rw [show i = j + 1 by omega]; exact Int.le_refl _
theorem f2_mono (l : List P2) (o : Ok l) : ∀ (i j : Nat), i ≤ j → j ≤ l.length → f2 l i ≤ f2 l j := by
  intro i j hij
  induction j with
  | zero => intro _; rw [show i = 0 by omega]; exact Int.le_refl _
  | succ j ih =>
    intro hj
    rcases Nat.lt_or_ge i (j + 1) with z | z
    · have := ih (by omega) (by omega)
      have := o.get j (by omega)
      rw [f2_succ l j (by omega)]; unfold s2; omega
    · rw [show i = j + 1 by omega]; exact Int.le_refl _
theorem f1_nonneg (l : List P2) (o : Ok l) (i : Nat) (h : i ≤ l.length) : 0 ≤ f1 l i := by
  have := f1_mono l o 0 i (by omega) h
  simpa using this
/-- works of one hand do not lie over one another -/
theorem first_apart (l : List P2) (o : Ok l) (i j : Nat) (hij : i < j) (hj : j < l.length) : f1 l i + (l[i]'(by omega)).1 ≤ f1 l j := by
  rw [← f1_succ l i (by omega)]
  exact f1_mono l o _ _ (by omega) (by omega)
theorem second_apart (l : List P2) (o : Ok l) (i j : Nat) (hij : i < j) (hj : j < l.length) : s2 l i + (l[i]'(by omega)).2 ≤ s2 l j := by
  rw [← f2_succ l i (by omega)]
  have := f2_mono l o (i + 1) j (by omega) (by omega)
  unfold s2
  omega
theorem s2_end (l : List P2) (o : Ok l) (i : Nat) (h : i < l.length) : s2 l i + l[i].2 ≤ E l := by
  rw [← f2_succ l i h, ← f2_end]
  exact f2_mono l o _ _ (by omega) (by omega)
theorem s1_end (l : List P2) (o : Ok l) (i : Nat) (h : i < l.length) : f1 l i + l[i].1 ≤ s2 l i := by
  rw [← f1_succ l i h]; unfold s2; omega
theorem A_le (c : Int) : ∀ (l : List P2), (∀ j ∈ l, j.1 ≤ c) → A l ≤ l.length * c
  | [], _ => by simp
  | x :: l, h => by
    have := A_le c l fun j hj => h j (List.mem_cons_of_mem _ hj)
    have := h x List.mem_cons_self
    rw [A_cons, List.length_cons]
    have e : ((l.length + 1 : Nat) : Int) * c = l.length * c + c := by rw [Int.natCast_add, Int.add_mul]; simp
    omega
theorem B_le (c : Int) : ∀ (l : List P2), (∀ j ∈ l, j.2 ≤ c) → B l ≤ l.length * c
  | [], _ => by simp
  | x :: l, h => by
    have := B_le c l fun j hj => h j (List.mem_cons_of_mem _ hj)
    have := h x List.mem_cons_self
    rw [B_cons, List.length_cons]
    have e : ((l.length + 1 : Nat) : Int) * c = l.length * c + c := by rw [Int.natCast_add, Int.add_mul]; simp
    omega
theorem E_le (l : List P2) (o : Ok l) : E l ≤ A l + B l := by
  have := F_le l (0, 0) o (Int.le_refl _)
  unfold E
  simpa using this
end J
set_option linter.all false
/-! J4: longest ways, lap by lap, over lists of pairs -/
namespace J
abbrev FL := List (Int × Int)
def fget : FL → Int → Option Int
  | [], _ => none
  | p :: r, x => if x = p.1 then some p.2 else fget r x
def fput (k v : Int) (l : FL) : FL := match l.any fun p => decide (k = p.1) with
  | true => l.map fun p => match decide (k = p.1) with
    | true => (p.1, v)
    | false => p
  | false => l ++ [(k, v)]
theorem fput_len (k v : Int) (l : FL) : (fput k v l).length ≤ l.length + 1 := by
  unfold fput; split <;> simp
theorem fget_map (k v x : Int) : ∀ l : FL, fget (l.map fun p => match decide (k = p.1) with
    | true => (p.1, v)
    | false => p) x = if x = k then (fget l x).map (fun _ => v) else fget l x
  | [] => by simp [fget]
  | p :: l => by
    rw [List.map_cons]
    have ih := fget_map k v x l
    by_cases e : k = p.1
    · simp only [e, decide_true, fget] at ih ⊢
      rw [ih]
      by_cases y : x = p.1
      · simp [y]
      · simp [y]
    · simp only [e, decide_false, fget] at ih ⊢
      rw [ih]
      by_cases y : x = p.1
      · have : x ≠ k := fun z => e (z ▸ y)
        simp [y]
        intro h; exact absurd h.symm e
      · simp [y]
theorem fget_app (k v x : Int) : ∀ l : FL, fget (l ++ [(k, v)]) x = match fget l x with
    | some y => some y
    | none => if x = k then some v else none
  | [] => by simp [fget]
  | p :: l => by
    rw [List.cons_append]
    unfold fget
    by_cases e : x = p.1
    · simp [e]
    · simp [e, fget_app k v x l]
theorem fget_any (k : Int) : ∀ l : FL, (l.any fun p => decide (k = p.1)) = (fget l k).isSome
  | [] => rfl
  | p :: l => by
    rw [List.any_cons, fget_any k l, fget]
    by_cases e : k = p.1 <;> simp [e]
theorem fget_put (k v x : Int) (l : FL) : fget (fput k v l) x = if x = k then some v else fget l x := by
  unfold fput
  rw [fget_any]
  cases h : fget l k with
  | none =>
    show fget (l ++ [(k, v)]) x = _
    rw [fget_app]
    by_cases e : x = k
    · subst e; simp [h]
    · simp [e]; cases fget l x <;> rfl
  | some y =>
    show fget (l.map _) x = _
    rw [fget_map]
    by_cases e : x = k
    · subst e; simp [h]
    · simp [e]
/-- a step (from, to, lag) -/
abbrev Stp := Int × Int × Int
/-- does a step move -/
def mv (f : FL) (t : Stp) : Bool := match fget f t.1 with
  | none => false
  | some x => match fget f t.2.1 with
    | none => true
    | some y => decide (y < x + t.2.2)
def fv (f : FL) (k : Int) : Int := (fget f k).getD 0
/-- the ways, whether something moved -/
def rx (s : FL × Option Int) (t : Stp) : FL × Option Int := if mv s.1 t = true then (fput t.2.1 (fv s.1 t.1 + t.2.2) s.1, some t.2.1) else s
def lap (f : FL) (ts : List Stp) : FL × Option Int := ts.foldl rx (f, none)
section
variable (S : Int → Int)
def Inv (f : FL) : Prop := ∀ k v, fget f k = some v → v ≤ S k
def Set (f : FL) (k : Int) : Prop := fget f k = some (S k)
variable {S} {ts : List Stp}
theorem rx_inv {s : FL × Option Int} {t : Stp} (h : Inv S s.1) (ft : S t.1 + t.2.2 ≤ S t.2.1) : Inv S (rx s t).1 := by
  unfold rx
  split
  · rename_i m
    intro k v e
    rw [fget_put] at e
    split at e
    · rename_i z
      cases e
      subst z
      unfold mv at m
      split at m
      · cases m
      · rename_i x hx
        have := h _ _ hx
        have e : fv s.1 t.1 = x := by unfold fv; rw [hx]; rfl
        rw [e]; omega
    · exact h k v e
  · exact h
theorem rx_set {s : FL × Option Int} {t : Stp} (h : Inv S s.1) (ft : S t.1 + t.2.2 ≤ S t.2.1) {k : Int} (q : Set S s.1 k) : Set S (rx s t).1 k := by
  unfold rx
  split
  · rename_i m
    unfold Set
    rw [fget_put]
    split
    · rename_i z
      subst z
      unfold mv at m
      rw [q] at m
      split at m
      · cases m
      · rename_i x hx
        have := h _ _ hx
        have m := of_decide_eq_true m
        omega
    · exact q
  · exact q
theorem rx_tight {s : FL × Option Int} {t : Stp} (h : Inv S s.1) (ft : S t.1 + t.2.2 = S t.2.1) (q : Set S s.1 t.1) : Set S (rx s t).1 t.2.1 := by
  unfold rx
  have e : fv s.1 t.1 = S t.1 := by unfold fv; rw [q]; rfl
  split
  · unfold Set
    rw [fget_put, if_pos rfl, e, ft]
  · rename_i m
    unfold mv at m
    rw [q] at m
    dsimp only at m
    split at m
    · exact absurd rfl m
    · rename_i y hy
      have := h _ _ hy
      have : ¬ (y < S t.1 + t.2.2) := fun z => m (decide_eq_true z)
      unfold Set
      rw [hy]
      congr 1
      omega
theorem fold_inv : ∀ (ts : List Stp) (s : FL × Option Int), Inv S s.1 → (∀ t ∈ ts, S t.1 + t.2.2 ≤ S t.2.1) → Inv S (ts.foldl rx s).1
  | [], _, h, _ => h
  | t :: ts, s, h, ft => fold_inv ts _ (rx_inv h (ft t List.mem_cons_self)) fun u hu => ft u (List.mem_cons_of_mem _ hu)
theorem fold_set {k : Int} : ∀ (ts : List Stp) (s : FL × Option Int), Inv S s.1 → (∀ t ∈ ts, S t.1 + t.2.2 ≤ S t.2.1) → Set S s.1 k → Set S (ts.foldl rx s).1 k
  | [], _, _, _, q => q
  | t :: ts, s, h, ft, q => fold_set ts _ (rx_inv h (ft t List.mem_cons_self)) (fun u hu => ft u (List.mem_cons_of_mem _ hu)) (rx_set h (ft t List.mem_cons_self) q)
theorem fold_tight {t : Stp} (e : S t.1 + t.2.2 = S t.2.1) : ∀ (ts : List Stp) (s : FL × Option Int), Inv S s.1 → (∀ t ∈ ts, S t.1 + t.2.2 ≤ S t.2.1) → t ∈ ts → Set S s.1 t.1 → Set S (ts.foldl rx s).1 t.2.1
  | [], _, _, _, m, _ => nomatch m
  | u :: ts, s, h, ft, m, q => by
    have f1 := ft u List.mem_cons_self
    have f2 : ∀ t ∈ ts, S t.1 + t.2.2 ≤ S t.2.1 := fun u hu => ft u (List.mem_cons_of_mem _ hu)
    rcases List.mem_cons.1 m with z | z
    · subst z
      exact fold_set ts _ (rx_inv h f1) f2 (rx_tight h e q)
    · exact fold_tight e ts _ (rx_inv h f1) f2 z (rx_set h f1 q)
theorem fold_some (o : Option Int) : ∀ (ts : List Stp) (f : FL), (ts.foldl rx (f, o)).2 = none → o = none ∧ (ts.foldl rx (f, o)).1 = f ∧ ∀ t ∈ ts, mv f t = false
  | [], f, h => ⟨h, rfl, fun _ m => nomatch m⟩
  | t :: ts, f, h => by
    rw [List.foldl_cons] at h ⊢
    by_cases m : mv f t = true
    · have e : rx (f, o) t = (fput t.2.1 (fv f t.1 + t.2.2) f, some t.2.1) := by unfold rx; rw [if_pos m]
      rw [e] at h
      obtain ⟨z, _⟩ := fold_some (some t.2.1) ts _ h
      cases z
    · have e : rx (f, o) t = (f, o) := by unfold rx; rw [if_neg m]
      rw [e] at h ⊢
      obtain ⟨h1, h2, h3⟩ := fold_some o ts f h
      refine ⟨h1, h2, fun u hu => ?_⟩
      rcases List.mem_cons.1 hu with z | z
      · subst z; simpa using m
      · exact h3 u z
theorem fold_still : ∀ (ts : List Stp) (s : FL × Option Int), (∀ t ∈ ts, mv s.1 t = false) → ts.foldl rx s = s
  | [], _, _ => rfl
  | t :: ts, s, h => by
    have e : rx s t = s := by unfold rx; rw [if_neg (by rw [h t List.mem_cons_self]; exact Bool.false_ne_true)]
    rw [List.foldl_cons, e]
    exact fold_still ts s fun u hu => h u (List.mem_cons_of_mem _ hu)
/-- ranks: a node of rank 0 is set at the start; each other one has a tight step from a lower one -/
structure Rk (S : Int → Int) (ts : List Stp) (nodes : List Int) (rk : Int → Nat) (c : Int) : Prop where
  feas : ∀ t ∈ ts, S t.1 + t.2.2 ≤ S t.2.1
  tight : ∀ k ∈ nodes, k = c ∨ ∃ t ∈ ts, t.2.1 = k ∧ S t.1 + t.2.2 = S k ∧ t.1 ∈ nodes ∧ rk t.1 < rk k
theorem Rk.lap_set {nodes : List Int} {rk : Int → Nat} {c : Int} (r : Rk S ts nodes rk c) {f : FL} {m : Nat} (h : Inv S f) (hc : Set S f c) (q : ∀ k ∈ nodes, rk k < m → Set S f k) : ∀ k ∈ nodes, rk k < m + 1 → Set S (lap f ts).1 k := by
  intro k hk hm
  rcases r.tight k hk with z | ⟨t, ht, e, e2, h1, h2⟩
  · subst z; exact fold_set ts _ h r.feas hc
  · subst e
    exact fold_tight e2 ts _ h r.feas ht (q _ h1 (by omega))
theorem Rk.still {nodes : List Int} {rk : Int → Nat} {c : Int} (r : Rk S ts nodes rk c) {f : FL} (h : Inv S f) (hc : Set S f c) (st : ∀ t ∈ ts, mv f t = false) : ∀ k ∈ nodes, Set S f k := by
  have : ∀ m : Nat, ∀ k ∈ nodes, rk k < m → Set S f k := by
    intro m
    induction m with
    | zero => intro k _ h; omega
    | succ m ih =>
      have e : lap f ts = (f, none) := fold_still ts (f, none) st
      have := r.lap_set h hc ih
      rw [e] at this
      exact this
  exact fun k hk => this (rk k + 1) k hk (by omega)
theorem Rk.done {nodes : List Int} {rk : Int → Nat} {c : Int} (r : Rk S ts nodes rk c) {f : FL} (h : Inv S f) (q : ∀ t ∈ ts, Set S f t.1 ∧ Set S f t.2.1) : lap f ts = (f, none) := by
  refine fold_still ts _ fun t ht => ?_
  obtain ⟨h1, h2⟩ := q t ht
  unfold mv
  dsimp only
  rw [h1, h2]
  exact decide_eq_false (by have := r.feas t ht; omega)
end
theorem lap_len (ts : List Stp) : ∀ (s : FL × Option Int), (ts.foldl rx s).1.length ≤ s.1.length + ts.length := by
  induction ts with
  | nil => intro s; simp
  | cons t ts ih =>
    intro s
    rw [List.foldl_cons]
    have := ih (rx s t)
    have : (rx s t).1.length ≤ s.1.length + 1 := by
      unfold rx; split
      · exact fput_len _ _ _
      · omega
    simp; omega
end J
set_option linter.all false
/-! J5: the starts of a sequence, work by work -/
namespace J
def jb (js : List P2) (n : Nat) : P2 := js.getD n (0, 0)
def jl (js : List P2) (o : List Nat) : List P2 := o.map (jb js)
structure Ord (n : Nat) (o : List Nat) : Prop where
  perm : o.Perm (List.range n)
namespace Ord
variable {n : Nat} {o : List Nat} (h : Ord n o)
include h
theorem len : o.length = n := by rw [h.perm.length_eq, List.length_range]
theorem nodup : o.Nodup := h.perm.nodup_iff.2 List.nodup_range
theorem lt {k : Nat} (m : k ∈ o) : k < n := List.mem_range.1 (h.perm.subset m)
theorem mem {k : Nat} (m : k < n) : k ∈ o := h.perm.symm.subset (List.mem_range.2 m)
end Ord
def pos (o : List Nat) (k : Nat) : Nat := o.idxOf k
theorem pos_get {o : List Nat} (h : o.Nodup) (i : Nat) (hi : i < o.length) : pos o o[i] = i := h.idxOf_getElem i hi
theorem pos_lt {n : Nat} {o : List Nat} (h : Ord n o) {k : Nat} (m : k < n) : pos o k < n := by
  have := List.idxOf_lt_length_of_mem (h.mem m)
  rw [h.len] at this
  exact this
theorem get_pos {n : Nat} {o : List Nat} (h : Ord n o) {k : Nat} (m : k < n) : o[pos o k]'(by rw [h.len]; exact pos_lt h m) = k := List.getElem_idxOf _
theorem jl_len (js : List P2) (o : List Nat) : (jl js o).length = o.length := by simp [jl]
theorem jl_get (js : List P2) (o : List Nat) (i : Nat) (hi : i < o.length) : (jl js o)[i]'(by rw [jl_len]; exact hi) = jb js o[i] := by simp [jl]
def S1 (js : List P2) (o : List Nat) (k : Nat) : Int := f1 (jl js o) (pos o k)
def S2 (js : List P2) (o : List Nat) (k : Nat) : Int := s2 (jl js o) (pos o k)
def S (js : List P2) (o : List Nat) (w : Nat) : Int := if w % 2 = 0 then S1 js o (w / 2) else S2 js o (w / 2)
def ln (js : List P2) (w : Nat) : Int := if w % 2 = 0 then (jb js (w / 2)).1 else (jb js (w / 2)).2
theorem S_even (js : List P2) (o : List Nat) (k : Nat) : S js o (2 * k) = S1 js o k := by unfold S; rw [if_pos (by omega)]; congr 1; omega
theorem S_odd (js : List P2) (o : List Nat) (k : Nat) : S js o (2 * k + 1) = S2 js o k := by unfold S; rw [if_neg (by omega)]; congr 1; omega
theorem ln_even (js : List P2) (k : Nat) : ln js (2 * k) = (jb js k).1 := by unfold ln; rw [if_pos (by omega)]; congr 2; omega
theorem ln_odd (js : List P2) (k : Nat) : ln js (2 * k + 1) = (jb js k).2 := by unfold ln; rw [if_neg (by omega)]; congr 2; omega
theorem eo (w : Nat) : (∃ k, w = 2 * k) ∨ ∃ k, w = 2 * k + 1 := by
  rcases Nat.mod_two_eq_zero_or_one w with h | h
  · exact .inl ⟨w / 2, by omega⟩
  · exact .inr ⟨w / 2, by omega⟩
/-- all lengths from 1 to c -/
structure Rng (js : List P2) : Prop where
  len : js.length ≤ 12
  rng : ∀ j ∈ js, 1 ≤ j.1 ∧ j.1 ≤ 1000 ∧ 1 ≤ j.2 ∧ j.2 ≤ 1000
section
variable {js : List P2} {o : List Nat} (g : Rng js) (h : Ord js.length o)
include g in
theorem Rng.jb {k : Nat} (m : k < js.length) : 1 ≤ (jb js k).1 ∧ (J.jb js k).1 ≤ 1000 ∧ 1 ≤ (J.jb js k).2 ∧ (J.jb js k).2 ≤ 1000 := by
  refine g.rng _ ?_
  unfold J.jb
  rw [List.getD_eq_getElem?_getD, List.getElem?_eq_getElem m]
  exact List.getElem_mem m
include g h in
theorem jl_rng : ∀ j ∈ jl js o, 1 ≤ j.1 ∧ j.1 ≤ 1000 ∧ 1 ≤ j.2 ∧ j.2 ≤ 1000 := fun j hj => by
  obtain ⟨k, hk, rfl⟩ := List.mem_map.1 hj
  exact g.jb (h.lt hk)
include g h in
theorem jl_ok : Ok (jl js o) := fun j hj => by have := jl_rng g h j hj; omega
include g h in
theorem E_top : E (jl js o) ≤ 24000 := by
  have a := A_le 1000 (jl js o) fun j hj => (jl_rng g h j hj).2.1
  have b := B_le 1000 (jl js o) fun j hj => (jl_rng g h j hj).2.2.2
  have e := E_le _ (jl_ok g h)
  have l := g.len
  rw [jl_len, h.len] at a b
  omega
include h in
theorem jlp {k : Nat} (m : k < js.length) : pos o k < (jl js o).length ∧ ∀ p, (jl js o)[pos o k]'p = J.jb js k := by
  have q := pos_lt h m
  refine ⟨by rw [jl_len, h.len]; exact q, fun p => ?_⟩
  rw [jl_get js o _ (by rw [h.len]; exact q), get_pos h m]
include g h in
theorem S_row {k : Nat} (m : k < js.length) : S1 js o k + (J.jb js k).1 ≤ S2 js o k := by
  obtain ⟨p, e⟩ := jlp h m
  have := s1_end _ (jl_ok g h) _ p
  rw [e] at this
  exact this
include g h in
theorem S1_nn {k : Nat} (m : k < js.length) : 0 ≤ S1 js o k := by
  obtain ⟨p, e⟩ := jlp h m
  exact f1_nonneg _ (jl_ok g h) _ (Nat.le_of_lt p)
include g h in
theorem S2_end {k : Nat} (m : k < js.length) : S2 js o k + (J.jb js k).2 ≤ E (jl js o) := by
  obtain ⟨p, e⟩ := jlp h m
  have := s2_end _ (jl_ok g h) _ p
  rw [e] at this
  exact this
include g h in
theorem S_rng {w : Nat} (m : w < 2 * js.length) : 0 ≤ S js o w ∧ S js o w + ln js w ≤ E (jl js o) ∧ S js o w ≤ 24000 ∧ 1 ≤ ln js w ∧ ln js w ≤ 1000 := by
  have t := E_top g h
  rcases eo w with ⟨k, rfl⟩ | ⟨k, rfl⟩
  · have m' : k < js.length := by omega
    have := S_row g h m'
    have := S1_nn g h m'
    have := S2_end g h m'
    have := g.jb m'
    rw [S_even, ln_even]
    omega
  · have m' : k < js.length := by omega
    have := S_row g h m'
    have := S1_nn g h m'
    have := S2_end g h m'
    have := g.jb m'
    rw [S_odd, ln_odd]
    omega
include g h in
/-- of two works on a hand one is done ahead of the other, by their places -/
theorem S_apart1 {k l : Nat} (mk : k < js.length) (ml : l < js.length) (c : pos o k < pos o l) : S1 js o k + (J.jb js k).1 ≤ S1 js o l := by
  obtain ⟨p, e⟩ := jlp h mk
  obtain ⟨p', e'⟩ := jlp h ml
  have := first_apart _ (jl_ok g h) _ _ c p'
  rw [e] at this
  exact this
include g h in
theorem S_apart2 {k l : Nat} (mk : k < js.length) (ml : l < js.length) (c : pos o k < pos o l) : S2 js o k + (J.jb js k).2 ≤ S2 js o l := by
  obtain ⟨p, e⟩ := jlp h mk
  obtain ⟨p', e'⟩ := jlp h ml
  have := second_apart _ (jl_ok g h) _ _ c p'
  rw [e] at this
  exact this
include h in
theorem pos_inj {k l : Nat} (mk : k < js.length) (ml : l < js.length) (c : pos o k = pos o l) : k = l := by
  have a := get_pos h mk
  have b := get_pos h ml
  simp only [c] at a
  rw [← a, b]
include g h in
theorem S_clash {x y : Nat} (mx : x < 2 * js.length) (my : y < 2 * js.length) (n : x ≠ y) (p : x % 2 = y % 2) : ¬ (S js o x < S js o y + ln js y ∧ S js o y < S js o x + ln js x) := by
  rcases eo x with ⟨k, rfl⟩ | ⟨k, rfl⟩ <;> rcases eo y with ⟨l, rfl⟩ | ⟨l, rfl⟩ <;> first | omega | skip
  · rw [S_even, S_even, ln_even, ln_even]
    have mk : k < js.length := by omega
    have ml : l < js.length := by omega
    rcases Nat.lt_trichotomy (pos o k) (pos o l) with c | c | c
    · have := S_apart1 g h mk ml c; omega
    · have := pos_inj h mk ml c; omega
    · have := S_apart1 g h ml mk c; omega
  · rw [S_odd, S_odd, ln_odd, ln_odd]
    have mk : k < js.length := by omega
    have ml : l < js.length := by omega
    rcases Nat.lt_trichotomy (pos o k) (pos o l) with c | c | c
    · have := S_apart2 g h mk ml c; omega
    · have := pos_inj h mk ml c; omega
    · have := S_apart2 g h ml mk c; omega
include h in
theorem S_last (n : js.length ≠ 0) : ∃ w, w < 2 * js.length ∧ S js o w + ln js w = E (jl js o) := by
  have hl : js.length - 1 < o.length := by rw [h.len]; omega
  have hk := h.lt (List.getElem_mem hl)
  refine ⟨2 * o[js.length - 1] + 1, by omega, ?_⟩
  rw [S_odd, ln_odd]
  unfold S2
  rw [pos_get h.nodup _ hl, ← f2_end, jl_len, h.len]
  have := f2_succ (jl js o) (js.length - 1) (by rw [jl_len]; exact hl)
  rw [jl_get js o _ hl] at this
  rw [← this]
  congr 1
  omega
end
end J
set_option linter.all false
/-! J6: the steps of a sequence's shop have ranks -/
namespace J
/-- next to one another -/
abbrev nx (l : List Nat) : List (Nat × Nat) := l.zip (l.drop 1)
def evs (o : List Nat) : List Nat := o.map fun k => 2 * k
def ods (o : List Nat) : List Nat := o.map fun k => 2 * k + 1
theorem nx_map (f : Nat → Nat) (o : List Nat) : nx (o.map f) = (nx o).map fun p => (f p.1, f p.2) := by
  show (o.map f).zip ((o.map f).drop 1) = _
  rw [← List.map_drop, List.zip_map]
  rfl
theorem nx_mem {o : List Nat} {p : Nat × Nat} (m : p ∈ nx o) : ∃ i, ∃ hi : i + 1 < o.length, p = (o[i], o[i + 1]) := by
  obtain ⟨i, hi, e⟩ := List.getElem_of_mem m
  have hi' : i + 1 < o.length := by
    rw [List.length_zip, List.length_drop] at hi
    omega
  refine ⟨i, hi', ?_⟩
  rw [← e, List.getElem_zip]
  simp [Nat.add_comm]
theorem mem_nx {o : List Nat} (i : Nat) (hi : i + 1 < o.length) : (o[i], o[i + 1]) ∈ nx o := by
  have hl : i < (nx o).length := by rw [List.length_zip, List.length_drop]; omega
  have := List.getElem_mem hl
  have e : (nx o)[i] = (o[i], o[i + 1]) := by
    rw [List.getElem_zip]
    simp [Nat.add_comm]
  rw [e] at this
  exact this
def rowsT (js : List P2) : List Stp := (List.range js.length).map fun k => (((2 * k : Nat) : Int), ((2 * k + 1 : Nat) : Int), (jb js k).1)
def winT (n : Nat) : List Stp := (List.range n).flatMap fun w : Nat => [((n : Int), (w : Int), 0), ((w : Int), (n : Int), -1000000)]
def ordT (js : List P2) (l : List (Nat × Nat)) : List Stp := l.map fun p => ((p.1 : Int), (p.2 : Int), ln js p.1)
def stepsT (js : List P2) (l : List (Nat × Nat)) : List Stp := rowsT js ++ winT (2 * js.length) ++ ordT js l
def Sc (js : List P2) (o : List Nat) (x : Int) : Int := if x < ((2 * js.length : Nat) : Int) then S js o x.toNat else 0
theorem Sc_nat (js : List P2) (o : List Nat) (w : Nat) (m : w < 2 * js.length) : Sc js o (w : Int) = S js o w := by
  unfold Sc
  rw [if_pos (Int.ofNat_lt.2 m)]
  rfl
theorem Sc_clock (js : List P2) (o : List Nat) : Sc js o ((2 * js.length : Nat) : Int) = 0 := by
  unfold Sc
  rw [if_neg (Int.lt_irrefl _)]
def nodes (n : Nat) : List Int := (List.range (n + 1)).map fun w : Nat => (w : Int)
def rkN (o : List Nat) (w : Nat) : Nat := pos o (w / 2) + w % 2 + 1
def rk (n : Nat) (o : List Nat) (x : Int) : Nat := if x < (n : Int) then rkN o x.toNat else 0
theorem rk_nat {n : Nat} (o : List Nat) (w : Nat) (m : w < n) : rk n o (w : Int) = rkN o w := by
  unfold rk
  rw [if_pos (Int.ofNat_lt.2 m)]
  rfl
theorem rk_clock (n : Nat) (o : List Nat) : rk n o (n : Int) = 0 := by
  unfold rk
  rw [if_neg (Int.lt_irrefl _)]
section
variable {js : List P2} {o : List Nat} (g : Rng js) (h : Ord js.length o) {l : List (Nat × Nat)} (hl : ∀ p, p ∈ l ↔ p ∈ nx (evs o) ∨ p ∈ nx (ods o))
include g h hl in
theorem ord_fact : ∀ p ∈ l, p.1 < 2 * js.length ∧ p.2 < 2 * js.length ∧ S js o p.1 + ln js p.1 ≤ S js o p.2 := by
  intro p hp
  rcases (hl p).1 hp with m | m
  · unfold evs at m
    rw [nx_map] at m
    obtain ⟨q, hq, rfl⟩ := List.mem_map.1 m
    obtain ⟨i, hi, rfl⟩ := nx_mem hq
    have a := h.lt (List.getElem_mem (show i < o.length by omega))
    have b := h.lt (List.getElem_mem hi)
    refine ⟨by dsimp only; omega, by dsimp only; omega, ?_⟩
    dsimp only
    rw [S_even, S_even, ln_even]
    exact S_apart1 g h a b (by rw [pos_get h.nodup _ hi, pos_get h.nodup i (by omega)]; omega)
  · unfold ods at m
    rw [nx_map] at m
    obtain ⟨q, hq, rfl⟩ := List.mem_map.1 m
    obtain ⟨i, hi, rfl⟩ := nx_mem hq
    have a := h.lt (List.getElem_mem (show i < o.length by omega))
    have b := h.lt (List.getElem_mem hi)
    refine ⟨by dsimp only; omega, by dsimp only; omega, ?_⟩
    dsimp only
    rw [S_odd, S_odd, ln_odd]
    exact S_apart2 g h a b (by rw [pos_get h.nodup _ hi, pos_get h.nodup i (by omega)]; omega)
include g h hl in
theorem T_nodes : ∀ t ∈ stepsT js l, t.1 ∈ nodes (2 * js.length) ∧ t.2.1 ∈ nodes (2 * js.length) := by
  have nd : ∀ w, w < 2 * js.length + 1 → ((w : Nat) : Int) ∈ nodes (2 * js.length) := fun w hw => List.mem_map.2 ⟨w, List.mem_range.2 hw, rfl⟩
  intro t ht
  unfold stepsT at ht
  rcases List.mem_append.1 ht with ht | ht
  · rcases List.mem_append.1 ht with ht | ht
    · obtain ⟨k, hk, rfl⟩ := List.mem_map.1 ht
      have := List.mem_range.1 hk
      exact ⟨nd _ (by omega), nd _ (by omega)⟩
    · obtain ⟨w, hw, ht⟩ := List.mem_flatMap.1 ht
      have := List.mem_range.1 hw
      rcases List.mem_cons.1 ht with rfl | ht
      · exact ⟨nd _ (by omega), nd _ (by omega)⟩
      · rw [List.mem_singleton.1 ht]
        exact ⟨nd _ (by omega), nd _ (by omega)⟩
  · obtain ⟨p, hp, rfl⟩ := List.mem_map.1 ht
    obtain ⟨a, b, _⟩ := ord_fact g h hl p hp
    exact ⟨nd _ (by omega), nd _ (by omega)⟩
include g h hl in
theorem T_rk : Rk (Sc js o) (stepsT js l) (nodes (2 * js.length)) (rk (2 * js.length) o) ((2 * js.length : Nat) : Int) := by
  have nd : ∀ w, w < 2 * js.length + 1 → ((w : Nat) : Int) ∈ nodes (2 * js.length) := fun w hw => List.mem_map.2 ⟨w, List.mem_range.2 hw, rfl⟩
  constructor
  · intro t ht
    unfold stepsT at ht
    rcases List.mem_append.1 ht with ht | ht
    · rcases List.mem_append.1 ht with ht | ht
      · obtain ⟨k, hk, rfl⟩ := List.mem_map.1 ht
        have m := List.mem_range.1 hk
        dsimp only
        rw [Sc_nat _ _ _ (by omega), Sc_nat _ _ _ (by omega), S_even, S_odd]
        exact S_row g h m
      · obtain ⟨w, hw, ht⟩ := List.mem_flatMap.1 ht
        have m := List.mem_range.1 hw
        have := S_rng g h m
        rcases List.mem_cons.1 ht with rfl | ht
        · dsimp only
          rw [Sc_nat _ _ _ m, Sc_clock]; omega
        · rw [List.mem_singleton.1 ht]
          dsimp only
          rw [Sc_nat _ _ _ m, Sc_clock]; omega
    · obtain ⟨p, hp, rfl⟩ := List.mem_map.1 ht
      obtain ⟨a, b, c⟩ := ord_fact g h hl p hp
      dsimp only
      rw [Sc_nat _ _ _ a, Sc_nat _ _ _ b]
      exact c
  · intro x hx
    obtain ⟨w, hw, rfl⟩ := List.mem_map.1 hx
    have hw := List.mem_range.1 hw
    rcases Nat.lt_or_ge w (2 * js.length) with m | m
    · right
      rcases eo w with ⟨k, rfl⟩ | ⟨k, rfl⟩
      · have mk : k < js.length := by omega
        cases e : pos o k with
        | zero =>
          refine ⟨(((2 * js.length : Nat) : Int), ((2 * k : Nat) : Int), 0), ?_, rfl, ?_, nd _ (by omega), ?_⟩
          · exact List.mem_append_left _ (List.mem_append_right _ (List.mem_flatMap.2 ⟨2 * k, List.mem_range.2 m, List.mem_cons_self⟩))
          · dsimp only
            rw [Sc_clock, Sc_nat _ _ _ m, S_even, S1, e]; simp
          · dsimp only
            rw [rk_clock, rk_nat _ _ m]; unfold rkN; omega
        | succ i =>
          have hi : i + 1 < o.length := by rw [← e, h.len]; exact pos_lt h mk
          have ek : o[i + 1] = k := by
            have := get_pos h mk
            simpa [e] using this
          have p0 := h.lt (List.getElem_mem (show i < o.length by omega))
          have q0 : pos o o[i] = i := pos_get h.nodup i (by omega)
          refine ⟨(((2 * o[i] : Nat) : Int), ((2 * k : Nat) : Int), ln js (2 * o[i])), ?_, rfl, ?_, nd _ (by omega), ?_⟩
          · refine List.mem_append_right _ (List.mem_map.2 ⟨(2 * o[i], 2 * k), (hl _).2 (.inl ?_), rfl⟩)
            unfold evs
            rw [nx_map]
            exact List.mem_map.2 ⟨(o[i], k), by have := mem_nx i hi; rw [ek] at this; exact this, rfl⟩
          · dsimp only
            rw [Sc_nat _ _ _ (by omega), Sc_nat _ _ _ m, S_even, S_even, ln_even, S1, S1, q0, e, f1_succ _ _ (by rw [jl_len]; omega), jl_get _ _ _ (by omega)]
          · dsimp only
            rw [rk_nat _ _ (by omega), rk_nat _ _ m]
            unfold rkN
            rw [show 2 * o[i] / 2 = o[i] by omega, show 2 * k / 2 = k by omega, q0, e]
            omega
      · have mk : k < js.length := by omega
        have hp : pos o k < o.length := by rw [h.len]; exact pos_lt h mk
        have ek : o[pos o k] = k := get_pos h mk
        by_cases c : f2 (jl js o) (pos o k) ≤ f1 (jl js o) (pos o k + 1)
        · refine ⟨(((2 * k : Nat) : Int), ((2 * k + 1 : Nat) : Int), (jb js k).1), ?_, rfl, ?_, nd _ (by omega), ?_⟩
          · exact List.mem_append_left _ (List.mem_append_left _ (List.mem_map.2 ⟨k, List.mem_range.2 mk, rfl⟩))
          · dsimp only
            rw [Sc_nat _ _ _ (by omega), Sc_nat _ _ _ m, S_even, S_odd, S1, S2, s2, Int.max_eq_left c, f1_succ _ _ (by rw [jl_len]; exact hp), jl_get _ _ _ hp, ek]
          · dsimp only
            rw [rk_nat _ _ (by omega), rk_nat _ _ m]
            unfold rkN
            rw [show 2 * k / 2 = k by omega, show (2 * k + 1) / 2 = k by omega]
            omega
        · cases e : pos o k with
          | zero =>
            exfalso
            rw [e] at c hp
            have := f1_nonneg (jl js o) (jl_ok g h) 1 (by rw [jl_len]; omega)
            simp at c
            omega
          | succ i =>
            rw [e] at c hp
            have ek : o[i + 1] = k := by simpa [e] using ek
            have p0 := h.lt (List.getElem_mem (show i < o.length by omega))
            have q0 : pos o o[i] = i := pos_get h.nodup i (by omega)
            refine ⟨(((2 * o[i] + 1 : Nat) : Int), ((2 * k + 1 : Nat) : Int), ln js (2 * o[i] + 1)), ?_, rfl, ?_, nd _ (by omega), ?_⟩
            · refine List.mem_append_right _ (List.mem_map.2 ⟨(2 * o[i] + 1, 2 * k + 1), (hl _).2 (.inr ?_), rfl⟩)
              unfold ods
              rw [nx_map]
              exact List.mem_map.2 ⟨(o[i], k), by have := mem_nx i hp; rw [ek] at this; exact this, rfl⟩
            · dsimp only
              rw [Sc_nat _ _ _ (by omega), Sc_nat _ _ _ m, S_odd, S_odd, ln_odd, S2, S2, q0, e]
              have := f2_succ (jl js o) i (by rw [jl_len]; omega)
              rw [jl_get _ _ _ (by omega)] at this
              rw [← this]
              conv => rhs; unfold s2
              omega
            · dsimp only
              rw [rk_nat _ _ (by omega), rk_nat _ _ m]
              unfold rkN
              rw [show (2 * o[i] + 1) / 2 = o[i] by omega, show (2 * k + 1) / 2 = k by omega, q0, e]
              omega
    · left
      rw [show w = 2 * js.length by omega]
include h in
theorem rk_top : ∀ x ∈ nodes (2 * js.length), rk (2 * js.length) o x < js.length + 2 := by
  intro x hx
  obtain ⟨w, hw, rfl⟩ := List.mem_map.1 hx
  have hw := List.mem_range.1 hw
  rcases Nat.lt_or_ge w (2 * js.length) with m | m
  · rw [rk_nat _ _ m]
    have := pos_lt h (show w / 2 < js.length by omega)
    unfold rkN
    omega
  · rw [show w = 2 * js.length by omega, rk_clock]; omega
end
end J
set_option Elab.async false
set_option linter.all false
set_option maxRecDepth 100000
set_option maxHeartbeats 4000000
/-! R2: jobs, orders, ends -/
namespace R88
open PySem L2 Ev B88
open J (jb jl)
variable [Tbs]
abbrev Js := List P2
abbrev jD (js : Js) : D := .tuple (js.map pD)
abbrev oD (o : List Nat) : D := .tuple (o.map nD)
theorem atI_enc {α : Type} (f : α → D) (l : List α) (n : Nat) (d : α) (h : n < l.length) : atI (l.map f) (n : Int) = some (f (l.getD n d)) := by
  refine atI_nat ?_
  rw [List.getElem?_map, List.getElem?_eq_getElem h, List.getD_eq_getElem?_getD, List.getElem?_eq_getElem h]
  rfl
@[simp] theorem at0 (a : D) (l : List D) : atI (a :: l) 0 = some a := atI_nat (j := 0) rfl
@[simp] theorem at1 (a b : D) (l : List D) : atI (a :: b :: l) 1 = some b := atI_nat (j := 1) rfl
@[simp] theorem at2 (a b c : D) (l : List D) : atI (a :: b :: c :: l) 2 = some c := atI_nat (j := 2) rfl
@[simp] theorem at3 (a b c d : D) (l : List D) : atI (a :: b :: c :: d :: l) 3 = some d := atI_nat (j := 3) rfl
theorem at_job (js : Js) (n : Nat) (h : n < js.length) : atI (js.map pD) (n : Int) = some (.tuple [.int (jb js n).1, .int (jb js n).2]) := atI_enc pD js n (0, 0) h
def stepE (js : Js) (s : Int × Int) (n : Nat) : Int × Int := (s.1 + (jb js n).1, max (s.1 + (jb js n).1) s.2 + (jb js n).2)
def endE (js : Js) (o : List Nat) : Int := (o.foldl (stepE js) (0, 0)).2
/-- with what stands in the loop's slot -/
def stepS (js : Js) (s : (Int × Int) × Slot) (n : Nat) : (Int × Int) × Slot := (stepE js s.1 n, .va (nD n))
theorem foldS (js : Js) : ∀ (o : List Nat) (s : (Int × Int) × Slot), (o.foldl (stepS js) s).1 = o.foldl (stepE js) s.1
  | [], _ => rfl
  | n :: o, s => by rw [List.foldl_cons, List.foldl_cons, foldS js o]; rfl
theorem run_told_flow_end (js : Js) (o : List Nat) (h : ∀ n ∈ o, n < js.length) : M_told_flow_end.run [jD js, oD o] = some (.v (.int (endE js o)), .none) := by
  have e := forF_fold (G := G_told_flow_end) (N := N_told_flow_end) (nio := 0) (gNm 4) [(xAug .Add augAddD augAdd_ok 2 (sIx (sIx (sVar 0) (sVar 4)) (sCon (.int 0)))), (xSet 3 (sBin .Add addD add_ok (sBlt bMax [sVar 2, sVar 3]) (sIx (sIx (sVar 0) (sVar 4)) (sCon (.int 1)))))] nD
    (fun s : (Int × Int) × Slot => [.va (jD js), .va (oD o), .va (.int s.1.1), .va (.int s.1.2), s.2]) (stepS js) o ((0, 0), .un) fun s n hn => by
      refine ⟨_, rfl, ?_⟩
      simp [jD, nD, at_job js n (h n hn), stepS, stepE]
  simp [M_told_flow_end, B_told_flow_end, jD, oD] at e ⊢
  simp [e, endE, foldS]
theorem run_told_flow_endL (js : Js) (o : List Nat) (h : ∀ n ∈ o, n < js.length) : M_told_flow_end.run [jD js, .list (o.map nD)] = some (.v (.int (endE js o)), .none) := by
  have e := forF_fold (G := G_told_flow_end) (N := N_told_flow_end) (nio := 0) (gNm 4) [(xAug .Add augAddD augAdd_ok 2 (sIx (sIx (sVar 0) (sVar 4)) (sCon (.int 0)))), (xSet 3 (sBin .Add addD add_ok (sBlt bMax [sVar 2, sVar 3]) (sIx (sIx (sVar 0) (sVar 4)) (sCon (.int 1)))))] nD
    (fun s : (Int × Int) × Slot => [.va (jD js), .va (.list (o.map nD)), .va (.int s.1.1), .va (.int s.1.2), s.2]) (stepS js) o ((0, 0), .un) fun s n hn => by
      refine ⟨_, rfl, ?_⟩
      simp [jD, nD, at_job js n (h n hn), stepS, stepE]
  simp [M_told_flow_end, B_told_flow_end, jD, oD] at e ⊢
  simp [e, endE, foldS]
end R88
set_option Elab.async false
set_option linter.all false
set_option maxRecDepth 100000
set_option maxHeartbeats 4000000
/-! R3: the looks at flows, the law's own end -/
namespace R88
open PySem L2 Ev B88
open J (jb jl)
variable [Tbs]
abbrev Jok (js : Js) : Prop := J.Rng js
@[simp] theorem at_sum (js : Js) : (js.map pD).length = js.length := List.length_map ..
theorem run_are_flows (js : Js) (h : Jok js) : M_are_flows.run [jD js] = some (.v (.bool true), .none) := by
  have e := compF_all (G := G_are_flows) (N := N_are_flows) [1] (gNm 1) (sAnd [(sCall 0 [(sVar 1), (sCon (.int 1)), (sGl 1)]), (sCmp .Eq eqSD eqS_ok (sBlt bLen [(sVar 1)]) (sCon (.int 2)))]) pD (fun _ => .bool true) [.va (jD js), .un] js fun j hj => by
    refine ⟨_, rfl, ?_, rfl⟩
    have r := run_are_ints [j.1, j.2] 1 1000 (by simp)
    have b := h.rng j hj
    simp at r
    simp [pD, r, b]
  have l := h.len
  have l' : ¬ 12 < (js.length : Int) := by omega
  have l'' : js.length ≤ 100000 := by omega
  simp [M_are_flows, B_are_flows, jD, l', l''] at e ⊢
  simp [e]
theorem run_look_at_flows (js : Js) (h : Jok js) : M_look_at_flows.run [jD js] = some (.v .none, .none) := by
  simp [M_look_at_flows, B_look_at_flows, run_are_flows js h]
end R88
set_option Elab.async false
set_option linter.all false
set_option maxRecDepth 100000
set_option maxHeartbeats 4000000
/-! R4: the rule -/
namespace R88
open PySem L2 Ev B88
open J (jb jl)
variable [Tbs]
theorem sorted_pairs (ps : List P2) : sortedD (.list (ps.map pD)) = some (.fr (.list ((srtP ps).map pD))) := by
  cases ps with
  | nil => simp [sortedD, intsD, srtI, srtP]
  | cons p ps =>
    have : intsD ((p :: ps).map pD) = none := by simp [intsD, pD]
    simp only [sortedD, sqD, Option.bind_some, this, pairsD_map]
theorem sorted_tuple (ps : List P2) : sortedD (.tuple (ps.map pD)) = some (.fr (.list ((srtP ps).map pD))) := sorted_pairs ps
theorem sorted_ints (ns : List Int) : sortedD (.list (ns.map .int)) = some (.fr (.list ((srtI ns).map .int))) := by
  simp only [sortedD, sqD, Option.bind_some, intsD_int]
theorem sorted_intsT (ns : List Int) : sortedD (.tuple (ns.map .int)) = some (.fr (.list ((srtI ns).map .int))) := sorted_ints ns
def L1 (js : Js) : List P2 := (js.zipIdx.filter fun p => decide (p.1.1 < p.1.2)).map fun p => (p.1.1, (p.2 : Int))
def L2' (js : Js) : List P2 := (js.zipIdx.filter fun p => decide (p.1.2 ≤ p.1.1)).map fun p => (-p.1.2, (p.2 : Int))
def ruleI (js : Js) : List Int := (srtP (L1 js) ++ srtP (L2' js)).map Prod.snd
def enP (p : P2 × Nat) : D := .tuple [.int (p.2 : Nat), pD p.1]
@[simp] theorem srtP_len (l : List P2) : (srtP l).length = l.length := (List.mergeSort_perm ..).length_eq
theorem L_len (js : Js) : (L1 js).length + (L2' js).length = js.length := by
  have := (List.filter_append_perm (fun p : P2 × Nat => decide (p.1.1 < p.1.2)) js.zipIdx).length_eq
  rw [List.length_append, List.length_zipIdx] at this
  simp only [L1, L2', List.length_map]
  rw [← this]
  congr 2
  apply List.filter_congr
  intro p _
  by_cases c : p.1.1 < p.1.2
  · simp [c]
  · simp [c]; omega
theorem ruleI_len (js : Js) : (ruleI js).length = js.length := by simp [ruleI, L_len]
theorem run_told_sequence (js : Js) (h : Jok js) : M_told_sequence.run [jD js] = some (.fr (.list ((ruleI js).map .int)), .none) := by
  have e1 := compF_enc (G := G_told_sequence) (N := N_told_sequence) [4, 5, 6] (gTp [(gNm 4), (gTp [(gNm 5), (gNm 6)])]) (some (tCmp .Lt ltD lt_ok (sVar 5) (sVar 6))) (sTup [.one (sVar 5), .one (sVar 4)]) enP (fun p => pD (p.1.1, (p.2 : Int))) (fun p => decide (p.1.1 < p.1.2)) [.va (jD js), .un, .un, .un, .un, .un, .un] js.zipIdx fun p hp => by
    refine ⟨_, rfl, ?_, ?_, ?_⟩ <;> simp [enP, pD]
  rw [show (js.zipIdx.filter fun p => decide (p.1.1 < p.1.2)).map (fun p => pD (p.1.1, (p.2 : Int))) = (L1 js).map pD by simp [L1, Function.comp_def]] at e1
  have e2 := compF_enc (G := G_told_sequence) (N := N_told_sequence) [4, 5, 6] (gTp [(gNm 4), (gTp [(gNm 5), (gNm 6)])]) (some (tCmp .GtE geD ge_ok (sVar 5) (sVar 6))) (sTup [.one (sNeg (sVar 6)), .one (sVar 4)]) enP (fun p => pD (-p.1.2, (p.2 : Int))) (fun p => decide (p.1.2 ≤ p.1.1)) [.va (jD js), .ow (.list ((srtP (L1 js)).map pD)), .un, .un, .un, .un, .un] js.zipIdx fun p hp => by
    refine ⟨_, rfl, ?_, ?_, ?_⟩ <;> simp [enP, pD]
  rw [show (js.zipIdx.filter fun p => decide (p.1.2 ≤ p.1.1)).map (fun p => pD (-p.1.2, (p.2 : Int))) = (L2' js).map pD by simp [L2', Function.comp_def]] at e2
  have e3 := compF_all (G := G_told_sequence) (N := N_told_sequence) [3, 4] (gTp [(gNm 3), (gNm 4)]) (sVar 4) pD (fun p => .int p.2) [.va (jD js), .ow (.list ((srtP (L1 js)).map pD)), .ow (.list ((srtP (L2' js)).map pD)), .un, .un, .un, .un] (srtP (L1 js) ++ srtP (L2' js)) fun p hp => by
    refine ⟨_, rfl, ?_, ?_⟩ <;> simp [pD]
  rw [show (srtP (L1 js) ++ srtP (L2' js)).map (fun p => PyData.int p.2) = (ruleI js).map .int by simp [ruleI, Function.comp_def]] at e3
  have en : enumL 0 (js.map pD) = js.zipIdx.map enP := enumL_map pD js 0
  have l : js.length ≤ 100000 := Nat.le_trans h.len (by decide)
  have l3 : (L1 js).length + (L2' js).length ≤ 100000 := by rw [L_len]; exact l
  have l4 : (ruleI js).length ≤ 100000 := by rw [ruleI_len]; exact l
  rw [List.map_append] at e3
  simp only [jD] at e1 e2 e3
  simp [-sortedD, M_told_sequence, B_told_sequence, jD, en, e1, e2, e3, l, l3, l4, sorted_pairs]
end R88
set_option Elab.async false
set_option linter.all false
set_option maxRecDepth 100000
set_option maxHeartbeats 4000000
/-! R5: orders -/
namespace R88
open PySem L2 Ev B88
open J (jb jl)
variable [Tbs]
def rule (js : Js) : List Nat := (ruleI js).map Int.toNat
theorem ruleI_perm (js : Js) : (ruleI js).Perm ((List.range js.length).map fun n : Nat => (n : Int)) := by
  have h := (List.filter_append_perm (fun p : P2 × Nat => decide (p.1.1 < p.1.2)) js.zipIdx).map fun p => (p.2 : Int)
  rw [List.map_append] at h
  have z : js.zipIdx.map (fun p => (p.2 : Int)) = (List.range js.length).map fun n : Nat => (n : Int) := by
    rw [List.range_eq_range', ← List.zipIdx_map_snd 0 js, List.map_map]
    rfl
  rw [z] at h
  refine List.Perm.trans ?_ h
  unfold ruleI
  rw [List.map_append]
  refine List.Perm.append ?_ ?_
  · refine ((List.mergeSort_perm _ _).map Prod.snd).trans (List.Perm.of_eq ?_)
    simp [L1, Function.comp_def]
  · refine ((List.mergeSort_perm _ _).map Prod.snd).trans (List.Perm.of_eq ?_)
    simp only [L2', List.map_map, Function.comp_def]
    congr 1
    apply List.filter_congr
    intro p _
    by_cases c : p.1.1 < p.1.2
    · simp [c]
    · simp [c]; omega
theorem rule_cast (js : Js) : (rule js).map (fun n : Nat => (n : Int)) = ruleI js := by
  unfold rule
  rw [List.map_map]
  conv => rhs; rw [← List.map_id (ruleI js)]
  apply List.map_congr_left
  intro i hi
  obtain ⟨n, _, rfl⟩ := List.mem_map.1 ((ruleI_perm js).subset hi)
  simp
theorem rule_perm (js : Js) : (rule js).Perm (List.range js.length) := by
  have := (ruleI_perm js).map Int.toNat
  rw [List.map_map] at this
  simpa [Function.comp_def, rule] using this
theorem srt_ord {n : Nat} {o : List Nat} (h : o.Perm (List.range n)) : srtI (o.map fun k : Nat => (k : Int)) = (List.range n).map fun k : Nat => (k : Int) := by
  refine (srtI_uniq (h.symm.map _) ?_).symm
  rw [List.pairwise_map]
  exact List.pairwise_lt_range.imp fun h => by omega
end R88
set_option Elab.async false
set_option linter.all false
set_option maxRecDepth 100000
set_option maxHeartbeats 4000000
/-! R6: ends of orders -/
namespace R88
open PySem L2 Ev B88
open J (jb jl)
variable [Tbs]
theorem oD_rule (js : Js) : (ruleI js).map PyData.int = (rule js).map nD := by
  rw [← rule_cast, List.map_map]; rfl
theorem run_best_sequence (js : Js) (h : Jok js) : M_best_sequence.run [jD js] = some (.v (oD (rule js)), .none) := by
  have l : (rule js).length ≤ 100000 := by rw [(rule_perm js).length_eq, List.length_range]; exact Nat.le_trans h.len (by decide)
  simp [M_best_sequence, B_best_sequence, run_look_at_flows js h, run_told_sequence js h, oD_rule, oD, l]
theorem ord_lt {n : Nat} {o : List Nat} (h : o.Perm (List.range n)) : ∀ k ∈ o, k < n := fun k hk => List.mem_range.1 (h.subset hk)
theorem oD_int (o : List Nat) : o.map nD = (o.map fun k : Nat => (k : Int)).map PyData.int := by rw [List.map_map]; rfl
theorem run_ints_order (js : Js) (h : Jok js) (o : List Nat) (ho : o.Perm (List.range js.length)) : M_are_ints.run [oD o, .int 0, .int ((js.length : Int) - 1)] = some (.v (.bool true), .none) := by
  rw [oD, oD_int]
  rw [run_are_ints _ _ _ (by rw [List.length_map, ho.length_eq, List.length_range]; exact Nat.le_trans h.len (by decide))]
  congr 3
  rw [PyData.bool.injEq]
  rw [List.all_eq_true]
  intro i hi
  obtain ⟨k, hk, rfl⟩ := List.mem_map.1 hi
  have := ord_lt ho k hk
  simp
  omega
theorem sorted_ord (js : Js) (o : List Nat) (ho : o.Perm (List.range js.length)) : sortedD (oD o) = some (.fr (.list ((List.range js.length).map nD))) := by
  rw [oD, oD_int, sorted_intsT, srt_ord ho, ← oD_int]
theorem run_flow_end (js : Js) (h : Jok js) (o : List Nat) (ho : o.Perm (List.range js.length)) : M_flow_end.run [jD js, oD o] = some (.v (.int (endE js o)), .none) := by
  have l : js.length ≤ 100000 := Nat.le_trans h.len (by decide)
  have li : (js.length : Int) ≤ 1000000 := by omega
  simp [-sortedD, M_flow_end, B_flow_end, run_look_at_flows js h, run_told_flow_end js o (ord_lt ho), run_ints_order js h o ho, sorted_ord js o ho, l, li, rangeD_nat]
theorem run_least_flow_end (js : Js) (h : Jok js) : M_least_flow_end.run [jD js] = some (.v (.int (endE js (rule js))), .none) := by
  simp [M_least_flow_end, B_least_flow_end, run_look_at_flows js h, run_told_sequence js h, oD_rule, run_told_flow_endL js (rule js) (ord_lt (rule_perm js))]
theorem run_is_best_sequence (js : Js) (h : Jok js) (o : List Nat) (ho : o.Perm (List.range js.length)) : M_is_best_sequence.run [jD js, oD o] = some (.v (.bool (decide (endE js o = endE js (rule js)))), .none) := by
  have l : js.length ≤ 100000 := Nat.le_trans h.len (by decide)
  have li : (js.length : Int) ≤ 1000000 := by omega
  simp [-sortedD, M_is_best_sequence, B_is_best_sequence, run_look_at_flows js h, run_told_flow_end js o (ord_lt ho), run_ints_order js h o ho, sorted_ord js o ho, l, li, rangeD_nat, run_told_sequence js h, oD_rule, run_told_flow_endL js (rule js) (ord_lt (rule_perm js))]
end R88
set_option Elab.async false
set_option linter.all false
set_option maxRecDepth 100000
set_option maxHeartbeats 4000000
/-! R7: the turn -/
namespace R88
open PySem L2 Ev B88
open J (jb jl)
variable [Tbs]
section
variable {G : Gx} {N : List Str} {nio : Nat} {α S : Type}
theorem forF_find (tg : STg G N) (body : List (SS G N nio)) (enc : α → D) (rep : S → Rho) (step : S → α → S) (I : S → List α → Prop) (v : R) (no : ∀ s, ¬ I s []) : ∀ (l : List α) (s : S), I s l →
    (∀ s a r, I s (a :: r) → (I (step s a) r ∧ ∃ ρ1, tg.st (enc a) (rep s) = some ρ1 ∧ exB body ρ1 = some (.nx, rep (step s a))) ∨ (∃ ρ1 ρ2, tg.st (enc a) (rep s) = some ρ1 ∧ exB body ρ1 = some (.rt v, ρ2))) → ∃ ρ2, forF tg body (l.map enc) (rep s) = some (.rt v, ρ2)
  | [], s, i, _ => absurd i (no s)
  | a :: l, s, i, h => by
    rw [List.map_cons]
    unfold forF
    rcases h s a l i with ⟨h0, ρ1, h1, h2⟩ | ⟨ρ1, ρ2, h1, h2⟩
    · obtain ⟨ρ2, e⟩ := forF_find tg body enc rep step I v no l (step s a) h0 h
      refine ⟨ρ2, ?_⟩
      rw [h1]
      show ((exB body ρ1).bind _) = _
      rw [h2]
      exact e
    · refine ⟨ρ2, ?_⟩
      rw [h1]
      show ((exB body ρ1).bind _) = _
      rw [h2]
      rfl
end
theorem endE_E (js : Js) (o : List Nat) : endE js o = J.E (jl js o) := by
  unfold endE J.E jl J.F
  rw [List.foldl_map]
  rfl
theorem Jok.ok {js : Js} (h : Jok js) (o : List Nat) (ho : ∀ k ∈ o, k < js.length) : J.Ok (jl js o) := by
  intro j hj
  obtain ⟨k, hk, rfl⟩ := List.mem_map.1 hj
  have hk' := ho k hk
  have := h.rng (jb js k) (by unfold jb; rw [List.getD_eq_getElem?_getD, List.getElem?_eq_getElem hk']; exact List.getElem_mem hk')
  omega
/-- the first turn -/
def turn (js : Js) (o : List Nat) : Nat := (List.range o.length).findIdx fun k => decide (J.T (jl js o) k = J.E (jl js o))
theorem turn_ok (js : Js) (h : Jok js) (o : List Nat) (ho : ∀ k ∈ o, k < js.length) (n : o ≠ []) : turn js o < o.length ∧ J.T (jl js o) (turn js o) = J.E (jl js o) ∧ ∀ k, k < turn js o → J.T (jl js o) k ≠ J.E (jl js o) := by
  obtain ⟨_, k, hk, e⟩ := J.T_max (jl js o) (by unfold jl; simpa using n) (h.ok o ho)
  have hk' : k < o.length := by simpa [jl] using hk
  have lt : turn js o < (List.range o.length).length := List.findIdx_lt_length.2 ⟨k, List.mem_range.2 hk', by simpa using e⟩
  refine ⟨by simpa using lt, ?_, ?_⟩
  · have lt' : (List.range o.length).findIdx (fun k => decide (J.T (jl js o) k = J.E (jl js o))) < (List.range o.length).length := lt
    have := of_decide_eq_true (List.findIdx_getElem (w := lt'))
    rw [List.getElem_range] at this
    exact this
  · intro m hm
    have := List.not_of_lt_findIdx hm
    simpa using this
@[simp] theorem all_tt {α : Type} (l : List α) : (l.all fun _ => true) = true := by induction l <;> simp [*]
theorem run_told_turn (js : Js) (h : Jok js) (o : List Nat) (ho : o.Perm (List.range js.length)) (n : o ≠ []) : M_told_turn.run [jD js, oD o] = some (.v (nD (turn js o)), .none) := by
  have hl := ord_lt ho
  have l : o.length ≤ 100000 := by rw [ho.length_eq, List.length_range]; exact Nat.le_trans h.len (by decide)
  obtain ⟨t1, t2, t3⟩ := turn_ok js h o hl n
  have en : enumL 0 (o.map nD) = (o.zipIdx).map fun p => .tuple [.int (p.2 : Nat), nD p.1] := enumL_map nD o 0
  obtain ⟨ρ2, e⟩ := forF_find (G := G_told_turn) (N := N_told_turn) (nio := 0) (gTp [(gNm 4), (gNm 5)]) [(xAug .Add augAddD augAdd_ok 3 (sIx (sIx (sVar 0) (sVar 5)) (sCon (.int 0)))), (xIf (tCmp .Eq eqSD eqS_ok (sBin .Add addD add_ok (sVar 3) (sBlt bSum [(sLc [("later", 6)] (gNm 6) (iSeq (sSl (sVar 1) (some (sVar 4)) none)) none (sIx (sIx (sVar 0) (sVar 6)) (sCon (.int 1))))])) (sVar 2)) [(xRet (sVar 4))] [])] (fun p : Nat × Nat => .tuple [.int (p.2 : Nat), nD p.1])
    (fun s : Int × Slot × Slot => [.va (jD js), .va (oD o), .va (.int (endE js o)), .va (.int s.1), s.2.1, s.2.2, .un]) (fun s p => (s.1 + (jb js p.1).1, .va (nD p.2), .va (nD p.1)))
    (fun s r => ∃ i, i ≤ turn js o ∧ r = (o.zipIdx).drop i ∧ s.1 = J.A ((jl js o).take i)) (.v (nD (turn js o))) (by
      rintro s ⟨i, h1, h2, h3⟩
      have := congrArg List.length h2
      simp at this
      omega) o.zipIdx (0, .un, .un) ⟨0, Nat.zero_le _, rfl, rfl⟩ (by
      rintro s a r ⟨i, h1, h2, h3⟩
      have hi : i < o.length := by omega
      have hd : (o.zipIdx).drop i = (o[i], i) :: (o.zipIdx).drop (i + 1) := by
        rw [List.drop_eq_getElem_cons (by simpa using hi)]
        simp
      rw [hd] at h2
      obtain ⟨rfl, rfl⟩ := List.cons.inj h2
      have hk := hl o[i] (List.getElem_mem hi)
      have tk : (jl js o).take (i + 1) = (jl js o).take i ++ [jb js o[i]] := by
        rw [List.take_succ_eq_append_getElem (by simpa [jl] using hi)]
        simp [jl]
      have hs : s.1 + (jb js o[i]).1 = J.A ((jl js o).take (i + 1)) := by rw [tk, J.A_app, h3]; simp
      obtain ⟨q, hq⟩ : ∃ q, q = o.drop i := ⟨_, rfl⟩
      have hq' : List.drop i (o.map nD) = q.map nD := by rw [hq, List.map_drop]
      have e := compF_all (G := G_told_turn) (N := N_told_turn) [6] (gNm 6) (sIx (sIx (sVar 0) (sVar 6)) (sCon (.int 1))) nD (fun k => .int (jb js k).2) [.va (jD js), .va (oD o), .va (.int (endE js o)), .va (.int (s.1 + (jb js o[i]).1)), .va (nD i), .va (nD o[i]), .un] q fun k hk => by
        refine ⟨_, rfl, ?_, rfl⟩
        simp [nD, at_job js k (hl k (List.mem_of_mem_drop (hq ▸ hk)))]
      have sb : (q.map fun k => (jb js k).2).sum = J.B ((jl js o).drop i) := by rw [hq]; simp [J.B, jl, List.map_drop, Function.comp_def]
      have ld : q.length ≤ 100000 := by rw [hq, List.length_drop]; omega
      have eq1 : (J.T (jl js o) i = J.E (jl js o)) = (s.1 + (jb js o[i]).1 + (q.map fun k => (jb js k).2).sum = endE js o) := by rw [sb, hs, endE_E, J.T]
      by_cases c : J.T (jl js o) i = J.E (jl js o)
      · right
        have ci : i = turn js o := by
          rcases Nat.lt_or_ge i (turn js o) with z | z
          · exact absurd c (t3 i z)
          · omega
        rw [eq1] at c
        rw [← ci]
        refine ⟨_, [.va (jD js), .va (oD o), .va (.int (endE js o)), .va (.int (s.1 + (jb js o[i]).1)), .va (nD i), .va (nD o[i]), .un], rfl, ?_⟩
        have cn := cut_from (o.map nD) i
        simp only [nD] at cn e hq' ⊢
        simp [at_job js o[i] hk, cn, hq', l, ld, e, c]
      · left
        have lt : i < turn js o := by
          rcases Nat.lt_or_ge i (turn js o) with z | z
          · exact z
          · exact absurd (by rw [show i = turn js o by omega]; exact t2) c
        rw [eq1] at c
        refine ⟨⟨i + 1, lt, rfl, hs⟩, _, rfl, ?_⟩
        have cn := cut_from (o.map nD) i
        simp only [nD] at cn e hq' ⊢
        simp [at_job js o[i] hk, cn, hq', l, ld, e, c])
  simp [M_told_turn, B_told_turn, run_told_flow_end js o hl, en, l, e]
end R88
set_option Elab.async false
set_option linter.all false
set_option maxRecDepth 100000
set_option maxHeartbeats 4000000
/-! R8: turn_of, the law's own end and rule -/
namespace R88
open PySem L2 Ev B88
open J (jb jl)
variable [Tbs]
theorem run_turn_of (js : Js) (h : Jok js) (o : List Nat) (ho : o.Perm (List.range js.length)) (n : o ≠ []) : M_turn_of.run [jD js, oD o] = some (.v (nD (turn js o)), .none) := by
  have l : js.length ≤ 100000 := Nat.le_trans h.len (by decide)
  have li : (js.length : Int) ≤ 1000000 := by omega
  simp [-sortedD, M_turn_of, B_turn_of, run_look_at_flows js h, run_told_turn js h o ho n, run_ints_order js h o ho, sorted_ord js o ho, l, li, rangeD_nat]
theorem run_law_end (js : Js) (o : List Nat) (h : ∀ n ∈ o, n < js.length) : M__law_end.run [jD js, oD o] = some (.v (.int (endE js o)), .none) := by
  have e := forF_fold (G := G__law_end) (N := N__law_end) (nio := 0) (gNm 4) [(xSet 2 (sBin .Add addD add_ok (sVar 2) (sIx (sIx (sVar 0) (sVar 4)) (sCon (.int 0))))), (xSet 3 (sBin .Add addD add_ok (sBlt bMax [(sVar 2), (sVar 3)]) (sIx (sIx (sVar 0) (sVar 4)) (sCon (.int 1)))))] nD
    (fun s : (Int × Int) × Slot => [.va (jD js), .va (oD o), .va (.int s.1.1), .va (.int s.1.2), s.2]) (stepS js) o ((0, 0), .un) fun s n hn => by
      refine ⟨_, rfl, ?_⟩
      simp [jD, nD, at_job js n (h n hn), stepS, stepE]
  simp [M__law_end, B__law_end, jD, oD] at e ⊢
  simp [e, endE, foldS]
theorem zip_range (js : Js) : js.zipIdx = (List.range js.length).map fun k => (jb js k, k) := by
  apply List.ext_getElem
  · simp
  · intro k h1 h2
    have hk : k < js.length := by simpa using h1
    simp [jb, List.getD_eq_getElem?_getD, List.getElem?_eq_getElem hk]
end R88
set_option Elab.async false
set_option linter.all false
set_option maxRecDepth 100000
set_option maxHeartbeats 4000000
/-! R9: the law's own rule -/
namespace R88
open PySem L2 Ev B88
open J (jb jl)
variable [Tbs]
theorem rule_e1 (js : Js) : compF (G := G__law_rule) (N := N__law_rule) [4] (gNm 4) (some (tCmp .Lt ltD lt_ok (sIx (sIx (sVar 0) (sVar 4)) (sCon (.int 0))) (sIx (sIx (sVar 0) (sVar 4)) (sCon (.int 1))))) (sTup [.one (sIx (sIx (sVar 0) (sVar 4)) (sCon (.int 0))), .one (sVar 4)]) ((List.range js.length).map nD) [.va (jD js), .un, .un, .un, .un] = some ((L1 js).map pD, [.va (jD js), .un, .un, .un, .un]) := by
  have e1 := compF_enc (G := G__law_rule) (N := N__law_rule) [4] (gNm 4) (some (tCmp .Lt ltD lt_ok (sIx (sIx (sVar 0) (sVar 4)) (sCon (.int 0))) (sIx (sIx (sVar 0) (sVar 4)) (sCon (.int 1))))) (sTup [.one (sIx (sIx (sVar 0) (sVar 4)) (sCon (.int 0))), .one (sVar 4)]) nD (fun k => pD ((jb js k).1, (k : Int))) (fun k => decide ((jb js k).1 < (jb js k).2)) [.va (jD js), .un, .un, .un, .un] (List.range js.length) fun k hk => by
    have hk' := List.mem_range.1 hk
    refine ⟨_, rfl, ?_, ?_, ?_⟩ <;> simp [nD, pD, at_job js k hk']
  rw [e1, L1, zip_range, List.filter_map, List.map_map, List.map_map]
  rfl
theorem rule_e2 (js : Js) : compF (G := G__law_rule) (N := N__law_rule) [4] (gNm 4) (some (tCmp .GtE geD ge_ok (sIx (sIx (sVar 0) (sVar 4)) (sCon (.int 0))) (sIx (sIx (sVar 0) (sVar 4)) (sCon (.int 1))))) (sTup [.one (sNeg (sIx (sIx (sVar 0) (sVar 4)) (sCon (.int 1)))), .one (sVar 4)]) ((List.range js.length).map nD) [.va (jD js), .ow (.list ((srtP (L1 js)).map fun p => .int p.2)), .un, .un, .un] = some ((L2' js).map pD, [.va (jD js), .ow (.list ((srtP (L1 js)).map fun p => .int p.2)), .un, .un, .un]) := by
  have e2 := compF_enc (G := G__law_rule) (N := N__law_rule) [4] (gNm 4) (some (tCmp .GtE geD ge_ok (sIx (sIx (sVar 0) (sVar 4)) (sCon (.int 0))) (sIx (sIx (sVar 0) (sVar 4)) (sCon (.int 1))))) (sTup [.one (sNeg (sIx (sIx (sVar 0) (sVar 4)) (sCon (.int 1)))), .one (sVar 4)]) nD (fun k => pD (-(jb js k).2, (k : Int))) (fun k => decide ((jb js k).2 ≤ (jb js k).1)) [.va (jD js), .ow (.list ((srtP (L1 js)).map fun p => .int p.2)), .un, .un, .un] (List.range js.length) fun k hk => by
    have hk' := List.mem_range.1 hk
    refine ⟨_, rfl, ?_, ?_, ?_⟩ <;> simp [nD, pD, at_job js k hk']
  rw [e2, L2', zip_range, List.filter_map, List.map_map, List.map_map]
  rfl
theorem rule_e3 (js : Js) : compF (G := G__law_rule) (N := N__law_rule) [3, 4] (gTp [(gNm 3), (gNm 4)]) none (sVar 4) ((srtP (L1 js)).map pD) [.va (jD js), .un, .un, .un, .un] = some ((srtP (L1 js)).map (fun p => .int p.2), [.va (jD js), .un, .un, .un, .un]) :=
  compF_all (G := G__law_rule) (N := N__law_rule) [3, 4] (gTp [(gNm 3), (gNm 4)]) (sVar 4) pD (fun p => .int p.2) [.va (jD js), .un, .un, .un, .un] (srtP (L1 js)) fun p hp => by
    refine ⟨_, rfl, ?_, ?_⟩ <;> simp [pD]
theorem rule_e4 (js : Js) : compF (G := G__law_rule) (N := N__law_rule) [3, 4] (gTp [(gNm 3), (gNm 4)]) none (sVar 4) ((srtP (L2' js)).map pD) [.va (jD js), .ow (.list ((srtP (L1 js)).map fun p => .int p.2)), .un, .un, .un] = some ((srtP (L2' js)).map (fun p => .int p.2), [.va (jD js), .ow (.list ((srtP (L1 js)).map fun p => .int p.2)), .un, .un, .un]) :=
  compF_all (G := G__law_rule) (N := N__law_rule) [3, 4] (gTp [(gNm 3), (gNm 4)]) (sVar 4) pD (fun p => .int p.2) [.va (jD js), .ow (.list ((srtP (L1 js)).map fun p => .int p.2)), .un, .un, .un] (srtP (L2' js)) fun p hp => by
    refine ⟨_, rfl, ?_, ?_⟩ <;> simp [pD]
theorem rule_fin (js : Js) : (srtP (L1 js)).map (fun p => PyData.int p.2) ++ (srtP (L2' js)).map (fun p => PyData.int p.2) = (rule js).map nD := by
  rw [← oD_rule]; simp [ruleI, Function.comp_def]
end R88
set_option Elab.async false
set_option linter.all false
set_option maxRecDepth 100000
set_option maxHeartbeats 4000000
/-! R10: the law's own rule -/
namespace R88
open PySem L2 Ev B88
open J (jb jl)
variable [Tbs]
theorem run_law_rule (js : Js) (h : Jok js) : M__law_rule.run [jD js] = some (.v (oD (rule js)), .none) := by
  have l : js.length ≤ 100000 := Nat.le_trans h.len (by decide)
  have l0 : js.length ≤ 1000 := Nat.le_trans h.len (by decide)
  have l1 : (L1 js).length ≤ 100000 := by have := L_len js; omega
  have l2 : (L2' js).length ≤ 100000 := by have := L_len js; omega
  have l3 : (L1 js).length + (L2' js).length ≤ 100000 := by rw [L_len]; exact l
  have e1 := rule_e1 js
  have e2 := rule_e2 js
  have e3 := rule_e3 js
  have e4 := rule_e4 js
  have e5 := rule_fin js
  simp only [jD] at e1 e2 e3 e4
  simp [-sortedD, M__law_rule, B__law_rule, jD, e1, e2, e3, e4, l, l0, l1, l2, l3, sorted_pairs, rangeD_nat, e5, oD]
end R88
set_option Elab.async false
set_option linter.all false
set_option maxRecDepth 100000
set_option maxHeartbeats 4000000
/-! R11: the shop of the jobs -/
namespace R88
open PySem L2 Ev B88
open J (jb jl)
variable [Tbs]
def wk (js : Js) (w : Nat) : P2 := ((w % 2 : Nat), J.ln js w)
def rowD (js : Js) (k : Nat) : D := .tuple [nD (2 * k), nD (2 * k + 1), .int (jb js k).1]
def worksL (js : Js) (m : Nat) : List D := (List.range m).map fun w => pD (wk js w)
def winsL (m : Nat) : List D := (List.range m).map fun _ => pD (0, 1000000)
def rowsL (js : Js) (m : Nat) : List D := (List.range m).map (rowD js)
def shopD (js : Js) : D := .tuple [.int 2, .tuple (worksL js (2 * js.length)), .tuple (winsL (2 * js.length)), .tuple (rowsL js js.length)]
def jobD (p : P2) : D := .tuple [pD (0, p.1), pD (1, p.2)]
abbrev jobsD (js : Js) : D := .tuple (js.map jobD)
@[simp] theorem worksL_len (js : Js) (m : Nat) : (worksL js m).length = m := by simp [worksL]
@[simp] theorem winsL_len (m : Nat) : (winsL m).length = m := by simp [winsL]
@[simp] theorem rowsL_len (js : Js) (m : Nat) : (rowsL js m).length = m := by simp [rowsL]
theorem wk_even (js : Js) (k : Nat) : wk js (2 * k) = (0, (jb js k).1) := by
  unfold wk; rw [J.ln_even]; simp
theorem wk_odd (js : Js) (k : Nat) : wk js (2 * k + 1) = (1, (jb js k).2) := by
  unfold wk; rw [J.ln_odd]; congr 1; omega
theorem worksL_two (js : Js) (i : Nat) : worksL js (2 * (i + 1)) = worksL js (2 * i) ++ [pD (0, (jb js i).1), pD (1, (jb js i).2)] := by
  unfold worksL
  rw [show 2 * (i + 1) = 2 * i + 1 + 1 by omega, List.range_succ, List.range_succ, List.map_append, List.map_append, List.map_singleton, List.map_singleton, wk_even, wk_odd]
  simp
theorem rowsL_one (js : Js) (i : Nat) : rowsL js (i + 1) = rowsL js i ++ [rowD js i] := by
  unfold rowsL
  rw [List.range_succ, List.map_append, List.map_singleton]
theorem run_is_work (p : P2) (hands : Int) (h1 : 0 ≤ p.1) (h2 : p.1 < hands) (h3 : 1 ≤ p.2) (h4 : p.2 ≤ 1000) (h5 : p.1 ≤ 1000) : M_is_work.run [pD p, .int hands] = some (.v (.bool true), .none) := by
  have r := run_are_ints [p.1, p.2] 0 1000 (by simp)
  have h6 : 0 ≤ p.2 := by omega
  simp at r
  simp [M_is_work, B_is_work, pD, r, h1, h2, h3, h4, h5, h6]
theorem run_are_jobs (js : Js) (h : Jok js) : M_are_jobs.run [jobsD js, .int 2] = some (.v (.bool true), .none) := by
  have e0 := compF_all (G := G_are_jobs) (N := N_are_jobs) [2] (gNm 2) (sIsi (sVar 2) .tuple) jobD (fun _ => .bool true) [.va (jobsD js), .va (.int 2), .un, .un] js fun p hp => by
    refine ⟨_, rfl, ?_, rfl⟩
    simp [jobD]
  have e1 := compF_all (G := G_are_jobs) (N := N_are_jobs) [2] (gNm 2) (sBlt bLen [(sVar 2)]) jobD (fun _ => .int 2) [.va (jobsD js), .va (.int 2), .un, .un] js fun p hp => by
    refine ⟨_, rfl, ?_, rfl⟩
    simp [jobD]
  have e2 := compF_all (G := G_are_jobs) (N := N_are_jobs) [2] (gNm 2) (sBlt bAll [(sLc [("work", 3)] (gNm 3) (iSeq (sVar 2)) none (sCall 0 [(sVar 3), (sVar 1)]))]) jobD (fun _ => .bool true) [.va (jobsD js), .va (.int 2), .un, .un] js fun p hp => by
    refine ⟨_, rfl, ?_, rfl⟩
    have b := h.rng p hp
    have w0 := run_is_work (0, p.1) 2 (by simp) (by simp) (by simp; omega) (by simp; omega) (by simp)
    have w1 := run_is_work (1, p.2) 2 (by simp) (by simp) (by simp; omega) (by simp; omega) (by simp)
    simp [jobD, compF, w0, w1, boolsD]
  have l : js.length ≤ 100000 := Nat.le_trans h.len (by decide)
  have s : (js.map fun _ => (2 : Int)).sum = 2 * (js.length : Int) := by
    rw [List.map_const', List.sum_replicate_int]; omega
  have n : ¬ 24 < 2 * (js.length : Int) := by have := h.len; omega
  simp only [jobsD] at e0 e1 e2
  simp [M_are_jobs, B_are_jobs, jobsD, e0, e1, e2, l, s, n]
theorem run_shop_of_jobs (js : Js) (h : Jok js) (n0 : 1 ≤ js.length) : M_shop_of_jobs.run [.int 2, jobsD js] = some (.v (shopD js), .none) := by
  have ln := h.len
  obtain ⟨⟨i, s1, s2, s3⟩, ⟨h1, h2⟩, e⟩ := forF_ex (G := G_shop_of_jobs) (N := N_shop_of_jobs) (nio := 0) (gNm 4) [(xFor (gTp [(gNm 5), (gNm 6)]) (iEnum (sVar 4)) [(xIf (tCmp .Gt gtD gt_ok (sVar 5) (sCon (.int 0))) [(xExpr (sM1 mAppend 3 (sTup [.one (sBin .Sub subD sub_ok (sBlt bLen [(sVar 2)]) (sCon (.int 1))), .one (sBlt bLen [(sVar 2)]), .one (sIx (sIx (sVar 4) (sBin .Sub subD sub_ok (sVar 5) (sCon (.int 1)))) (sCon (.int 1)))])))] []), (xExpr (sM1 mAppend 2 (sVar 6)))])] jobD
    (fun s : Nat × Slot × Slot × Slot => [.va (.int 2), .va (jobsD js), .ow (.list (worksL js (2 * s.1))), .ow (.list (rowsL js s.1)), s.2.1, s.2.2.1, s.2.2.2])
    (fun s r => s.1 ≤ js.length ∧ r = js.drop s.1) js (0, .un, .un, .un) ⟨Nat.zero_le _, rfl⟩ (by
      rintro ⟨i, s1, s2, s3⟩ p r ⟨h1, h2⟩
      dsimp only at h1 h2 ⊢
      have hi : i < js.length := by
        have := congrArg List.length h2
        simp at this
        omega
      rw [List.drop_eq_getElem_cons hi] at h2
      obtain ⟨rfl, rfl⟩ := List.cons.inj h2
      have ej : jb js i = js[i] := by unfold J.jb; rw [List.getD_eq_getElem?_getD, List.getElem?_eq_getElem hi]; rfl
      refine ⟨(i + 1, .va (jobD js[i]), .va (.int 1), .va (pD (1, js[i].2))), ⟨hi, rfl⟩, _, rfl, ?_⟩
      rw [worksL_two, rowsL_one, ej]
      simp (disch := first | omega | simp) [-small, small_eq, jobD, forF, enumL, rowD, nD, pD, ej])
  have : i = js.length := by
    dsimp only at h1 h2
    have := congrArg List.length h2
    simp at this
    omega
  subst this
  have w0 : worksL js 0 = [] := rfl
  have r0 : rowsL js 0 = [] := rfl
  have ww : List.replicate (2 * (js.length : Int)).toNat (PyData.tuple [.int 0, .int 1000000]) = winsL (2 * js.length) := by
    unfold winsL
    rw [List.map_const', List.length_range, show (2 * (js.length : Int)).toNat = 2 * js.length by omega]
    rfl
  have m1 : 2 ≤ 2 * (js.length : Int) := by omega
  have m2 : 2 * (js.length : Int) ≤ 1000 := by omega
  have aj := run_are_jobs js h
  simp only [jobsD, w0, r0] at e aj
  simp (disch := first | omega | simp) [-small, small_eq, M_shop_of_jobs, B_shop_of_jobs, jobsD, e, run_is_int, aj, ww, m1, m2, shopD]
end R88
set_option Elab.async false
set_option linter.all false
set_option maxRecDepth 100000
set_option maxHeartbeats 4000000
/-! R12: the looks at the shop, loads -/
namespace R88
open PySem L2 Ev B88
open J (jb jl)
variable [Tbs]
@[simp] theorem atm4 (a b c d : D) : atI [a, b, c, d] (-1) = some d := rfl
theorem cut_to2 (xs : List D) : cutD xs none (some 2) = xs.take 2 := cut_to xs 2
theorem run_is_window : M_is_window.run [pD (0, 1000000)] = some (.v (.bool true), .none) := by
  have r := run_are_ints [0, 1000000] 0 1000000 (by simp)
  simp at r
  simp [M_is_window, B_is_window, pD, r]
theorem run_is_row (js : Js) (h : Jok js) (k : Nat) (hk : k < js.length) : M_is_row.run [rowD js k, .int ((2 * js.length : Nat) : Int)] = some (.v (.bool true), .none) := by
  have r := run_are_ints [((2 * k : Nat) : Int), ((2 * k + 1 : Nat) : Int)] 0 (((2 * js.length : Nat) : Int) - 1) (by simp)
  have b := h.jb hk
  have q := run_is_int (jb js k).1 (-1000000) 1000000
  have e1 : ¬ (2 * (k : Int) = 2 * k + 1) := by omega
  have e2 : 0 ≤ 2 * (k : Int) := by omega
  have e3 : 0 ≤ 2 * (k : Int) + 1 := by omega
  have e4 : 2 * (k : Int) ≤ 2 * (js.length : Int) - 1 := by omega
  have e5 : 2 * (k : Int) + 1 ≤ 2 * (js.length : Int) - 1 := by omega
  have e6 : -1000000 ≤ (jb js k).1 := by omega
  have e7 : (jb js k).1 ≤ 1000000 := by omega
  simp [e2, e3, e4, e5] at r
  simp [e6, e7] at q
  simp [M_is_row, B_is_row, rowD, nD, cut_to2, r, q, e1]
theorem run_is_rising (js : Js) (h : Jok js) : M_is_rising.run [.tuple (rowsL js js.length)] = some (.v (.bool true), .none) := by
  have z : zipL (rowsL js js.length) ((rowsL js js.length).drop 1) = (J.nx (List.range js.length)).map fun p => .tuple [rowD js p.1, rowD js p.2] := by
    unfold rowsL
    rw [← List.map_drop, zipL_map]
  have e := compF_all (G := G_is_rising) (N := N_is_rising) [1, 2] (gTp [(gNm 1), (gNm 2)]) (sCmp .Lt ltD lt_ok (sVar 1) (sVar 2)) (fun p : Nat × Nat => .tuple [rowD js p.1, rowD js p.2]) (fun _ => .bool true) [.va (.tuple (rowsL js js.length)), .un, .un] (J.nx (List.range js.length)) fun p hp => by
    obtain ⟨i, hi, rfl⟩ := J.nx_mem hp
    refine ⟨_, rfl, ?_, rfl⟩
    have c : ¬ (2 * (i : Int) = 2 * (i + 1)) := by omega
    have c2 : (i : Int) < i + 1 := by omega
    simp [rowD, nD, intsD, HT.lexLt, c, c2]
  have l : js.length - 1 ≤ 100000 := by have := h.len; omega
  simp [-List.drop_one, M_is_rising, B_is_rising, cut_one, z, e, l]
theorem run_is_shop (js : Js) (h : Jok js) : M_is_shop.run [shopD js] = some (.v (.bool true), .none) := by
  have ln := h.len
  have e1 : compF (G := G_is_shop) (N := N_is_shop) [3] (gNm 3) none (sCall 1 [(sVar 3), (sIx (sVar 0) (sCon (.int 0)))]) (worksL js (2 * js.length)) [.va (shopD js), .un, .un, .un, .un] = some ((List.range (2 * js.length)).map fun _ => PyData.bool true, [.va (shopD js), .un, .un, .un, .un]) :=
    compF_all (G := G_is_shop) (N := N_is_shop) [3] (gNm 3) (sCall 1 [(sVar 3), (sIx (sVar 0) (sCon (.int 0)))]) (fun w => pD (wk js w)) (fun _ => .bool true) [.va (shopD js), .un, .un, .un, .un] (List.range (2 * js.length)) fun w hw => by
      refine ⟨_, rfl, ?_, rfl⟩
      have hw := List.mem_range.1 hw
      have r := run_is_work (wk js w)
      have b : 0 ≤ (wk js w).1 ∧ (wk js w).1 < 2 ∧ 1 ≤ (wk js w).2 ∧ (wk js w).2 ≤ 1000 := by
        have m := h.jb (show w / 2 < js.length by omega)
        unfold wk J.ln
        dsimp only
        split <;> omega
      have r := run_is_work (wk js w) 2 b.1 b.2.1 b.2.2.1 b.2.2.2 (by omega)
      simp [shopD, r]
  have e2 : compF (G := G_is_shop) (N := N_is_shop) [4] (gNm 4) none (sCall 2 [(sVar 4)]) (winsL (2 * js.length)) [.va (shopD js), .un, .un, .un, .un] = some ((List.range (2 * js.length)).map fun _ => PyData.bool true, [.va (shopD js), .un, .un, .un, .un]) :=
    compF_all (G := G_is_shop) (N := N_is_shop) [4] (gNm 4) (sCall 2 [(sVar 4)]) (fun w => pD (0, 1000000)) (fun _ => .bool true) [.va (shopD js), .un, .un, .un, .un] (List.range (2 * js.length)) fun w hw => by
      refine ⟨_, rfl, ?_, rfl⟩
      simp [run_is_window]
  have e3 : compF (G := G_is_shop) (N := N_is_shop) [1] (gNm 1) none (sCall 3 [(sVar 1), (sBlt bLen [(sIx (sVar 0) (sCon (.int 1)))])]) (rowsL js js.length) [.va (shopD js), .un, .un, .un, .un] = some ((List.range js.length).map fun _ => PyData.bool true, [.va (shopD js), .un, .un, .un, .un]) :=
    compF_all (G := G_is_shop) (N := N_is_shop) [1] (gNm 1) (sCall 3 [(sVar 1), (sBlt bLen [(sIx (sVar 0) (sCon (.int 1)))])]) (rowD js) (fun _ => .bool true) [.va (shopD js), .un, .un, .un, .un] (List.range js.length) fun k hk => by
      refine ⟨_, rfl, ?_, rfl⟩
      have r := run_is_row js h k (List.mem_range.1 hk)
      simp at r
      simp [shopD, r]
  have c1 : ¬ 24 < 2 * (js.length : Int) := by omega
  have c2 : ¬ 100 < (js.length : Int) := by omega
  have q := run_is_int 2 1 8
  simp at q
  have s := run_is_rising js h
  simp only [shopD] at e1 e2 e3
  have l1 : js.length ≤ 100000 := by omega
  have l2 : 2 * js.length ≤ 100000 := by omega
  simp [M_is_shop, B_is_shop, shopD, cut_one, compF, e1, e2, e3, q, s, c1, c2, boolsD, l1, l2]
theorem run_look_at_shop (js : Js) (h : Jok js) : M_look_at_shop.run [shopD js] = some (.v .none, .none) := by
  simp [M_look_at_shop, B_look_at_shop, run_is_shop js h]
end R88
set_option Elab.async false
set_option linter.all false
set_option maxRecDepth 100000
set_option maxHeartbeats 4000000
/-! R13: works on a hand, loads, pairs -/
namespace R88
open PySem L2 Ev B88
open J (jb jl)
variable [Tbs]
def onL (n hd : Nat) : List Nat := (List.range (2 * n)).filter fun w => decide (((w % 2 : Nat) : Int) = (hd : Int))
theorem onL_succ (n hd : Nat) : onL (n + 1) hd = onL n hd ++ [2 * n, 2 * n + 1].filter fun w => decide (((w % 2 : Nat) : Int) = (hd : Int)) := by
  unfold onL
  rw [show 2 * (n + 1) = 2 * n + 1 + 1 by omega, List.range_succ, List.range_succ, List.append_assoc, List.filter_append]
  rfl
theorem onL0 (n : Nat) : onL n 0 = J.evs (List.range n) := by
  induction n with
  | zero => rfl
  | succ n ih =>
    rw [onL_succ, ih, List.range_succ]
    unfold J.evs
    rw [List.map_append]
    have e : (2 * n + 1) % 2 = 1 := by omega
    simp [e]
theorem onL1 (n : Nat) : onL n 1 = J.ods (List.range n) := by
  induction n with
  | zero => rfl
  | succ n ih =>
    rw [onL_succ, ih, List.range_succ]
    unfold J.ods
    rw [List.map_append]
    have e : (2 * n + 1) % 2 = 1 := by omega
    simp [e]
theorem onL_lt (n hd : Nat) : ∀ w ∈ onL n hd, w < 2 * n := fun w hw => List.mem_range.1 (List.mem_filter.1 hw).1
theorem onL_len (n hd : Nat) : (onL n hd).length ≤ 2 * n := by
  have := List.length_filter_le (fun w => decide (((w % 2 : Nat) : Int) = (hd : Int))) (List.range (2 * n))
  rw [List.length_range] at this
  exact this
theorem at_work (js : Js) (m w : Nat) (h : w < m) : atI (worksL js m) (w : Int) = some (pD (wk js w)) := at_rng _ _ _ h
theorem enum_works (js : Js) (m : Nat) : enumL 0 (worksL js m) = (List.range m).map fun i => .tuple [nD i, pD (wk js i)] := enum_rng _ _
theorem run_told_on (js : Js) (h : Jok js) (hd : Nat) : M_told_on.run [shopD js, .int (hd : Nat)] = some (.fr (.list ((onL js.length hd).map nD)), .none) := by
  have ln := h.len
  have e := compF_enc (G := G_told_on) (N := N_told_on) [2, 3, 4] (gTp [(gNm 2), (gTp [(gNm 3), (gNm 4)])]) (some (tCmp .Eq eqSD eqS_ok (sVar 3) (sVar 1))) (sVar 2) (fun i => .tuple [nD i, pD (wk js i)]) nD (fun w => decide (((w % 2 : Nat) : Int) = (hd : Int))) [.va (shopD js), .va (.int (hd : Nat)), .un, .un, .un] (List.range (2 * js.length)) fun w hw => by
    refine ⟨_, rfl, ?_, ?_, ?_⟩ <;> simp [nD, pD, wk]
  have l2 : 2 * js.length ≤ 100000 := by omega
  simp only [shopD] at e
  simp [M_told_on, B_told_on, shopD, enum_works, e, l2, onL]
theorem run_look_at_hand (js : Js) (hd : Nat) (k : hd < 2) : M_look_at_hand.run [shopD js, .int (hd : Nat)] = some (.v .none, .none) := by
  have q := run_is_int (hd : Int) 0 1
  have k1 : (hd : Int) ≤ 1 := by omega
  simp [k1] at q
  simp [M_look_at_hand, B_look_at_hand, shopD, q]
theorem run_load_of (js : Js) (h : Jok js) (hd : Nat) (k : hd < 2) : M_load_of.run [shopD js, .int (hd : Nat)] = some (.v (.int (((onL js.length hd).map fun w => (wk js w).2).sum)), .none) := by
  have ln := h.len
  have e := compF_all (G := G_load_of) (N := N_load_of) [2] (gNm 2) (sIx (sIx (sIx (sVar 0) (sCon (.int 1))) (sVar 2)) (sCon (.int 1))) nD (fun w => .int (wk js w).2) [.va (shopD js), .va (.int (hd : Nat)), .un] (onL js.length hd) fun w hw => by
    refine ⟨_, rfl, ?_, rfl⟩
    have a := at_work js (2 * js.length) w (onL_lt _ _ w hw)
    simp [nD, shopD, a, pD]
  have l := onL_len js.length hd
  have l2 : (onL js.length hd).length ≤ 100000 := by omega
  have q1 := run_look_at_shop js h
  have q2 := run_look_at_hand js hd k
  have q3 := run_told_on js h hd
  simp [M_load_of, B_load_of, q1, q2, q3, l2, e]
theorem map_jb (js : Js) : (List.range js.length).map (jb js) = js := by
  apply List.ext_getElem
  · simp
  · intro i h1 h2
    have h3 : i < js.length := by simpa using h1
    simp [J.jb, List.getD_eq_getElem?_getD, List.getElem?_eq_getElem h3]
theorem load0 (js : Js) : ((onL js.length 0).map fun w => (wk js w).2).sum = J.A js := by
  conv => rhs; rw [← map_jb js]
  rw [onL0]
  unfold J.evs J.A
  rw [List.map_map, List.map_map]
  congr 1
  apply List.map_congr_left
  intro k _
  simp [wk_even]
theorem load1 (js : Js) : ((onL js.length 1).map fun w => (wk js w).2).sum = J.B js := by
  conv => rhs; rw [← map_jb js]
  rw [onL1]
  unfold J.ods J.B
  rw [List.map_map, List.map_map]
  congr 1
  apply List.map_congr_left
  intro k _
  simp [wk_odd]
end R88
set_option Elab.async false
set_option linter.all false
set_option maxRecDepth 100000
set_option maxHeartbeats 4000000
/-! R14: pairs of works on a hand -/
namespace R88
open PySem L2 Ev B88
open J (jb jl)
variable [Tbs]
def pN (p : Nat × Nat) : D := .tuple [nD p.1, nD p.2]
theorem rangeD_from (a m : Nat) : rangeD ((a : Int) + 1) m = (List.range m).map fun i => nD (a + 1 + i) := by
  unfold rangeD nD
  apply List.map_congr_left
  intro i _
  simp
theorem run_told_pairs (js : Js) (h : Jok js) : ∃ l : List (Nat × Nat), M_told_pairs.run [shopD js] = some (.fr (.list (l.map pN)), .none) ∧ (∀ p ∈ l, p.1 < 2 * js.length ∧ p.2 < 2 * js.length ∧ p.1 ≠ p.2 ∧ p.1 % 2 = p.2 % 2) ∧ l.length ≤ 100000 := by
  have ln := h.len
  obtain ⟨⟨l, s1, s2, s3⟩, ⟨h1, h2⟩, e⟩ := forF_rng (G := G_told_pairs) (N := N_told_pairs) (nio := 0) (gTp [(gNm 2), (gTp [(gNm 3), (gNm 4)])]) [(xExpr (sM1 mExtend 1 (sLc [("other", 5)] (gNm 5) (iRange [(sBin .Add addD add_ok (sVar 2) (sCon (.int 1))), (sBlt bLen [(sIx (sVar 0) (sCon (.int 1)))])]) (some (tCmp .Eq eqSD eqS_ok (sIx (sIx (sIx (sVar 0) (sCon (.int 1))) (sVar 5)) (sCon (.int 0))) (sVar 3))) (sTup [.one (sVar 2), .one (sVar 5)]))))] (fun i => .tuple [nD i, pD (wk js i)])
    (fun s : List (Nat × Nat) × Slot × Slot × Slot => [.va (shopD js), .ow (.list (s.1.map pN)), s.2.1, s.2.2.1, s.2.2.2, .un])
    (fun s i => s.1.length ≤ i * 24 ∧ ∀ p ∈ s.1, p.1 < 2 * js.length ∧ p.2 < 2 * js.length ∧ p.1 ≠ p.2 ∧ p.1 % 2 = p.2 % 2) (2 * js.length) ([], .un, .un, .un) ⟨by simp, fun p hp => nomatch hp⟩ (by
      rintro ⟨l, s1, s2, s3⟩ a ha ⟨h1, h2⟩
      dsimp only at h1 h2 ⊢
      obtain ⟨m, hm⟩ : ∃ m, m = (2 * (js.length : Int) - ((a : Int) + 1)).toNat := ⟨_, rfl⟩
      have e := compF_enc (G := G_told_pairs) (N := N_told_pairs) [5] (gNm 5) (some (tCmp .Eq eqSD eqS_ok (sIx (sIx (sIx (sVar 0) (sCon (.int 1))) (sVar 5)) (sCon (.int 0))) (sVar 3))) (sTup [.one (sVar 2), .one (sVar 5)]) (fun i => nD (a + 1 + i)) (fun i => pN (a, a + 1 + i)) (fun i => decide ((wk js (a + 1 + i)).1 = (wk js a).1)) [.va (shopD js), .ow (.list (l.map pN)), .va (nD a), .va (.int (wk js a).1), .va (.int (wk js a).2), .un] (List.range m) fun i hi => by
        have hi := List.mem_range.1 hi
        have w := at_work js (2 * js.length) (a + 1 + i) (by omega)
        refine ⟨_, rfl, ?_, ?_, ?_⟩ <;> simp at w <;> simp [nD, pD, pN, shopD, w]
      have fl : ((List.range m).filter fun i => decide ((wk js (a + 1 + i)).1 = (wk js a).1)).length ≤ 24 := by
        have := List.length_filter_le (fun i => decide ((wk js (a + 1 + i)).1 = (wk js a).1)) (List.range m)
        rw [List.length_range] at this
        omega
      refine ⟨(l ++ ((List.range m).filter fun i => decide ((wk js (a + 1 + i)).1 = (wk js a).1)).map fun i => (a, a + 1 + i), .va (nD a), .va (.int (wk js a).1), .va (.int (wk js a).2)), ⟨?_, ?_⟩, _, rfl, ?_⟩
      · dsimp only
        rw [List.length_append, List.length_map]
        omega
      · intro p hp
        dsimp only at hp
        rcases List.mem_append.1 hp with hp | hp
        · exact h2 p hp
        · obtain ⟨i, hi, rfl⟩ := List.mem_map.1 hp
          obtain ⟨hi, hc⟩ := List.mem_filter.1 hi
          have hi := List.mem_range.1 hi
          have hc := of_decide_eq_true hc
          unfold wk at hc
          dsimp only at hc ⊢
          omega
      · have lo1 : okQ ((a : Int) + 1) = true := okQ_of (by omega) (by omega)
        have lo2 : okQ (2 * (js.length : Int)) = true := okQ_of (by omega) (by omega)
        have l1 : l.length ≤ 100000 := by omega
        have l2 : m ≤ 100000 := by omega
        have l3 : l.length + ((List.range m).filter fun i => decide ((wk js (a + 1 + i)).1 = (wk js a).1)).length ≤ 100000 := by omega
        simp only [nD, pD, shopD] at e
        push_cast at e
        simp [nD, pD, shopD, lo1, lo2, ← hm, rangeD_from, e, l1, l2, l3, Function.comp_def])
  refine ⟨l, ?_, h2, by dsimp only at h1; omega⟩
  simp only [shopD, List.map_nil] at e
  simp [M_told_pairs, B_told_pairs, shopD, enum_works, e]
end R88
set_option Elab.async false
set_option linter.all false
set_option maxRecDepth 100000
set_option maxHeartbeats 4000000
/-! R15: the starts of a sequence -/
namespace R88
open PySem L2 Ev B88
open J (jb jl)
variable [Tbs]
abbrev OrdOf (js : Js) (o : List Nat) : Prop := J.Ord js.length o
def stD (js : Js) (o : List Nat) (i w : Nat) : D := if J.pos o (w / 2) < i then .int (J.S js o w) else .none
def foundL (js : Js) (o : List Nat) (i : Nat) : List D := (List.range (2 * js.length)).map (stD js o i)
def startsL (js : Js) (o : List Nat) : List D := (List.range (2 * js.length)).map fun w => .int (J.S js o w)
@[simp] theorem foundL_len (js : Js) (o : List Nat) (i : Nat) : (foundL js o i).length = 2 * js.length := by simp [foundL]
@[simp] theorem startsL_len (js : Js) (o : List Nat) : (startsL js o).length = 2 * js.length := by simp [startsL]
theorem foundL_step (js : Js) (o : List Nat) (h : OrdOf js o) (i : Nat) (hi : i < o.length) : foundL js o (i + 1) = ((foundL js o i).set (2 * o[i]) (.int (J.f1 (jl js o) i))).set (2 * o[i] + 1) (.int (J.s2 (jl js o) i)) := by
  have hk := h.lt (List.getElem_mem hi)
  have hp := J.pos_get h.nodup i hi
  have hS1 : J.S js o (2 * o[i]) = J.f1 (jl js o) i := by rw [J.S_even, J.S1, hp]
  have hS2 : J.S js o (2 * o[i] + 1) = J.s2 (jl js o) i := by rw [J.S_odd, J.S2, hp]
  apply List.ext_getElem
  · simp
  · intro w h1 h2
    have hw : w < 2 * js.length := by simpa using h1
    rw [List.getElem_set, List.getElem_set]
    have g : ∀ i, (foundL js o i)[w]? = some (stD js o i w) := fun i => by
      unfold foundL
      rw [List.getElem?_map, List.getElem?_range hw]; rfl
    have g' : ∀ i (q : w < (foundL js o i).length), (foundL js o i)[w] = stD js o i w := fun i q => by
      have := g i
      rw [List.getElem?_eq_getElem q] at this
      exact Option.some.inj this
    rw [g', g']
    by_cases c1 : 2 * o[i] + 1 = w
    · rw [if_pos c1, ← hS2]
      unfold stD
      rw [← c1, show (2 * o[i] + 1) / 2 = o[i] by omega, hp, if_pos (by omega)]
    · rw [if_neg c1]
      by_cases c2 : 2 * o[i] = w
      · rw [if_pos c2, ← hS1]
        unfold stD
        rw [← c2, show (2 * o[i]) / 2 = o[i] by omega, hp, if_pos (by omega)]
      · rw [if_neg c2]
        unfold stD
        have ne : J.pos o (w / 2) ≠ i := fun e => by
          have := J.get_pos h (show w / 2 < js.length by omega)
          simp only [e] at this
          omega
        by_cases c3 : J.pos o (w / 2) < i
        · rw [if_pos c3, if_pos (by omega)]
        · rw [if_neg c3, if_neg (by omega)]
theorem foundL_zero (js : Js) (o : List Nat) : foundL js o 0 = List.replicate (2 * (js.length : Int)).toNat .none := by
  rw [show (2 * (js.length : Int)).toNat = 2 * js.length by omega]
  apply List.ext_getElem
  · simp
  · intro w h1 h2
    simp [foundL, stD]
theorem foundL_end (js : Js) (o : List Nat) (h : OrdOf js o) : foundL js o js.length = startsL js o := by
  unfold foundL startsL
  apply List.map_congr_left
  intro w hw
  have hw := List.mem_range.1 hw
  unfold stD
  rw [if_pos (J.pos_lt h (by omega))]
theorem ixN_nat {n j : Nat} (hj : j < n) : ixN n (j : Int) = some j := by
  unfold ixN
  rw [if_pos (by omega), if_pos (by omega)]
  simp
theorem at_set (l : List D) (j : Nat) (d : D) (h : j < l.length) : atI (l.set j d) (j : Int) = some d := by
  refine atI_nat ?_
  rw [List.getElem?_set_self h]
theorem run_law_starts (js : Js) (h : Jok js) (o : List Nat) (ho : OrdOf js o) : M__law_starts.run [jD js, oD o] = some (.v (.tuple (startsL js o)), .none) := by
  have ln := h.len
  have lo := ho.len
  obtain ⟨⟨i, s1⟩, ⟨h1, h2⟩, e⟩ := forF_ex (G := G__law_starts) (N := N__law_starts) (nio := 0) (gNm 5) [(xAsg (gtSub 2 (sBin .Mult mulD mul_ok (sCon (.int 2)) (sVar 5))) (sVar 3)), (xSet 3 (sBin .Add addD add_ok (sVar 3) (sIx (sIx (sVar 0) (sVar 5)) (sCon (.int 0))))), (xAsg (gtSub 2 (sBin .Add addD add_ok (sBin .Mult mulD mul_ok (sCon (.int 2)) (sVar 5)) (sCon (.int 1)))) (sBlt bMax [(sVar 3), (sVar 4)])), (xSet 4 (sBin .Add addD add_ok (sIx (sVar 2) (sBin .Add addD add_ok (sBin .Mult mulD mul_ok (sCon (.int 2)) (sVar 5)) (sCon (.int 1)))) (sIx (sIx (sVar 0) (sVar 5)) (sCon (.int 1)))))] nD
    (fun s : Nat × Slot => [.va (jD js), .va (oD o), .ow (.list (foundL js o s.1)), .va (.int (J.f1 (jl js o) s.1)), .va (.int (J.f2 (jl js o) s.1)), s.2])
    (fun s r => s.1 ≤ o.length ∧ r = o.drop s.1) o (0, .un) ⟨Nat.zero_le _, rfl⟩ (by
      rintro ⟨i, s1⟩ k r ⟨h1, h2⟩
      dsimp only at h1 h2 ⊢
      have hi : i < o.length := by
        have := congrArg List.length h2
        simp at this
        omega
      rw [List.drop_eq_getElem_cons hi] at h2
      obtain ⟨rfl, rfl⟩ := List.cons.inj h2
      have hk := ho.lt (List.getElem_mem hi)
      refine ⟨(i + 1, .va (nD o[i])), ⟨hi, rfl⟩, _, rfl, ?_⟩
      have g1 := J.f1_succ (jl js o) i (by rw [J.jl_len]; exact hi)
      have g2 := J.f2_succ (jl js o) i (by rw [J.jl_len]; exact hi)
      rw [J.jl_get _ _ _ hi] at g1 g2
      have x1 : ixN (2 * js.length) (2 * (o[i] : Int)) = some (2 * o[i]) := ixN_nat (j := 2 * o[i]) (by omega)
      have x2 : ixN (2 * js.length) (2 * (o[i] : Int) + 1) = some (2 * o[i] + 1) := ixN_nat (j := 2 * o[i] + 1) (by omega)
      have x3 : atI ((((foundL js o i).set (2 * o[i]) (.int (J.f1 (jl js o) i))).set (2 * o[i] + 1) (.int (J.s2 (jl js o) i)))) (2 * (o[i] : Int) + 1) = some (.int (J.s2 (jl js o) i)) := at_set _ _ _ (by simp; omega)
      have a := at_job js o[i] hk
      have u : max (J.f1 (jl js o) i + (jb js o[i]).1) (J.f2 (jl js o) i) = J.s2 (jl js o) i := by unfold J.s2; rw [g1]
      rw [foundL_step js o ho i hi]
      simp [nD, x1, x2, x3, a, g1, g2, u])
  have : i = o.length := by
    dsimp only at h1 h2
    have := congrArg List.length h2
    simp at this
    omega
  subst this
  have l2 : 2 * js.length ≤ 100000 := by omega
  have l3 : 0 ≤ 2 * (js.length : Int) := by omega
  have l4 : 2 * (js.length : Int) ≤ 100000 := by omega
  have f := fun w => -18446744073709551616 < w
  simp only [foundL_zero, J.f1_zero, J.f2_zero] at e
  rw [lo, foundL_end js o ho] at e
  simp [M__law_starts, B__law_starts, e, l2, l3, l4]
end R88
set_option Elab.async false
set_option linter.all false
set_option maxRecDepth 100000
set_option maxHeartbeats 4000000
/-! R16: the starts are a plan, its end -/
namespace R88
open PySem L2 Ev B88
open J (jb jl)
variable [Tbs]
theorem at_start (js : Js) (o : List Nat) (w : Nat) (h : w < 2 * js.length) : atI (startsL js o) (w : Int) = some (.int (J.S js o w)) := at_rng _ _ _ h
theorem enum_wins (m : Nat) : enumL 0 (winsL m) = (List.range m).map fun i => .tuple [nD i, pD (0, 1000000)] := enum_rng _ _
theorem enum_rows (js : Js) (m : Nat) : enumL 0 (rowsL js m) = (List.range m).map fun i => .tuple [nD i, rowD js i] := enum_rng _ _
theorem run_are_starts (js : Js) (h : Jok js) (o : List Nat) (ho : OrdOf js o) : M_are_starts.run [shopD js, .tuple (startsL js o)] = some (.v (.bool true), .none) := by
  have ln := h.len
  have e : startsL js o = ((List.range (2 * js.length)).map (J.S js o)).map .int := by simp [startsL]
  have r := run_are_ints ((List.range (2 * js.length)).map (J.S js o)) 0 1000000 (by simp; omega)
  have t : (((List.range (2 * js.length)).map (J.S js o)).all fun i => decide (0 ≤ i) && decide (i ≤ 1000000)) = true := by
    rw [List.all_eq_true]
    intro i hi
    obtain ⟨w, hw, rfl⟩ := List.mem_map.1 hi
    have := J.S_rng h ho (List.mem_range.1 hw)
    simp
    omega
  rw [t, ← e] at r
  simp [M_are_starts, B_are_starts, r, shopD]
theorem run_look_at_starts (js : Js) (h : Jok js) (o : List Nat) (ho : OrdOf js o) : M_look_at_starts.run [shopD js, .tuple (startsL js o)] = some (.v .none, .none) := by
  simp [M_look_at_starts, B_look_at_starts, run_are_starts js h o ho, run_look_at_shop js h]
theorem w_loop1 (js : Js) (h : Jok js) (o : List Nat) (ho : OrdOf js o) (x y z : Slot) : ∃ s : Slot × Slot × Slot, forF (G := G_told_wrongs) (N := N_told_wrongs) (nio := 0) (gTp [(gNm 3), (gTp [(gNm 4), (gNm 5)])]) [(xIf (tNot (tChain2 .LtE .LtE leD leD le_ok le_ok (sVar 4) (sIx (sVar 1) (sVar 3)) (sVar 5))) [(xExpr (sM1 mAppend 2 (sTup [.one (sGl 0), .one (sVar 3)])))] [])] ((List.range (2 * js.length)).map fun i => .tuple [nD i, pD (0, 1000000)]) [.va (shopD js), .va (.tuple (startsL js o)), .ow (.list []), x, y, z, .un, .un, .un, .un] = some (.nx, [.va (shopD js), .va (.tuple (startsL js o)), .ow (.list []), s.1, s.2.1, s.2.2, .un, .un, .un, .un]) := by
  obtain ⟨s, _, e⟩ := forF_rng (G := G_told_wrongs) (N := N_told_wrongs) (nio := 0) (gTp [(gNm 3), (gTp [(gNm 4), (gNm 5)])]) [(xIf (tNot (tChain2 .LtE .LtE leD leD le_ok le_ok (sVar 4) (sIx (sVar 1) (sVar 3)) (sVar 5))) [(xExpr (sM1 mAppend 2 (sTup [.one (sGl 0), .one (sVar 3)])))] [])] (fun i => .tuple [nD i, pD (0, 1000000)])
    (fun s : Slot × Slot × Slot => [.va (shopD js), .va (.tuple (startsL js o)), .ow (.list []), s.1, s.2.1, s.2.2, .un, .un, .un, .un]) (fun _ _ => True) (2 * js.length) (x, y, z) trivial (by
      rintro ⟨x, y, z⟩ w hw _
      have a := at_start js o w hw
      have b := J.S_rng h ho hw
      have b1 : 0 ≤ J.S js o w := b.1
      have b2 : J.S js o w ≤ 1000000 := by omega
      refine ⟨(.va (nD w), .va (.int 0), .va (.int 1000000)), trivial, _, rfl, ?_⟩
      simp [nD, pD, a, b1, b2])
  exact ⟨s, e⟩
theorem w_loop2 (js : Js) (h : Jok js) (o : List Nat) (ho : OrdOf js o) (x y z : Slot) : ∃ s : Slot × Slot × Slot × Slot, forF (G := G_told_wrongs) (N := N_told_wrongs) (nio := 0) (gTp [(gNm 6), (gTp [(gNm 7), (gNm 8), (gNm 9)])]) [(xIf (tCmp .Lt ltD lt_ok (sBin .Sub subD sub_ok (sIx (sVar 1) (sVar 8)) (sIx (sVar 1) (sVar 7))) (sVar 9)) [(xExpr (sM1 mAppend 2 (sTup [.one (sGl 1), .one (sVar 6)])))] [])] ((List.range js.length).map fun i => .tuple [nD i, rowD js i]) [.va (shopD js), .va (.tuple (startsL js o)), .ow (.list []), x, y, z, .un, .un, .un, .un] = some (.nx, [.va (shopD js), .va (.tuple (startsL js o)), .ow (.list []), x, y, z, s.1, s.2.1, s.2.2.1, s.2.2.2]) := by
  obtain ⟨s, _, e⟩ := forF_rng (G := G_told_wrongs) (N := N_told_wrongs) (nio := 0) (gTp [(gNm 6), (gTp [(gNm 7), (gNm 8), (gNm 9)])]) [(xIf (tCmp .Lt ltD lt_ok (sBin .Sub subD sub_ok (sIx (sVar 1) (sVar 8)) (sIx (sVar 1) (sVar 7))) (sVar 9)) [(xExpr (sM1 mAppend 2 (sTup [.one (sGl 1), .one (sVar 6)])))] [])] (fun i => .tuple [nD i, rowD js i])
    (fun s : Slot × Slot × Slot × Slot => [.va (shopD js), .va (.tuple (startsL js o)), .ow (.list []), x, y, z, s.1, s.2.1, s.2.2.1, s.2.2.2]) (fun _ _ => True) js.length (.un, .un, .un, .un) trivial (by
      rintro ⟨x', y', z', u'⟩ k hk _
      have a := at_start js o (2 * k) (by omega)
      have a' := at_start js o (2 * k + 1) (by omega)
      rw [J.S_even] at a
      rw [J.S_odd] at a'
      simp at a a'
      have b := J.S_row h ho hk
      have c : ¬ (J.S2 js o k - J.S1 js o k < (jb js k).1) := by omega
      refine ⟨(.va (nD k), .va (nD (2 * k)), .va (nD (2 * k + 1)), .va (.int (jb js k).1)), trivial, _, rfl, ?_⟩
      simp [nD, a, a', c])
  exact ⟨s, e⟩
theorem w_loop3 (js : Js) (h : Jok js) (o : List Nat) (ho : OrdOf js o) (l : List (Nat × Nat)) (hl : ∀ p ∈ l, p.1 < 2 * js.length ∧ p.2 < 2 * js.length ∧ p.1 ≠ p.2 ∧ p.1 % 2 = p.2 % 2) (x y z u a b c : Slot) : ∃ s : Slot × Slot, forF (G := G_told_wrongs) (N := N_told_wrongs) (nio := 0) (gTp [(gNm 7), (gNm 8)]) [(xIf (tAnds [(tCmp .Lt ltD lt_ok (sIx (sVar 1) (sVar 7)) (sBin .Add addD add_ok (sIx (sVar 1) (sVar 8)) (sIx (sIx (sIx (sVar 0) (sCon (.int 1))) (sVar 8)) (sCon (.int 1))))), (tCmp .Lt ltD lt_ok (sIx (sVar 1) (sVar 8)) (sBin .Add addD add_ok (sIx (sVar 1) (sVar 7)) (sIx (sIx (sIx (sVar 0) (sCon (.int 1))) (sVar 7)) (sCon (.int 1)))))]) [(xExpr (sM1 mAppend 2 (sTup [.one (sGl 2), .one (sVar 7), .one (sVar 8)])))] [])] (l.map pN) [.va (shopD js), .va (.tuple (startsL js o)), .ow (.list []), x, y, z, u, a, b, c] = some (.nx, [.va (shopD js), .va (.tuple (startsL js o)), .ow (.list []), x, y, z, u, s.1, s.2, c]) := by
  obtain ⟨s, _, e⟩ := forF_ex (G := G_told_wrongs) (N := N_told_wrongs) (nio := 0) (gTp [(gNm 7), (gNm 8)]) [(xIf (tAnds [(tCmp .Lt ltD lt_ok (sIx (sVar 1) (sVar 7)) (sBin .Add addD add_ok (sIx (sVar 1) (sVar 8)) (sIx (sIx (sIx (sVar 0) (sCon (.int 1))) (sVar 8)) (sCon (.int 1))))), (tCmp .Lt ltD lt_ok (sIx (sVar 1) (sVar 8)) (sBin .Add addD add_ok (sIx (sVar 1) (sVar 7)) (sIx (sIx (sIx (sVar 0) (sCon (.int 1))) (sVar 7)) (sCon (.int 1)))))]) [(xExpr (sM1 mAppend 2 (sTup [.one (sGl 2), .one (sVar 7), .one (sVar 8)])))] [])] pN
    (fun s : Slot × Slot => [.va (shopD js), .va (.tuple (startsL js o)), .ow (.list []), x, y, z, u, s.1, s.2, c]) (fun _ r => ∀ p ∈ r, p ∈ l) l (a, b) (fun p hp => hp) (by
      rintro ⟨a, b⟩ p r hr
      obtain ⟨h1, h2, h3, h4⟩ := hl p (hr p List.mem_cons_self)
      have a1 := at_start js o p.1 h1
      have a2 := at_start js o p.2 h2
      have w1 := at_work js (2 * js.length) p.1 h1
      have w2 := at_work js (2 * js.length) p.2 h2
      have n := J.S_clash h ho h1 h2 h3 h4
      refine ⟨(.va (nD p.1), .va (nD p.2)), fun q hq => hr q (List.mem_cons_of_mem _ hq), _, rfl, ?_⟩
      by_cases c : J.S js o p.1 < J.S js o p.2 + J.ln js p.2
      · have c' : ¬ (J.S js o p.2 < J.S js o p.1 + J.ln js p.1) := fun z => n ⟨c, z⟩
        simp [nD, pD, shopD, wk, a1, a2, w1, w2, c, c']
      · simp [nD, pD, shopD, wk, a1, a2, w1, w2, c])
  exact ⟨s, e⟩
theorem run_told_wrongs (js : Js) (h : Jok js) (o : List Nat) (ho : OrdOf js o) : M_told_wrongs.run [shopD js, .tuple (startsL js o)] = some (.fr (.list []), .none) := by
  obtain ⟨l, p1, p2, p3⟩ := run_told_pairs js h
  obtain ⟨s, e1⟩ := w_loop1 js h o ho .un .un .un
  obtain ⟨t, e2⟩ := w_loop2 js h o ho s.1 s.2.1 s.2.2
  obtain ⟨u, e3⟩ := w_loop3 js h o ho l p2 s.1 s.2.1 s.2.2 t.1 t.2.1 t.2.2.1 t.2.2.2
  have s1 : ixD (shopD js) (.int 2) = some (.tuple (winsL (2 * js.length))) := by simp [shopD]
  have s2 : ixD (shopD js) (.int (-1)) = some (.tuple (rowsL js js.length)) := by simp [shopD]
  simp [-ixD, M_told_wrongs, B_told_wrongs, s1, s2, enum_wins, enum_rows, e1, e2, e3, p1]
theorem run_is_right (js : Js) (h : Jok js) (o : List Nat) (ho : OrdOf js o) : M_is_right.run [shopD js, .tuple (startsL js o)] = some (.v (.bool true), .none) := by
  simp [M_is_right, B_is_right, run_told_wrongs js h o ho]
theorem run_is_plan (js : Js) (h : Jok js) (o : List Nat) (ho : OrdOf js o) : M_is_plan.run [shopD js, .tuple (startsL js o)] = some (.v (.bool true), .none) := by
  simp [M_is_plan, B_is_plan, run_is_right js h o ho, run_are_starts js h o ho, run_look_at_shop js h]
theorem run_look_at_plan (js : Js) (h : Jok js) (o : List Nat) (ho : OrdOf js o) : M_look_at_plan.run [shopD js, .tuple (startsL js o)] = some (.v .none, .none) := by
  simp [M_look_at_plan, B_look_at_plan, run_is_plan js h o ho]
theorem mxI_of (n : Int) (ns : List Int) (m : Int) (h : m = n ∨ m ∈ ns) (h1 : n ≤ m) (h2 : ∀ x ∈ ns, x ≤ m) : mxI n ns = m := by
  obtain ⟨a, b⟩ := mxI_ge ns n
  rcases mxI_mem ns n with c | c
  · rcases h with h | h
    · rw [c, h]
    · have := b m h; omega
  · have := h2 _ c
    rcases h with h | h
    · omega
    · have := b m h; omega
theorem mnI_of (n : Int) (ns : List Int) (m : Int) (h : m = n ∨ m ∈ ns) (h1 : m ≤ n) (h2 : ∀ x ∈ ns, m ≤ x) : mnI n ns = m := by
  obtain ⟨a, b⟩ := mnI_le ns n
  rcases mnI_mem ns n with c | c
  · rcases h with h | h
    · rw [c, h]
    · have := b m h; omega
  · have := h2 _ c
    rcases h with h | h
    · omega
    · have := b m h; omega
theorem run_told_end (js : Js) (h : Jok js) (n0 : 1 ≤ js.length) (o : List Nat) (ho : OrdOf js o) : M_told_end.run [shopD js, .tuple (startsL js o)] = some (.v (.int (endE js o)), .none) := by
  have ln := h.len
  have z : zipL (startsL js o) (worksL js (2 * js.length)) = (List.range (2 * js.length)).map fun w => .tuple [.int (J.S js o w), pD (wk js w)] := zip_rng _ _ _
  have e := compF_all (G := G_told_end) (N := N_told_end) [2, 3, 4] (gTp [(gNm 2), (gTp [(gNm 3), (gNm 4)])]) (sBin .Add addD add_ok (sVar 2) (sVar 4)) (fun w => .tuple [.int (J.S js o w), pD (wk js w)]) (fun w => .int (J.S js o w + J.ln js w)) [.va (shopD js), .va (.tuple (startsL js o)), .un, .un, .un] (List.range (2 * js.length)) fun w hw => by
    refine ⟨_, rfl, ?_, rfl⟩
    simp [pD, wk]
  have m : mxI 0 ((List.range (2 * js.length)).map fun w => J.S js o w + J.ln js w) = endE js o := by
    rw [endE_E]
    obtain ⟨w, hw, q⟩ := J.S_last (js := js) (o := o) ho (by omega)
    have r := J.S_rng h ho hw
    refine mxI_of _ _ _ (.inr (List.mem_map.2 ⟨w, List.mem_range.2 hw, q⟩)) (by omega) fun x hx => ?_
    obtain ⟨v, hv, rfl⟩ := List.mem_map.1 hx
    exact (J.S_rng h ho (List.mem_range.1 hv)).2.1
  have l2 : 2 * js.length ≤ 100000 := by omega
  have l3 : 2 * js.length + 1 ≤ 100000 := by omega
  have l4 : 2 * js.length ≤ 99999 := by omega
  have s1 : ixD (shopD js) (.int 1) = some (.tuple (worksL js (2 * js.length))) := by simp [shopD]
  have ii : intsD (PyData.int 0 :: (List.range (2 * js.length)).map fun w => PyData.int (J.S js o w + J.ln js w)) = some (0 :: (List.range (2 * js.length)).map fun w => J.S js o w + J.ln js w) := by
    have := intsD_int (0 :: (List.range (2 * js.length)).map fun w => J.S js o w + J.ln js w)
    rw [List.map_cons, List.map_map] at this
    exact this
  simp [-ixD, M_told_end, B_told_end, s1, z, e, l2, l3, l4, ii, m]
theorem run_end_of (js : Js) (h : Jok js) (n0 : 1 ≤ js.length) (o : List Nat) (ho : OrdOf js o) : M_end_of.run [shopD js, .tuple (startsL js o)] = some (.v (.int (endE js o)), .none) := by
  simp [M_end_of, B_end_of, run_look_at_starts js h o ho, run_told_end js h n0 o ho]
end R88
set_option Elab.async false
set_option linter.all false
set_option maxRecDepth 100000
set_option maxHeartbeats 4000000
/-! R17: works next to one another -/
namespace R88
open PySem L2 Ev B88
open J (jb jl)
variable [Tbs]
theorem byKey_of (ks : List Int) (ns ms : List Nat) (p : ms.Perm ns) (anti : ∀ a b, a ∈ ms → b ∈ ms → ks.getD a 0 = ks.getD b 0 → a = b) (s : ms.Pairwise fun a b => ks.getD a 0 ≤ ks.getD b 0) : byKey ks ns = ms := by
  refine (List.Perm.eq_of_pairwise (le := fun a b => decide (ks.getD a 0 ≤ ks.getD b 0) = true) (fun a b ha hb h1 h2 => ?_) (s.imp fun h => decide_eq_true h) ?_ (p.trans (List.mergeSort_perm _ _).symm)).symm
  · have h1 := of_decide_eq_true h1
    have h2 := of_decide_eq_true h2
    have hb' : b ∈ ms := p.symm.subset ((List.mergeSort_perm _ _).subset hb)
    exact anti a b ha hb' (by omega)
  · refine List.pairwise_mergeSort (fun a b c h1 h2 => ?_) (fun a b => ?_) ns
    · have h1 := of_decide_eq_true h1
      have h2 := of_decide_eq_true h2
      exact decide_eq_true (by omega)
    · rw [Bool.or_eq_true, decide_eq_true_eq, decide_eq_true_eq]
      omega
def seqL (o : List Nat) (hd : Nat) : List Nat := if hd = 0 then J.evs o else J.ods o
def keysL (js : Js) (o : List Nat) : List Int := (List.range (2 * js.length)).map (J.S js o)
theorem keysL_get (js : Js) (o : List Nat) (w : Nat) (h : w < 2 * js.length) : (keysL js o).getD w 0 = J.S js o w := by
  unfold keysL
  rw [List.getD_eq_getElem?_getD, List.getElem?_map, List.getElem?_range h]
  rfl
theorem byKey_seq (js : Js) (h : Jok js) (o : List Nat) (ho : OrdOf js o) (hd : Nat) (k : hd < 2) : byKey (keysL js o) (onL js.length hd) = seqL o hd := by
  rcases (show hd = 0 ∨ hd = 1 by omega) with rfl | rfl
  · rw [onL0]
    show _ = J.evs o
    refine byKey_of _ _ _ (ho.perm.map _) (fun a b ha hb e => ?_) ?_
    · obtain ⟨k, hk, rfl⟩ := List.mem_map.1 ha
      obtain ⟨l, hl, rfl⟩ := List.mem_map.1 hb
      have hk := ho.lt hk
      have hl := ho.lt hl
      rw [keysL_get _ _ _ (by omega), keysL_get _ _ _ (by omega), J.S_even, J.S_even] at e
      rcases Nat.lt_trichotomy (J.pos o k) (J.pos o l) with c | c | c
      · have := J.S_apart1 h ho hk hl c; have := h.jb hk; omega
      · have := J.pos_inj ho hk hl c; omega
      · have := J.S_apart1 h ho hl hk c; have := h.jb hl; omega
    · rw [J.evs, List.pairwise_map, List.pairwise_iff_getElem]
      intro i j hi hj hij
      have hk := ho.lt (List.getElem_mem hi)
      have hl := ho.lt (List.getElem_mem hj)
      rw [keysL_get _ _ _ (by omega), keysL_get _ _ _ (by omega), J.S_even, J.S_even]
      have := J.S_apart1 h ho hk hl (by rw [J.pos_get ho.nodup, J.pos_get ho.nodup]; exact hij)
      have := h.jb hk
      omega
  · rw [onL1]
    show _ = J.ods o
    refine byKey_of _ _ _ (ho.perm.map _) (fun a b ha hb e => ?_) ?_
    · obtain ⟨k, hk, rfl⟩ := List.mem_map.1 ha
      obtain ⟨l, hl, rfl⟩ := List.mem_map.1 hb
      have hk := ho.lt hk
      have hl := ho.lt hl
      rw [keysL_get _ _ _ (by omega), keysL_get _ _ _ (by omega), J.S_odd, J.S_odd] at e
      rcases Nat.lt_trichotomy (J.pos o k) (J.pos o l) with c | c | c
      · have := J.S_apart2 h ho hk hl c; have := h.jb hk; omega
      · have := J.pos_inj ho hk hl c; omega
      · have := J.S_apart2 h ho hl hk c; have := h.jb hl; omega
    · rw [J.ods, List.pairwise_map, List.pairwise_iff_getElem]
      intro i j hi hj hij
      have hk := ho.lt (List.getElem_mem hi)
      have hl := ho.lt (List.getElem_mem hj)
      rw [keysL_get _ _ _ (by omega), keysL_get _ _ _ (by omega), J.S_odd, J.S_odd]
      have := J.S_apart2 h ho hk hl (by rw [J.pos_get ho.nodup, J.pos_get ho.nodup]; exact hij)
      have := h.jb hk
      omega
theorem seqL_len (js : Js) (o : List Nat) (ho : OrdOf js o) (hd : Nat) : (seqL o hd).length = js.length := by
  unfold seqL J.evs J.ods
  split <;> simp [ho.len]
theorem nx_len (l : List Nat) : (J.nx l).length ≤ l.length := by
  rw [List.length_zip]; omega
def nxs (o : List Nat) (i : Nat) : List (Nat × Nat) := (List.range i).flatMap fun hd => J.nx (seqL o hd)
theorem nxs_succ (o : List Nat) (i : Nat) : nxs o (i + 1) = nxs o i ++ J.nx (seqL o i) := by
  unfold nxs
  rw [List.range_succ, List.flatMap_append]
  simp
theorem nxs_len (js : Js) (o : List Nat) (ho : OrdOf js o) (i : Nat) : (nxs o i).length ≤ i * js.length := by
  induction i with
  | zero => simp [nxs]
  | succ i ih =>
    rw [nxs_succ, List.length_append]
    have := nx_len (seqL o i)
    rw [seqL_len js o ho] at this
    rw [Nat.add_mul]
    omega
theorem cast_sort (l : List (Nat × Nat)) : ∃ m : List (Nat × Nat), m.Perm l ∧ sortedD (.list (l.map pN)) = some (.fr (.list (m.map pN))) := by
  have e : l.map pN = (l.map fun p => ((p.1 : Int), (p.2 : Int))).map pD := by rw [List.map_map]; rfl
  refine ⟨(srtP (l.map fun p => ((p.1 : Int), (p.2 : Int)))).map fun p => (p.1.toNat, p.2.toNat), ?_, ?_⟩
  · have := (List.mergeSort_perm (l.map fun p => ((p.1 : Int), (p.2 : Int))) leP).map fun p => (p.1.toNat, p.2.toNat)
    rw [List.map_map] at this
    refine this.trans (List.Perm.of_eq ?_)
    conv => rhs; rw [← List.map_id l]
    apply List.map_congr_left
    intro p _
    simp
  · rw [e, sorted_pairs, List.map_map]
    congr 3
    apply List.map_congr_left
    intro p hp
    obtain ⟨q, _, rfl⟩ := List.mem_map.1 ((List.mergeSort_perm _ leP).subset hp)
    simp [pD, pN, nD]
theorem map_nD (l : List Nat) : (l.map fun n : Nat => PyData.int (n : Int)) = l.map nD := rfl
theorem natsD_nD (l : List Nat) : natsD (l.map nD) = some l := natsD_map l
theorem rngP_2 (ρ : Rho) : rngP ([.int 2], ρ) = some ((List.range 2).map nD, ρ) := rngP1 2 ρ (by decide)
theorem rngP_4 (ρ : Rho) : rngP ([.int 4], ρ) = some ((List.range 4).map nD, ρ) := rngP1 4 ρ (by decide)
theorem run_told_next_orders (js : Js) (h : Jok js) (o : List Nat) (ho : OrdOf js o) : ∃ l : List (Nat × Nat), M_told_next_orders.run [shopD js, .tuple (startsL js o)] = some (.fr (.list (l.map pN)), .none) ∧ l.Perm (nxs o 2) := by
  have ln := h.len
  have sk : intsD (startsL js o) = some (keysL js o) := by
    have := intsD_int (keysL js o)
    unfold keysL at this
    rw [List.map_map] at this
    exact this
  have s0 : ixD (shopD js) (.int 0) = some (.int 2) := by simp [shopD]
  obtain ⟨⟨l, s1, s2⟩, h1, e⟩ := forF_rng (G := G_told_next_orders) (N := N_told_next_orders) (nio := 0) (gNm 3) [(xSet 4 (sSortKey "told_next_orders.<locals>.<lambda>" (sCall 0 [(sVar 0), (sVar 3)]) 1)), (xExpr (sM1 mExtend 2 (sLc [("one", 5), ("other", 6)] (gTp [(gNm 5), (gNm 6)]) (iZip (sVar 4) (sSl (sVar 4) (some (sCon (.int 1))) none)) none (sTup [.one (sVar 5), .one (sVar 6)]))))] nD
    (fun s : List (Nat × Nat) × Slot × Slot => [.va (shopD js), .va (.tuple (startsL js o)), .ow (.list (s.1.map pN)), s.2.1, s.2.2, .un, .un])
    (fun s i => s.1 = nxs o i) 2 ([], .un, .un) rfl (by
      rintro ⟨l, s1, s2⟩ i hi h1
      dsimp only at h1 ⊢
      have q := run_told_on js h i
      have b := byKey_seq js h o ho i hi
      have al : ((onL js.length i).all fun n => decide (n < (keysL js o).length)) = true := by
        rw [List.all_eq_true]
        intro w hw
        have := onL_lt _ _ w hw
        simp [keysL, this]
      have z : zipL ((seqL o i).map nD) (((seqL o i).map nD).drop 1) = (J.nx (seqL o i)).map pN := by
        rw [← List.map_drop, zipL_map]
        rfl
      have c := compF_all (G := G_told_next_orders) (N := N_told_next_orders) [5, 6] (gTp [(gNm 5), (gNm 6)]) (sTup [.one (sVar 5), .one (sVar 6)]) pN pN [.va (shopD js), .va (.tuple (startsL js o)), .ow (.list (l.map pN)), .va (nD i), .va (.list ((seqL o i).map nD)), .un, .un] (J.nx (seqL o i)) fun p hp => by
        refine ⟨_, rfl, ?_, rfl⟩
        simp [pN]
      have n1 := nx_len (seqL o i)
      have n2 := seqL_len js o ho i
      have n3 := nxs_len js o ho i
      rw [← h1] at n3
      have n5 : i * js.length ≤ 1 * js.length := Nat.mul_le_mul_right _ (by omega)
      have n4 : (J.nx (seqL o i)).length ≤ 100000 := by omega
      have n6 : l.length ≤ 100000 := by omega
      have n7 : l.length + (J.nx (seqL o i)).length ≤ 100000 := by omega
      have n8 : min (seqL o i).length ((seqL o i).length - 1) ≤ 100000 := by omega
      have n9 : l.length + min (seqL o i).length ((seqL o i).length - 1) ≤ 100000 := by omega
      refine ⟨(nxs o (i + 1), .va (nD i), .va (.list ((seqL o i).map nD))), rfl, _, rfl, ?_⟩
      rw [nxs_succ, ← h1]
      simp only [nD] at q z c b
      simp only [nD]
      simp [-List.length_zip, -ixD, -List.drop_one, q, natsD_nD, map_nD, sk, al, b, cut_one, z, c, n4, n6, n7, n8, n9])
  obtain ⟨m, p, s⟩ := cast_sort l
  dsimp only at h1
  refine ⟨m, ?_, by rw [← h1]; exact p⟩
  simp only [List.map_nil] at e
  simp [-sortedD, -ixD, M_told_next_orders, B_told_next_orders, s0, rngP_2, e, s]
theorem nxs_mem (o : List Nat) (l : List (Nat × Nat)) (p : l.Perm (nxs o 2)) : ∀ q, q ∈ l ↔ q ∈ J.nx (J.evs o) ∨ q ∈ J.nx (J.ods o) := by
  intro q
  rw [p.mem_iff, nxs_succ, nxs_succ, List.mem_append, List.mem_append]
  have : q ∉ nxs o 0 := by simp [nxs]
  simp [this, seqL]
end R88
set_option Elab.async false
set_option linter.all false
set_option maxRecDepth 100000
set_option maxHeartbeats 4000000
/-! R18: the steps -/
namespace R88
open PySem L2 Ev B88
open J (jb jl)
variable [Tbs]
abbrev TS := J.Stp × D
def tD (t : TS) : D := .tuple [.int t.1.1, .int t.1.2.1, .int t.1.2.2, t.2]
def rowsS (js : Js) : List TS := (List.range js.length).map fun k => ((((2 * k : Nat) : Int), ((2 * k + 1 : Nat) : Int), (jb js k).1), .tuple [.str "row", nD k])
def winS (n w : Nat) : List TS := [(((n : Int), (w : Int), 0), .tuple [.str "early", nD w]), (((w : Int), (n : Int), -1000000), .tuple [.str "late", nD w])]
def winsS (n i : Nat) : List TS := (List.range i).flatMap (winS n)
def ordsS (js : Js) (l : List (Nat × Nat)) : List TS := l.map fun p => (((p.1 : Int), (p.2 : Int), J.ln js p.1), .tuple [.str "ahead", nD p.1, nD p.2])
def allS (js : Js) (l : List (Nat × Nat)) : List TS := (rowsS js ++ winsS (2 * js.length) (2 * js.length)) ++ ordsS js l
theorem allS_T (js : Js) (l : List (Nat × Nat)) : (allS js l).map Prod.fst = J.stepsT js l := by
  unfold allS J.stepsT rowsS winsS ordsS J.rowsT J.winT J.ordT winS
  rw [List.map_append, List.map_append, List.map_map, List.map_map, List.map_flatMap]
  rfl
theorem winsS_len (n i : Nat) : (winsS n i).length = 2 * i := by
  induction i with
  | zero => rfl
  | succ i ih =>
    unfold winsS at ih ⊢
    rw [List.range_succ, List.flatMap_append, List.length_append, ih]
    simp [winS]
    omega
theorem winsS_succ (n i : Nat) : winsS n (i + 1) = winsS n i ++ winS n i := by
  unfold winsS
  rw [List.range_succ, List.flatMap_append]
  simp
theorem run_told_row_steps (js : Js) (h : Jok js) : M_told_row_steps.run [shopD js] = some (.fr (.list ((rowsS js ++ winsS (2 * js.length) (2 * js.length)).map tD)), .none) := by
  have ln := h.len
  have s1 : ixD (shopD js) (.int 1) = some (.tuple (worksL js (2 * js.length))) := by simp [shopD]
  have s2 : ixD (shopD js) (.int 2) = some (.tuple (winsL (2 * js.length))) := by simp [shopD]
  have s3 : ixD (shopD js) (.int (-1)) = some (.tuple (rowsL js js.length)) := by simp [shopD]
  have c := compF_all (G := G_told_row_steps) (N := N_told_row_steps) [6, 7, 8, 9] (gTp [(gNm 6), (gTp [(gNm 7), (gNm 8), (gNm 9)])]) (sTup [.one (sVar 7), .one (sVar 8), .one (sVar 9), .one (sTup [.one (sGl 0), .one (sVar 6)])]) (fun i => .tuple [nD i, rowD js i]) (fun k => tD ((((2 * k : Nat) : Int), ((2 * k + 1 : Nat) : Int), (jb js k).1), .tuple [.str "row", nD k])) [.va (shopD js), .va (.int (2 * js.length)), .un, .un, .un, .un, .un, .un, .un, .un] (List.range js.length) fun k hk => by
    refine ⟨_, rfl, ?_, rfl⟩
    simp [rowD, tD, nD]
  have cr : ((List.range js.length).map fun k => tD ((((2 * k : Nat) : Int), ((2 * k + 1 : Nat) : Int), (jb js k).1), .tuple [.str "row", nD k])) = (rowsS js).map tD := by
    unfold rowsS
    rw [List.map_map]
    rfl
  have rl : (rowsS js).length = js.length := by simp [rowsS]
  obtain ⟨⟨i, x, y, z⟩, h1, e⟩ := forF_rng (G := G_told_row_steps) (N := N_told_row_steps) (nio := 0) (gTp [(gNm 3), (gTp [(gNm 4), (gNm 5)])]) [(xExpr (sM1 mExtend 2 (sLst [.one (sTup [.one (sVar 1), .one (sVar 3), .one (sVar 4), .one (sTup [.one (sGl 1), .one (sVar 3)])]), .one (sTup [.one (sVar 3), .one (sVar 1), .one (sNeg (sVar 5)), .one (sTup [.one (sGl 2), .one (sVar 3)])])])))] (fun i => .tuple [nD i, pD (0, 1000000)])
    (fun s : Nat × Slot × Slot × Slot => [.va (shopD js), .va (.int (2 * js.length)), .ow (.list ((rowsS js ++ winsS (2 * js.length) s.1).map tD)), s.2.1, s.2.2.1, s.2.2.2, .un, .un, .un, .un])
    (fun s i => s.1 = i) (2 * js.length) (0, .un, .un, .un) rfl (by
      rintro ⟨i, x, y, z⟩ w hw h1
      dsimp only at h1 ⊢
      subst h1
      refine ⟨(i + 1, .va (nD i), .va (.int 0), .va (.int 1000000)), rfl, _, rfl, ?_⟩
      rw [winsS_succ]
      have wl := winsS_len (2 * js.length) i
      have l1 : js.length + 2 * i ≤ 100000 := by omega
      have l2 : js.length + (2 * i + 2) ≤ 100000 := by omega
      have l3 : js.length + (2 * i + 1 + 1) ≤ 100000 := by omega
      simp [winS, tD, nD, pD, wl, rl, l1, l2, l3])
  dsimp only at h1
  subst h1
  have l0 : js.length ≤ 100000 := by omega
  rw [cr] at c
  have w0 : winsS (2 * js.length) 0 = [] := rfl
  simp only [w0, List.append_nil] at e
  simp [-ixD, M_told_row_steps, B_told_row_steps, s1, s2, s3, enum_rows, enum_wins, l0, c, e]
theorem run_told_order_steps (js : Js) (h : Jok js) (l : List (Nat × Nat)) (hl : ∀ p ∈ l, p.1 < 2 * js.length ∧ p.2 < 2 * js.length) (ll : l.length ≤ 100000) : M_told_order_steps.run [shopD js, .list (l.map pN)] = some (.fr (.list ((ordsS js l).map tD)), .none) := by
  have c := compF_all (G := G_told_order_steps) (N := N_told_order_steps) [2, 3] (gTp [(gNm 2), (gNm 3)]) (sTup [.one (sVar 2), .one (sVar 3), .one (sIx (sIx (sIx (sVar 0) (sCon (.int 1))) (sVar 2)) (sCon (.int 1))), .one (sTup [.one (sGl 0), .one (sVar 2), .one (sVar 3)])]) pN (fun p => tD (((p.1 : Int), (p.2 : Int), J.ln js p.1), .tuple [.str "ahead", nD p.1, nD p.2])) [.va (shopD js), .va (.list (l.map pN)), .un, .un] l fun p hp => by
    refine ⟨_, rfl, ?_, rfl⟩
    have a := at_work js (2 * js.length) p.1 (hl p hp).1
    simp [tD, nD, shopD, a, wk, pD]
  have cr : (l.map fun p => tD (((p.1 : Int), (p.2 : Int), J.ln js p.1), .tuple [.str "ahead", nD p.1, nD p.2])) = (ordsS js l).map tD := by
    unfold ordsS
    rw [List.map_map]
    rfl
  rw [cr] at c
  simp [M_told_order_steps, B_told_order_steps, c, ll]
theorem run_told_steps (js : Js) (h : Jok js) (l : List (Nat × Nat)) (hl : ∀ p ∈ l, p.1 < 2 * js.length ∧ p.2 < 2 * js.length) (ll : l.length ≤ 24) : M_told_steps.run [shopD js, .list (l.map pN), .none] = some (.fr (.list ((allS js l).map tD)), .none) := by
  have ln := h.len
  have rl : (rowsS js).length = js.length := by simp [rowsS]
  have ol : (ordsS js l).length = l.length := by simp [ordsS]
  have wl := winsS_len (2 * js.length) (2 * js.length)
  have l1 : js.length + (2 * (2 * js.length) + l.length) ≤ 100000 := by omega
  have q1 := run_told_row_steps js h
  have q2 := run_told_order_steps js h l hl (by omega)
  simp [M_told_steps, B_told_steps, q1, q2, rl, ol, wl, l1, allS]
theorem allS_len (js : Js) (h : Jok js) (l : List (Nat × Nat)) (ll : l.length ≤ 24) : (allS js l).length ≤ 100 := by
  have ln := h.len
  have rl : (rowsS js).length = js.length := by simp [rowsS]
  have ol : (ordsS js l).length = l.length := by simp [ordsS]
  have wl := winsS_len (2 * js.length) (2 * js.length)
  unfold allS
  rw [List.length_append, List.length_append]
  omega
end R88
set_option Elab.async false
set_option linter.all false
set_option maxRecDepth 100000
set_option maxHeartbeats 4000000
/-! R19: longest ways -/
namespace R88
open PySem L2 Ev B88
open J (jb jl)
variable [Tbs]
def encF (l : J.FL) : List (D × D) := l.map fun p => (.int p.1, .int p.2)
def encB (l : List (Int × D)) : List (D × D) := l.map fun p => (.int p.1, p.2)
@[simp] theorem encF_len (l : J.FL) : (encF l).length = l.length := by simp [encF]
@[simp] theorem encB_len (l : List (Int × D)) : (encB l).length = l.length := by simp [encB]
@[simp] theorem scr_encF (l : J.FL) : isScr (encF l) = false := by cases l <;> rfl
@[simp] theorem scr_encB (l : List (Int × D)) : isScr (encB l) = false := by cases l <;> rfl
theorem find_encF (k : Int) : ∀ l : J.FL, findD (.inl k) (encF l) = (J.fget l k).map .int
  | [] => rfl
  | p :: l => by
    show (if eqK (.inl k) (PyData.int p.1) = true then some (PyData.int p.2) else findD (.inl k) (encF l)) = _
    rw [find_encF k l]
    show _ = (if k = p.1 then some p.2 else J.fget l k).map PyData.int
    by_cases e : k = p.1
    · simp [e]
    · simp [e]
theorem put_encF (k v : Int) (l : J.FL) : putD (.inl k) (.int v) (encF l) = encF (J.fput k v l) := by
  unfold putD J.fput
  have a : ((encF l).any fun p => eqK (.inl k) p.1) = l.any fun p => decide (k = p.1) := by
    unfold encF
    rw [List.any_map]
    rfl
  rw [a]
  cases l.any fun p => decide (k = p.1) with
  | true =>
    show (encF l).map _ = encF (l.map _)
    unfold encF
    rw [List.map_map, List.map_map]
    apply List.map_congr_left
    intro p _
    by_cases e : k = p.1
    · simp [e]
    · simp [e]
  | false =>
    show encF l ++ _ = encF (l ++ _)
    unfold encF
    rw [List.map_append]
    rfl
theorem put_encB (k : Int) (d : D) (l : List (Int × D)) : ∃ m : List (Int × D), putD (.inl k) d (encB l) = encB m ∧ m.length ≤ l.length + 1 := by
  unfold putD
  cases ((encB l).any fun p => eqK (.inl k) p.1) with
  | true =>
    refine ⟨l.map fun p => match decide (k = p.1) with
      | true => (p.1, d)
      | false => p, ?_, by simp⟩
    show (encB l).map _ = encB (l.map _)
    unfold encB
    rw [List.map_map, List.map_map]
    apply List.map_congr_left
    intro p _
    by_cases e : k = p.1
    · simp [e]
    · simp [e]
  | false =>
    refine ⟨l ++ [(k, d)], ?_, by simp⟩
    show encB l ++ _ = encB (l ++ _)
    unfold encB
    rw [List.map_append]
    rfl
def oI : Option Int → D
  | none => .none
  | some i => .int i
structure FS where
  far : J.FL
  by_ : List (Int × D)
  mv : Option Int
  a : Slot
  b : Slot
  c : Slot
  d : Slot
  e : Slot
def farR (T : List TS) (n cl : Int) (x : Slot) (s : FS) : Rho := [.va (.list (T.map tD)), .va (.int n), .va (.int cl), .ow (.dict (encF s.far)), .ow (.dict (encB s.by_)), x, .un, .un, .un, .va (oI s.mv), s.a, s.b, s.c, s.d, s.e]
theorem far_step (T : List TS) (n cl : Int) (x : Slot) (s : FS) (t : TS) (lf : s.far.length ≤ 90000) (lb : s.by_.length ≤ 90000) : ∃ s' : FS, (s'.far, s'.mv) = J.rx (s.far, s.mv) t.1 ∧ s'.by_.length ≤ s.by_.length + 1 ∧ s'.far.length ≤ s.far.length + 1 ∧ ∃ ρ1, (gNm (G := G_told_far) (N := N_told_far) 10).st (tD t) (farR T n cl x s) = some ρ1 ∧ exB (G := G_told_far) (N := N_told_far) (nio := 0) [(xAsg (gtTp [(gtOf (gNm 11)), (gtOf (gNm 12)), (gtOf (gNm 13)), (gtOf (gNm 14))]) (sVar 10)), (xIf (tAnds [(tDin false (sVar 11) (sVar 3)), (tOrs [(tDin true (sVar 12) (sVar 3)), (tCmp .Gt gtD gt_ok (sBin .Add addD add_ok (sDix (sVar 3) (sVar 11)) (sVar 13)) (sDix (sVar 3) (sVar 12)))])]) [(xAsg (gtTp [(gtSub 3 (sVar 12)), (gtSub 4 (sVar 12)), (gtOf (gNm 9))]) (sTup [.one (sBin .Add addD add_ok (sDix (sVar 3) (sVar 11)) (sVar 13)), .one (sVar 10), .one (sVar 12)]))] [])] ρ1 = some (.nx, farR T n cl x s') := by
  obtain ⟨m, hm, lm⟩ := put_encB t.1.2.1 (tD t) s.by_
  have l1 : s.far.length ≤ 100000 := by omega
  have l2 : s.by_.length ≤ 100000 := by omega
  have pf := fun v => put_encF t.1.2.1 v s.far
  have f1 := find_encF t.1.1 s.far
  have f2 := find_encF t.1.2.1 s.far
  have pl := fun v => J.fput_len t.1.2.1 v s.far
  cases g1 : J.fget s.far t.1.1 with
  | none =>
    rw [g1] at f1
    refine ⟨⟨s.far, s.by_, s.mv, .va (tD t), .va (.int t.1.1), .va (.int t.1.2.1), .va (.int t.1.2.2), .va t.2⟩, ?_, by simp, by simp, _, rfl, ?_⟩
    · unfold J.rx J.mv
      dsimp only
      rw [g1]
      simp
    · simp [-isScr, farR, tD, f1]
  | some y =>
    rw [g1] at f1
    cases g2 : J.fget s.far t.1.2.1 with
    | none =>
      rw [g2] at f2
      refine ⟨⟨J.fput t.1.2.1 (y + t.1.2.2) s.far, m, some t.1.2.1, .va (tD t), .va (.int t.1.1), .va (.int t.1.2.1), .va (.int t.1.2.2), .va t.2⟩, ?_, lm, pl _, _, rfl, ?_⟩
      · unfold J.rx J.mv J.fv
        dsimp only
        rw [g1, g2]
        simp
      · simp only [tD] at hm
        simp [-isScr, farR, tD, f1, f2, pf, hm, l1, l2, oI]
    | some z =>
      rw [g2] at f2
      by_cases c : z < y + t.1.2.2
      · refine ⟨⟨J.fput t.1.2.1 (y + t.1.2.2) s.far, m, some t.1.2.1, .va (tD t), .va (.int t.1.1), .va (.int t.1.2.1), .va (.int t.1.2.2), .va t.2⟩, ?_, lm, pl _, _, rfl, ?_⟩
        · unfold J.rx J.mv J.fv
          dsimp only
          rw [g1, g2]
          simp [c]
        · simp only [tD] at hm
          simp [-isScr, farR, tD, f1, f2, pf, hm, l1, l2, oI, c]
      · refine ⟨⟨s.far, s.by_, s.mv, .va (tD t), .va (.int t.1.1), .va (.int t.1.2.1), .va (.int t.1.2.2), .va t.2⟩, ?_, by simp, by simp, _, rfl, ?_⟩
        · unfold J.rx J.mv
          dsimp only
          rw [g1, g2]
          simp [c]
        · simp [-isScr, farR, tD, f1, f2, c]
theorem far_lap (T : List TS) (n cl : Int) (x : Slot) (s : FS) (lf : s.far.length + T.length ≤ 90000) (lb : s.by_.length + T.length ≤ 90000) (m0 : s.mv = none) : ∃ s' : FS, (s'.far, s'.mv) = J.lap s.far (T.map Prod.fst) ∧ s'.far.length ≤ s.far.length + T.length ∧ s'.by_.length ≤ s.by_.length + T.length ∧ forF (G := G_told_far) (N := N_told_far) (nio := 0) (gNm 10) [(xAsg (gtTp [(gtOf (gNm 11)), (gtOf (gNm 12)), (gtOf (gNm 13)), (gtOf (gNm 14))]) (sVar 10)), (xIf (tAnds [(tDin false (sVar 11) (sVar 3)), (tOrs [(tDin true (sVar 12) (sVar 3)), (tCmp .Gt gtD gt_ok (sBin .Add addD add_ok (sDix (sVar 3) (sVar 11)) (sVar 13)) (sDix (sVar 3) (sVar 12)))])]) [(xAsg (gtTp [(gtSub 3 (sVar 12)), (gtSub 4 (sVar 12)), (gtOf (gNm 9))]) (sTup [.one (sBin .Add addD add_ok (sDix (sVar 3) (sVar 11)) (sVar 13)), .one (sVar 10), .one (sVar 12)]))] [])] (T.map tD) (farR T n cl x s) = some (.nx, farR T n cl x s') := by
  obtain ⟨s', ⟨h1, h2, h3⟩, e⟩ := forF_ex (G := G_told_far) (N := N_told_far) (nio := 0) (gNm 10) [(xAsg (gtTp [(gtOf (gNm 11)), (gtOf (gNm 12)), (gtOf (gNm 13)), (gtOf (gNm 14))]) (sVar 10)), (xIf (tAnds [(tDin false (sVar 11) (sVar 3)), (tOrs [(tDin true (sVar 12) (sVar 3)), (tCmp .Gt gtD gt_ok (sBin .Add addD add_ok (sDix (sVar 3) (sVar 11)) (sVar 13)) (sDix (sVar 3) (sVar 12)))])]) [(xAsg (gtTp [(gtSub 3 (sVar 12)), (gtSub 4 (sVar 12)), (gtOf (gNm 9))]) (sTup [.one (sBin .Add addD add_ok (sDix (sVar 3) (sVar 11)) (sVar 13)), .one (sVar 10), .one (sVar 12)]))] [])] tD (farR T n cl x)
    (fun q r => (r.map Prod.fst).foldl J.rx (q.far, q.mv) = J.lap s.far (T.map Prod.fst) ∧ q.far.length + r.length ≤ s.far.length + T.length ∧ q.by_.length + r.length ≤ s.by_.length + T.length) T s
    ⟨by unfold J.lap; rw [m0], Nat.le_refl _, Nat.le_refl _⟩ (by
      rintro q t r ⟨h1, h2, h3⟩
      rw [List.length_cons] at h2 h3
      obtain ⟨q', p1, p2, p3, p4⟩ := far_step T n cl x q t (by omega) (by omega)
      refine ⟨q', ⟨?_, by omega, by omega⟩, p4⟩
      rw [p1, ← h1]
      rfl)
  exact ⟨s', h1, by simpa using h2, by simpa using h3, e⟩
end R88
set_option Elab.async false
set_option linter.all false
set_option maxRecDepth 100000
set_option maxHeartbeats 4000000
/-! R20: least starts, pressed -/
namespace R88
open PySem L2 Ev B88
open J (jb jl)
variable [Tbs]
def farR2 (T : List TS) (n cl : Int) (x m : Slot) (s : FS) : Rho := [.va (.list (T.map tD)), .va (.int n), .va (.int cl), .ow (.dict (encF s.far)), .ow (.dict (encB s.by_)), x, .un, .un, .un, m, s.a, s.b, s.c, s.d, s.e]
theorem run_told_far (T : List TS) (n : Nat) (c : Nat) (S : Int → Int) (nodes : List Int) (rk : Int → Nat) (R : Nat)
    (k : J.Rk S (T.map Prod.fst) nodes rk (c : Int)) (nd : ∀ t ∈ T.map Prod.fst, t.1 ∈ nodes ∧ t.2.1 ∈ nodes) (top : ∀ x ∈ nodes, rk x < R + 1) (low : ∀ x ∈ nodes, rk x < 1 → x = (c : Int)) (hR : R < n) (hn : n ≤ 25) (lt : T.length ≤ 100) (c0 : S c = 0) (inv0 : ∀ x, x = (c : Int) → 0 ≤ S x) :
    ∃ f : J.FL, M_told_far.run [.list (T.map tD), .int (n : Int), .int (c : Int)] = some (.v (.tuple [.dict (encF f), .none]), .none) ∧ (∀ x ∈ nodes, J.Set S f x) := by
  obtain ⟨v, ρ2, ⟨f, rfl, hf⟩, e⟩ := forF_ret (G := G_told_far) (N := N_told_far) (nio := 0) (gNm 5) [(xSet 9 (sCon .none)), (xFor (gNm 10) (iSeq (sVar 0)) [(xAsg (gtTp [(gtOf (gNm 11)), (gtOf (gNm 12)), (gtOf (gNm 13)), (gtOf (gNm 14))]) (sVar 10)), (xIf (tAnds [(tDin false (sVar 11) (sVar 3)), (tOrs [(tDin true (sVar 12) (sVar 3)), (tCmp .Gt gtD gt_ok (sBin .Add addD add_ok (sDix (sVar 3) (sVar 11)) (sVar 13)) (sDix (sVar 3) (sVar 12)))])]) [(xAsg (gtTp [(gtSub 3 (sVar 12)), (gtSub 4 (sVar 12)), (gtOf (gNm 9))]) (sTup [.one (sBin .Add addD add_ok (sDix (sVar 3) (sVar 11)) (sVar 13)), .one (sVar 10), .one (sVar 12)]))] [])]), (xIf (tCmp .Is isD isR_ok (sVar 9) (sCon .none)) [(xRet (sTup [.one (sVar 3), .one (sCon .none)]))] [])] nD (fun p : (Slot × Slot) × FS => farR2 T n c p.1.1 p.1.2 p.2)
    (fun p r => ∃ j, j + r.length = n ∧ j ≤ R ∧ J.Inv S p.2.far ∧ J.Set S p.2.far c ∧ (∀ x ∈ nodes, rk x < j + 1 → J.Set S p.2.far x) ∧ p.2.far.length ≤ 1 + j * 100 ∧ p.2.by_.length ≤ j * 100)
    (fun v _ => ∃ f : J.FL, v = .v (.tuple [.dict (encF f), .none]) ∧ ∀ x ∈ nodes, J.Set S f x)
    (by
      rintro p ⟨j, h1, h2, _⟩
      simp at h1
      omega) (List.range n) ((.un, .un), ⟨[((c : Int), 0)], [], none, .un, .un, .un, .un, .un⟩) (by
      have gs : J.Set S [((c : Int), 0)] c := by
        unfold J.Set J.fget
        rw [if_pos rfl, c0]
      refine ⟨0, by simp, Nat.zero_le _, ?_, gs, ?_, by simp, by simp⟩
      · intro x v hx
        dsimp only at hx
        unfold J.fget at hx
        split at hx
        · rename_i q
          cases hx
          exact inv0 x q
        · simp [J.fget] at hx
      · intro x hx h
        rw [low x hx h]
        exact gs) (by
      rintro ⟨⟨x, mm⟩, s⟩ a r ⟨j, h1, h2, h3, h4, h5, h6, h7⟩
      rw [List.length_cons] at h1
      dsimp only at h3 h4 h5 h6 h7
      have j25 : j * 100 ≤ 2500 := by omega
      obtain ⟨s', p1, p2, p3, p4⟩ := far_lap T n c (.va (nD a)) ⟨s.far, s.by_, none, s.a, s.b, s.c, s.d, s.e⟩ (by dsimp only; omega) (by dsimp only; omega) rfl
      dsimp only at p1 p2 p3
      have pf : s'.far = (J.lap s.far (T.map Prod.fst)).1 := congrArg Prod.fst p1
      have pm : s'.mv = (J.lap s.far (T.map Prod.fst)).2 := congrArg Prod.snd p1
      cases g : s'.mv with
      | none =>
        right
        have sm := J.fold_some none (T.map Prod.fst) s.far (by rw [pm] at g; exact g)
        have st := k.still h3 h4 sm.2.2
        have ef : s'.far = s.far := by rw [pf]; exact sm.2.1
        refine ⟨_, .v (.tuple [.dict (encF s'.far), .none]), [.va (.list (T.map tD)), .va (.int n), .va (.int c), .va (.dict (encF s'.far)), .ow (.dict (encB s'.by_)), .va (nD a), .un, .un, .un, .va (oI s'.mv), s'.a, s'.b, s'.c, s'.d, s'.e], rfl, ?_, s'.far, rfl, by rw [ef]; exact st⟩
        simp only [farR, oI, nD] at p4
        simp [farR2, nD, p4, g, oI]
      | some m =>
        left
        have ls := k.lap_set h3 h4 h5
        have iv : J.Inv S s'.far := by rw [pf]; exact J.fold_inv _ _ h3 k.feas
        have cs : J.Set S s'.far c := by rw [pf]; exact J.fold_set _ _ h3 k.feas h4
        have jR : j < R := by
          rcases Nat.lt_or_ge j R with z | z
          · exact z
          · exfalso
            have d := k.done h3 fun t ht => ⟨h5 _ (nd t ht).1 (by have := top _ (nd t ht).1; omega), h5 _ (nd t ht).2 (by have := top _ (nd t ht).2; omega)⟩
            rw [pm, d] at g
            cases g
        refine ⟨((.va (nD a), .va (oI s'.mv)), s'), ⟨j + 1, by omega, jR, iv, cs, by rw [pf]; exact ls, ?_, ?_⟩, _, rfl, ?_⟩
        · dsimp only; omega
        · dsimp only; omega
        · simp only [farR, oI, nD] at p4
          simp [farR2, nD, p4, g, oI])
  refine ⟨f, ?_, hf⟩
  have n1 : n ≤ 1000 := by omega
  simp only [farR2, encF, encB, List.map_cons, List.map_nil, oI] at e
  simp [M_told_far, B_told_far, n1, e, encF]
theorem run_told_starts (js : Js) (h : Jok js) (n0 : 1 ≤ js.length) (o : List Nat) (ho : OrdOf js o) (l : List (Nat × Nat)) (hl : ∀ q, q ∈ l ↔ q ∈ J.nx (J.evs o) ∨ q ∈ J.nx (J.ods o)) (ll : l.length ≤ 24) :
    M_told_starts.run [shopD js, .list (l.map pN), .none] = some (.v (.tuple [.list (startsL js o), .none]), .none) := by
  have ln := h.len
  have of := J.ord_fact h ho hl
  have k := J.T_rk h ho hl
  have nd := J.T_nodes h ho hl
  have tp := J.rk_top ho
  rw [← allS_T] at k nd
  obtain ⟨f, e, hf⟩ := run_told_far (allS js l) (2 * js.length + 1) (2 * js.length) (J.Sc js o) (J.nodes (2 * js.length)) (J.rk (2 * js.length) o) (js.length + 1) k nd tp (by
      intro x hx hr
      obtain ⟨w, hw, rfl⟩ := List.mem_map.1 hx
      have hw := List.mem_range.1 hw
      rcases Nat.lt_or_ge w (2 * js.length) with z | z
      · rw [J.rk_nat _ _ z] at hr
        unfold J.rkN at hr
        omega
      · rw [show w = 2 * js.length by omega]) (by omega) (by omega) (allS_len js h l ll) (J.Sc_clock js o) (by rintro x rfl; rw [J.Sc_clock]; exact Int.le_refl _)
  have q := run_told_steps js h l (fun p hp => ⟨(of p hp).1, (of p hp).2.1⟩) ll
  have s1 : ixD (shopD js) (.int 1) = some (.tuple (worksL js (2 * js.length))) := by simp [shopD]
  have c := compF_all (G := G_told_starts) (N := N_told_starts) [6] (gNm 6) (sDix (sVar 4) (sVar 6)) nD (fun w => .int (J.S js o w)) [.va (shopD js), .va (.list (l.map pN)), .va .none, .va (.int (2 * js.length)), .va (.dict (encF f)), .va .none, .un] (List.range (2 * js.length)) fun w hw => by
    have hw := List.mem_range.1 hw
    refine ⟨_, rfl, ?_, rfl⟩
    have g := hf (w : Int) (List.mem_map.2 ⟨w, List.mem_range.2 (by omega), rfl⟩)
    unfold J.Set at g
    rw [J.Sc_nat _ _ _ hw] at g
    have fd := find_encF (w : Int) f
    rw [g] at fd
    simp [-isScr, nD, fd]
  have r1 : rngP ([.int (2 * (js.length : Int))], [.va (shopD js), .va (.list (l.map pN)), .va .none, .va (.int (2 * js.length)), .va (.dict (encF f)), .va .none, .un]) = some ((List.range (2 * js.length)).map nD, [.va (shopD js), .va (.list (l.map pN)), .va .none, .va (.int (2 * js.length)), .va (.dict (encF f)), .va .none, .un]) := rngP1 (2 * js.length) _ (by omega)
  have l2 : 2 * js.length ≤ 100000 := by omega
  simp at e
  simp [-ixD, M_told_starts, B_told_starts, q, e, s1, r1, l2, c, startsL]
theorem run_pressed (js : Js) (h : Jok js) (n0 : 1 ≤ js.length) (o : List Nat) (ho : OrdOf js o) : M_pressed.run [shopD js, .tuple (startsL js o)] = some (.v (.tuple (startsL js o)), .none) := by
  have ln := h.len
  obtain ⟨l, q, p⟩ := run_told_next_orders js h o ho
  have ll := p.length_eq
  have nl := nxs_len js o ho 2
  have r := run_told_starts js h n0 o ho l (nxs_mem o l p) (by omega)
  simp [M_pressed, B_pressed, run_look_at_plan js h o ho, q, r]
end R88
set_option Elab.async false
set_option linter.all false
set_option maxRecDepth 100000
set_option maxHeartbeats 4000000
/-! R21: draws -/
namespace R88
open PySem L2 Ev B88
open J (jb jl)
variable [Tbs]
abbrev P3 := Int × Int × Int
def pD3 (p : P3) : D := .list [.int p.1, .int p.2.1, .int p.2.2]
structure Pok (p : P3) (m : Nat) : Prop where
  b0 : 0 ≤ p.2.1
  b1 : p.2.1 < 2305843009213693921
  c0 : 0 ≤ p.2.2
  c1 : p.2.2 ≤ m
theorem Pok.mono {p : P3} {m n : Nat} (h : Pok p m) (k : m ≤ n) : Pok p n := ⟨h.b0, h.b1, h.c0, by have := h.c1; omega⟩
theorem fits_of {i : Int} (h1 : -18446744073709551616 < i) (h2 : i < 18446744073709551616) : fits i = true := by
  unfold fits
  rw [decide_eq_true h1, decide_eq_true h2]
  rfl
theorem pow3_of {i : Int} (h1 : 0 ≤ i) (h2 : i < 1267650600228229401496703205376) : powD (.int i) (.int 3) = some (.v (.int (i ^ 3))) := by
  have h : i.natAbs < 2 ^ 1000 := Nat.lt_of_lt_of_le (show i.natAbs < 1267650600228229401496703205376 by omega) (by decide +kernel)
  show (match decide ((0 : Int) ≤ 3) && (decide ((3 : Int) ≤ 1000) && decide (i.natAbs < 2 ^ 1000)) with
    | true => some (Rv.v (.int (i ^ (3 : Int).toNat)))
    | false => none) = _
  rw [decide_eq_true h]
  rfl
theorem primes (i : Int) (h0 : 0 ≤ i) (h1 : i < 5) : ∃ q : Int, atI [PyData.int 2147483647, .int 2147483629, .int 2147483587, .int 2147483579, .int 2147483563] i = some (.int q) ∧ 0 < q ∧ q < 4294967296 := by
  rcases (show i = 0 ∨ i = 1 ∨ i = 2 ∨ i = 3 ∨ i = 4 by omega) with rfl | rfl | rfl | rfl | rfl
  · exact ⟨_, rfl, by decide, by decide⟩
  · exact ⟨_, rfl, by decide, by decide⟩
  · exact ⟨_, rfl, by decide, by decide⟩
  · exact ⟨_, rfl, by decide, by decide⟩
  · exact ⟨_, rfl, by decide, by decide⟩
theorem ixN30 : ixN 3 0 = some 0 := rfl
theorem ixN32 : ixN 3 2 = some 2 := rfl
theorem run_take (p : P3) (u : Int) (m : Nat) (hu : 0 < u) (hu2 : u < 1073741824) (hp : Pok p m) (hm : m ≤ 100000) : ∃ (r : Int) (q : P3), M__law_take.run [pD3 p, .int u] = some (.v (.int r), pD3 q) ∧ 0 ≤ r ∧ r < u ∧ Pok q (m + 1) := by
  obtain ⟨a, b, c⟩ := p
  obtain ⟨b0, b1, c0, c1⟩ := hp
  dsimp only at b0 b1 c0 c1
  by_cases ha : 0 < a
  · refine ⟨a % u, (a / u, b, c), ?_, Int.emod_nonneg _ (by omega), Int.emod_lt_of_pos _ hu, ⟨b0, b1, c0, by dsimp only; omega⟩⟩
    simp [M__law_take, B__law_take, pD3, ha, hu, hu2, ixN30]
  · obtain ⟨pr, e1, p0, p1⟩ := primes ((c + 1) % 5) (Int.emod_nonneg _ (by omega)) (Int.emod_lt_of_pos _ (by omega))
    have cc : (c + 1) * (c + 1) ≤ 100001 * 100001 := Int.mul_le_mul (by omega) (by omega) (by omega) (by omega)
    have cz : 0 ≤ (c + 1) * (c + 1) := Int.mul_nonneg (by omega) (by omega)
    obtain ⟨X, hX⟩ : ∃ X, X = b + 88211 * (c + 1) * (c + 1) + 2909 := ⟨_, rfl⟩
    have x1 : 88211 * (c + 1) * (c + 1) = 88211 * ((c + 1) * (c + 1)) := Int.mul_assoc _ _ _
    have pw := pow3_of (i := X) (by omega) (by omega)
    obtain ⟨Y, hY⟩ : ∃ Y, Y = X ^ 3 % pr := ⟨_, rfl⟩
    have y0 : 0 ≤ Y := by rw [hY]; exact Int.emod_nonneg _ (by omega)
    have y1 : Y < pr := by rw [hY]; exact Int.emod_lt_of_pos _ p0
    have f1 : fits 88211 = true := fits_of (by decide) (by decide)
    have f2 : fits (c + 1) = true := fits_of (by omega) (by omega)
    have f3 : fits 419 = true := fits_of (by decide) (by decide)
    have f4 : fits Y = true := fits_of (by omega) (by omega)
    refine ⟨(Y * (Y % 13441 + 419 * (c + 1)) % 2305843009213693907 / 229) % u, (a, b, c + 1), ?_, Int.emod_nonneg _ (by omega), Int.emod_lt_of_pos _ hu, ⟨b0, b1, by dsimp only; omega, by dsimp only; omega⟩⟩
    simp [-fits, -powD, M__law_take, B__law_take, pD3, ha, hu, p0, ixN32, e1, f1, f2, f3, f4, ← hX, pw, ← hY]
theorem run_of (p : P3) (m : Nat) (ds : List D) (n : ds ≠ []) (l : ds.length ≤ 1000) (hp : Pok p m) (hm : m ≤ 100000) : ∃ d q, M__law_of.run [pD3 p, .list ds] = some (.v d, pD3 q) ∧ d ∈ ds ∧ Pok q (m + 1) := by
  have lp : 0 < ds.length := List.length_pos_iff.2 n
  obtain ⟨r, q, e, r0, r1, pq⟩ := run_take p ds.length m (by omega) (by omega) hp hm
  obtain ⟨k, rfl⟩ : ∃ k : Nat, r = (k : Int) := ⟨r.toNat, by omega⟩
  have hk : k < ds.length := by omega
  have a : atI ds (k : Int) = some ds[k] := atI_nat (List.getElem?_eq_getElem hk)
  refine ⟨ds[k], q, ?_, List.getElem_mem hk, pq⟩
  simp [M__law_of, B__law_of, e, a]
theorem er_map (f : Nat → D) : ∀ (l : List Nat) (k : Nat), (l.map f).eraseIdx k = (l.eraseIdx k).map f
  | [], _ => rfl
  | _ :: _, 0 => rfl
  | a :: l, k + 1 => by rw [List.map_cons, List.eraseIdx_cons_succ, List.eraseIdx_cons_succ, List.map_cons, er_map f l k]
theorem er_perm : ∀ (l : List Nat) (k : Nat) (h : k < l.length), (l[k] :: l.eraseIdx k).Perm l
  | a :: l, 0, _ => by simp
  | a :: l, k + 1, h => by
    rw [List.eraseIdx_cons_succ, List.getElem_cons_succ]
    exact (List.Perm.swap _ _ _).trans ((er_perm l k (by simpa using h)).cons a)
theorem run_law_some (p : P3) (m : Nat) (n : Nat) (hn : n ≤ 1000) (hp : Pok p m) (hm : m + n ≤ 100000) : ∃ (o : List Nat) (q : P3), M__law_some.run [pD3 p, .list ((List.range n).map nD), .int (n : Int)] = some (.fr (.list (o.map nD)), pD3 q) ∧ o.Perm (List.range n) ∧ Pok q (m + n) := by
  obtain ⟨⟨q, rests, found, x⟩, ⟨h1, h2, h3⟩, e⟩ := forF_rng (G := G__law_some) (N := N__law_some) (nio := 1) (gNm 5) [(xExpr (sM1 mAppend 4 (sM1 mPopAt 3 (sCallI 0 0 [(sBlt bLen [(sVar 3)])]))))] nD
    (fun s : P3 × List Nat × List Nat × Slot => [.ow (pD3 s.1), .va (.list ((List.range n).map nD)), .va (.int (n : Int)), .ow (.list (s.2.1.map nD)), .ow (.list (s.2.2.1.map nD)), s.2.2.2])
    (fun s i => Pok s.1 (m + i) ∧ s.2.1.length + i = n ∧ (s.2.2.1 ++ s.2.1).Perm (List.range n)) n (p, List.range n, [], .un) ⟨hp, by simp, by simp⟩ (by
      rintro ⟨q, rests, found, x⟩ i hi ⟨h1, h2, h3⟩
      dsimp only at h1 h2 h3
      obtain ⟨r, q', e, r0, r1, pq⟩ := run_take q rests.length (m + i) (by omega) (by omega) h1 (by omega)
      obtain ⟨k, rfl⟩ : ∃ k : Nat, r = (k : Int) := ⟨r.toNat, by omega⟩
      have hk : k < rests.length := by omega
      have fl := h3.length_eq
      rw [List.length_append, List.length_range] at fl
      refine ⟨(q', rests.eraseIdx k, found ++ [rests[k]], .va (nD i)), ⟨pq, ?_, ?_⟩, _, rfl, ?_⟩
      · dsimp only
        rw [List.length_eraseIdx_of_lt hk]
        omega
      · dsimp only
        rw [List.append_assoc]
        exact ((er_perm rests k hk).append_left found).trans h3
      · have l1 : rests.length ≤ 100000 := by omega
        have l2 : found.length ≤ 100000 := by omega
        have l3 : found.length ≤ 99999 := by omega
        have l4 : (rests.eraseIdx k).length ≤ 100000 := by rw [List.length_eraseIdx_of_lt hk]; omega
        have l5 : ((rests.map nD).eraseIdx k).length ≤ 100000 := by rw [List.length_eraseIdx_of_lt (by simpa using hk), List.length_map]; omega
        have er : (rests.map nD).eraseIdx k = (rests.eraseIdx k).map nD := by rw [er_map]
        have g : rests[k]? = some rests[k] := List.getElem?_eq_getElem hk
        simp [e, l1, l2, l3, l4, l5, er, g])
  refine ⟨found, q, ?_, ?_, h1⟩
  · simp only [List.map_nil] at e
    simp [M__law_some, B__law_some, hn, e]
  · dsimp only at h2 h3
    have : rests = [] := List.eq_nil_of_length_eq_zero (by omega)
    rw [this, List.append_nil] at h3
    exact h3
end R88
set_option Elab.async false
set_option linter.all false
set_option maxRecDepth 100000
set_option maxHeartbeats 4000000
/-! R22: jobs drawn -/
namespace R88
open PySem L2 Ev B88
open J (jb jl)
variable [Tbs]
def jin (j : P2) : Prop := 1 ≤ j.1 ∧ j.1 ≤ 1000 ∧ 1 ≤ j.2 ∧ j.2 ≤ 1000
theorem at_m1 (l : List D) (x : D) : atI (l ++ [x]) (-1) = some x := by
  unfold atI
  have : ixN (l ++ [x]).length (-1) = some l.length := by
    unfold ixN
    rw [if_neg (by omega), if_pos (by rw [List.length_append]; simp; omega)]
    rw [List.length_append]
    congr 1
    simp
    omega
  rw [this]
  simp
theorem at_m2 (l : List D) (y x : D) : atI (l ++ [y, x]) (-2) = some y := by
  unfold atI
  have : ixN (l ++ [y, x]).length (-2) = some l.length := by
    unfold ixN
    rw [if_neg (by omega), if_pos (by rw [List.length_append]; simp; omega)]
    rw [List.length_append]
    congr 1
    simp
    omega
  rw [this]
  simp
theorem ixN_m1 (n : Nat) : ixN (n + 1) (-1) = some n := by
  unfold ixN
  rw [if_neg (by omega), if_pos (by omega)]
  congr 1
  omega
theorem set_last {α : Type} (l : List α) (x y : α) : (l ++ [x]).set l.length y = l ++ [y] := by
  rw [List.set_append_right _ _ (Nat.le_refl _)]
  simp
def jobR (q : P3) (n s : Int) (l : List P2) (x : Slot) : Rho := [.ow (pD3 q), .va (.int 12), .va (.int n), .va (.int s), .ow (.list (l.map pD)), x]
theorem drawn_step (q : P3) (n s : Int) (m : Nat) (l : List P2) (x : Slot) (hs : 0 < s) (hs2 : s ≤ 1000) (hq : Pok q m) (hm : m ≤ 90000) (hl : ∀ j ∈ l, jin j) (ll : l.length ≤ 100) :
    ∃ (q' : P3) (l' : List P2), Pok q' (m + 4) ∧ l'.length = l.length + 1 ∧ (∀ j ∈ l', jin j) ∧ ∃ ρ1, (gNm (G := G__law_drawn) (N := N__law_drawn) 5).st (nD l.length) (jobR q n s l x) = some ρ1 ∧ exB (G := G__law_drawn) (N := N__law_drawn) (nio := 1) [(xExpr (sM1 mAppend 4 (sTup [.one (sBlt bInt [(sBin .Add addD add_ok (sCon (.int 1)) (sCallI 0 0 [(sVar 3)]))]), .one (sBlt bInt [(sBin .Add addD add_ok (sCon (.int 1)) (sCallI 0 0 [(sVar 3)]))])]))), (xIf (tAnds [(tCmp .Gt gtD gt_ok (sVar 5) (sCon (.int 0))), (tCmp .Eq eqSD eqS_ok (sCallI 0 0 [(sCon (.int 4))]) (sCon (.int 0)))]) [(xAsg (gtSub 4 (sNeg (sCon (.int 1)))) (sCallI 1 0 [(sLst [.one (sIx (sVar 4) (sNeg (sCon (.int 2)))), .one (sRev (sIx (sVar 4) (sNeg (sCon (.int 2))))), .one (sTup [.one (sIx (sIx (sVar 4) (sNeg (sCon (.int 2)))) (sCon (.int 0))), .one (sIx (sIx (sVar 4) (sNeg (sCon (.int 1)))) (sCon (.int 1)))])])]))] [])] ρ1 = some (.nx, jobR q' n s l' (.va (nD l.length))) := by
  obtain ⟨r1, q1, e1, a1, b1, p1⟩ := run_take q s m hs (by omega) hq (by omega)
  obtain ⟨r2, q2, e2, a2, b2, p2⟩ := run_take q1 s (m + 1) hs (by omega) p1 (by omega)
  obtain ⟨r3, q3, e3, a3, b3, p3⟩ := run_take q2 4 (m + 1 + 1) (by omega) (by omega) p2 (by omega)
  have j1 : jin (1 + r1, 1 + r2) := by unfold jin; dsimp only; omega
  have l1 : l.length ≤ 100000 := by omega
  have l2 : l.length ≤ 99999 := by omega
  have l3 : l.length + 1 ≤ 100000 := by omega
  rcases List.eq_nil_or_concat l with rfl | ⟨l0, y, rfl⟩
  · refine ⟨q2, [(1 + r1, 1 + r2)], p2.mono (by omega), rfl, fun j hj => by rw [List.mem_singleton.1 hj]; exact j1, _, rfl, ?_⟩
    simp [jobR, nD, pD, e1, e2]
  · rw [List.concat_eq_append] at *
    have hy : jin y := hl y (by simp)
    obtain ⟨d, q4, e4, d4, p4⟩ := run_of q3 (m + 1 + 1 + 1) [pD y, pD (y.2, y.1), pD (y.1, 1 + r2)] (by simp) (by simp) p3 (by omega)
    have lp2 : (0 : Int) < (l0.length : Int) + 1 := by omega
    by_cases c : r3 = 0
    · obtain ⟨z, rfl, hz⟩ : ∃ z : P2, d = pD z ∧ jin z := by
        simp only [List.mem_cons, List.not_mem_nil, or_false] at d4
        unfold jin at hy j1 ⊢
        rcases d4 with rfl | rfl | rfl
        · exact ⟨_, rfl, hy⟩
        · exact ⟨_, rfl, by dsimp only; omega⟩
        · exact ⟨_, rfl, by dsimp only at j1 ⊢; omega⟩
      refine ⟨q4, l0 ++ [y] ++ [z], p4.mono (by omega), by simp, fun j hj => ?_, _, rfl, ?_⟩
      · rcases List.mem_append.1 hj with hj | hj
        · exact hl j hj
        · rw [List.mem_singleton.1 hj]; exact hz
      · have am1 := at_m1 (l0.map pD ++ [pD y]) (pD (1 + r1, 1 + r2))
        have am2 := at_m2 (l0.map pD) (pD y) (pD (1 + r1, 1 + r2))
        have ix := ixN_m1 (l0.length + 1)
        have sl := set_last (l0.map pD ++ [pD y]) (pD (1 + r1, 1 + r2)) (pD z)
        simp at l1 l2 l3
        simp [pD] at e4 am1 am2 sl
        simp [jobR, nD, pD, e1, e2, e3, c, lp2, am1, am2, e4, ix, sl, l1, l2, l3]
    · refine ⟨q3, l0 ++ [y] ++ [(1 + r1, 1 + r2)], p3.mono (by omega), by simp, fun j hj => ?_, _, rfl, ?_⟩
      · rcases List.mem_append.1 hj with hj | hj
        · exact hl j hj
        · rw [List.mem_singleton.1 hj]; exact j1
      · simp at l1 l2 l3
        simp [jobR, nD, pD, e1, e2, e3, c, lp2, l1, l2, l3]
theorem run_law_drawn (p : P3) (m : Nat) (hp : Pok p m) (hm : m ≤ 50000) : ∃ (js : Js) (q : P3), M__law_drawn.run [pD3 p, .int 12] = some (.v (jD js), pD3 q) ∧ Jok js ∧ 2 ≤ js.length ∧ Pok q (m + 50) := by
  obtain ⟨r, q1, e1, r0, r1, p1⟩ := run_take p 11 m (by omega) (by omega) hp (by omega)
  obtain ⟨d, q2, e2, d2, p2⟩ := run_of q1 (m + 1) [.int 2, .int 9, .int 1000] (by simp) (by simp) p1 (by omega)
  obtain ⟨s, rfl, s0, s1⟩ : ∃ s : Int, d = .int s ∧ 0 < s ∧ s ≤ 1000 := by
    simp only [List.mem_cons, List.not_mem_nil, or_false] at d2
    rcases d2 with rfl | rfl | rfl
    · exact ⟨_, rfl, by decide, by decide⟩
    · exact ⟨_, rfl, by decide, by decide⟩
    · exact ⟨_, rfl, by decide, by decide⟩
  obtain ⟨k, hk⟩ : ∃ k : Nat, 2 + r = (k : Int) := ⟨(2 + r).toNat, by omega⟩
  obtain ⟨⟨q, l, x⟩, ⟨h1, h2, h3⟩, e⟩ := forF_rng (G := G__law_drawn) (N := N__law_drawn) (nio := 1) (gNm 5) [(xExpr (sM1 mAppend 4 (sTup [.one (sBlt bInt [(sBin .Add addD add_ok (sCon (.int 1)) (sCallI 0 0 [(sVar 3)]))]), .one (sBlt bInt [(sBin .Add addD add_ok (sCon (.int 1)) (sCallI 0 0 [(sVar 3)]))])]))), (xIf (tAnds [(tCmp .Gt gtD gt_ok (sVar 5) (sCon (.int 0))), (tCmp .Eq eqSD eqS_ok (sCallI 0 0 [(sCon (.int 4))]) (sCon (.int 0)))]) [(xAsg (gtSub 4 (sNeg (sCon (.int 1)))) (sCallI 1 0 [(sLst [.one (sIx (sVar 4) (sNeg (sCon (.int 2)))), .one (sRev (sIx (sVar 4) (sNeg (sCon (.int 2))))), .one (sTup [.one (sIx (sIx (sVar 4) (sNeg (sCon (.int 2)))) (sCon (.int 0))), .one (sIx (sIx (sVar 4) (sNeg (sCon (.int 1)))) (sCon (.int 1)))])])]))] [])] nD
    (fun t : P3 × List P2 × Slot => jobR t.1 (k : Int) s t.2.1 t.2.2)
    (fun t i => Pok t.1 (m + 2 + 4 * i) ∧ t.2.1.length = i ∧ ∀ j ∈ t.2.1, jin j) k (q2, [], .un) ⟨p2.mono (by omega), rfl, fun j hj => nomatch hj⟩ (by
      rintro ⟨q, l, x⟩ i hi ⟨h1, h2, h3⟩
      dsimp only at h1 h2 h3
      subst h2
      obtain ⟨q', l', g1, g2, g3, g4⟩ := drawn_step q k s (m + 2 + 4 * l.length) l x s0 s1 h1 (by omega) h3 (by omega)
      exact ⟨(q', l', .va (nD l.length)), ⟨g1.mono (by omega), g2, g3⟩, g4⟩)
  dsimp only at h1 h2 h3
  refine ⟨l, q, ?_, ⟨by omega, h3⟩, by omega, h1.mono (by omega)⟩
  have hk2 : k ≤ 1000 := by omega
  simp only [jobR, List.map_nil] at e
  simp [M__law_drawn, B__law_drawn, e1, e2, hk, hk2, e]
end R88
set_option Elab.async false
set_option linter.all false
set_option maxRecDepth 100000
set_option maxHeartbeats 4000000
/-! R23: texts of data, greatest, first place -/
namespace R88
open PySem L2 Ev B88
open J (jb jl)
variable [Tbs]
theorem str_app (a b : Str) : (a ++ b).length = a.length + b.length := by
  show (a.cps ++ b.cps).size = a.cps.size + b.cps.size
  exact Array.size_append
theorem join_le (sep : Str) (hs : sep.length = 2) (c : Nat) : ∀ ts : List Str, (∀ t ∈ ts, t.length ≤ c) → (Str.join sep ts).length ≤ ts.length * (c + 2)
  | [], _ => by
    show (#[] : Array Nat).size ≤ _
    simp
  | [x], h => by
    have := h x List.mem_cons_self
    show x.length ≤ _
    simp
    omega
  | x :: y :: r, h => by
    have ih := join_le sep hs c (y :: r) fun t ht => h t (List.mem_cons_of_mem _ ht)
    have hx := h x List.mem_cons_self
    show (x ++ sep ++ Str.join sep (y :: r)).length ≤ _
    have e : (x :: y :: r).length * (c + 2) = (y :: r).length * (c + 2) + (c + 2) := Nat.succ_mul _ _
    rw [str_app, str_app, hs, e]
    omega
theorem nat_text : ∀ k, k < 24 → (PyData.shown (nD k)).length ≤ 2 ∧ PyData.showable (nD k) = true := by decide +kernel
theorem shownAll_nD : ∀ o : List Nat, PyData.shownAll (o.map nD) = o.map fun k => PyData.shown (nD k)
  | [] => by rw [List.map_nil, PyData.shownAll]; rfl
  | k :: o => by rw [List.map_cons, PyData.shownAll, shownAll_nD o, List.map_cons]
theorem showAll_nD : ∀ o : List Nat, (∀ k ∈ o, k < 24) → PyData.showableAll (o.map nD) = true
  | [], _ => by rw [List.map_nil, PyData.showableAll]
  | k :: o, h => by
    rw [List.map_cons, PyData.showableAll, showAll_nD o fun l hl => h l (List.mem_cons_of_mem _ hl), (nat_text k (h k List.mem_cons_self)).2]
    rfl
theorem repr_ord (o : List Nat) (h : ∀ k ∈ o, k < 24) (l : o.length ≤ 24) : reprD (oD o) = some (.v (.str (PyData.shown (oD o)))) := by
  have s : shp 8 (oD o) = true := by simp [oD]
  have a : PyData.showable (oD o) = true := by
    unfold oD PyData.showable
    exact showAll_nD o h
  have j := join_le ((", " : String) : Str) rfl 2 (PyData.shownAll (o.map nD)) (by
    rw [shownAll_nD]
    intro t ht
    obtain ⟨k, hk, rfl⟩ := List.mem_map.1 ht
    exact (nat_text k (h k hk)).1)
  have b : (PyData.shown (oD o)).length ≤ 1000000 := by
    unfold oD PyData.shown tupleText
    rw [str_app, str_app]
    have e1 : ((if (PyData.shownAll (o.map nD)).length == 1 then ",)" else ")" : String) : Str).length ≤ 2 := by
      split <;> decide +kernel
    have e2 : (("(" : String) : Str).length = 1 := rfl
    rw [shownAll_nD] at *
    rw [List.length_map] at *
    omega
  unfold reprD
  rw [s, a, decide_eq_true b]
  rfl
theorem repr_nD (k : Nat) (h : k < 24) : reprD (nD k) = some (.v (.str (PyData.shown (nD k)))) := by
  obtain ⟨a, b⟩ := nat_text k h
  unfold reprD
  rw [shp_nD, b, decide_eq_true (show (PyData.shown (nD k)).length ≤ 1000000 by omega)]
  rfl
theorem repr_bool (b : Bool) : reprD (.bool b) = some (.v (.str (PyData.shown (.bool b)))) := by
  cases b
  · rfl
  · rfl
theorem maxD_of (ns : List Int) (m : Int) (h1 : m ∈ ns) (h2 : ∀ x ∈ ns, x ≤ m) : maxD [.list (ns.map .int)] = some (.v (.int m)) := by
  cases ns with
  | nil => cases h1
  | cons n ns =>
    have e : lsI (.list ((n :: ns).map .int)) = some (n :: ns) := by
      show (lsD _).bind intsD = _
      exact intsD_int (n :: ns)
    show (match lsI (.list ((n :: ns).map .int)) with
      | some (n :: ns) => some (Rv.v (.int (mxI n ns)))
      | _ => none) = _
    rw [e]
    show some (Rv.v (.int (mxI n ns))) = _
    rw [mxI_of n ns m (by simpa using h1) (h2 n List.mem_cons_self) fun x hx => h2 x (List.mem_cons_of_mem _ hx)]
theorem minD_of (ns : List Int) (m : Int) (h1 : m ∈ ns) (h2 : ∀ x ∈ ns, m ≤ x) : minD [.list (ns.map .int)] = some (.v (.int m)) := by
  cases ns with
  | nil => cases h1
  | cons n ns =>
    have e : lsI (.list ((n :: ns).map .int)) = some (n :: ns) := by
      show (lsD _).bind intsD = _
      exact intsD_int (n :: ns)
    show (match lsI (.list ((n :: ns).map .int)) with
      | some (n :: ns) => some (Rv.v (.int (mnI n ns)))
      | _ => none) = _
    rw [e]
    show some (Rv.v (.int (mnI n ns))) = _
    rw [mnI_of n ns m (by simpa using h1) (h2 n List.mem_cons_self) fun x hx => h2 x (List.mem_cons_of_mem _ hx)]
theorem idx_of (ns : List Int) (m : Int) (i : Nat) (hi : i < ns.length) (h1 : ns[i] = m) (h2 : ∀ j (hj : j < i), ns[j]'(by omega) ≠ m) : idxD (ns.map .int) (.int m) = some i := by
  unfold idxD
  have a : (ns.map PyData.int).all (shp 7) = true := by simp
  rw [a, shp_int]
  show (ns.map PyData.int).findIdx? _ = some i
  rw [List.findIdx?_eq_some_iff_getElem]
  refine ⟨by simpa using hi, ?_, fun j hj => ?_⟩
  · simp [h1]
  · have := h2 j hj
    simp [this]
end R88
set_option Elab.async false
set_option linter.all false
set_option maxRecDepth 100000
set_option maxHeartbeats 4000000
/-! R24: the rule is best; an order is right -/
namespace R88
open PySem L2 Ev B88
open J (jb jl)
variable [Tbs]
theorem L1_mem (js : Js) (p : P2) (h : p ∈ srtP (L1 js)) : (jb js p.2.toNat).1 = p.1 ∧ (jb js p.2.toNat).1 < (jb js p.2.toNat).2 := by
  have h := (List.mergeSort_perm _ leP).subset h
  rw [L1, zip_range] at h
  obtain ⟨q, hq, rfl⟩ := List.mem_map.1 h
  obtain ⟨hq, hc⟩ := List.mem_filter.1 hq
  obtain ⟨k, _, rfl⟩ := List.mem_map.1 hq
  have hc := of_decide_eq_true hc
  dsimp only at hc ⊢
  rw [Int.toNat_natCast]
  exact ⟨rfl, hc⟩
theorem L2_mem (js : Js) (p : P2) (h : p ∈ srtP (L2' js)) : -(jb js p.2.toNat).2 = p.1 ∧ (jb js p.2.toNat).2 ≤ (jb js p.2.toNat).1 := by
  have h := (List.mergeSort_perm _ leP).subset h
  rw [L2', zip_range] at h
  obtain ⟨q, hq, rfl⟩ := List.mem_map.1 h
  obtain ⟨hq, hc⟩ := List.mem_filter.1 hq
  obtain ⟨k, _, rfl⟩ := List.mem_map.1 hq
  have hc := of_decide_eq_true hc
  dsimp only at hc ⊢
  rw [Int.toNat_natCast]
  exact ⟨rfl, hc⟩
theorem srtP_sorted (l : List P2) : (srtP l).Pairwise fun a b => a.1 ≤ b.1 := by
  have : (srtP l).Pairwise fun a b => leP a b = true := by
    refine List.pairwise_mergeSort (fun a b c h1 h2 => ?_) (fun a b => ?_) l
    · have h1 := leP_iff.mp h1
      have h2 := leP_iff.mp h2
      exact leP_iff.mpr (by omega)
    · rw [Bool.or_eq_true, leP_iff, leP_iff]
      omega
  exact this.imp fun h => by have := leP_iff.mp h; omega
theorem jl_rule (js : Js) : jl js (rule js) = (srtP (L1 js)).map (fun p => jb js p.2.toNat) ++ (srtP (L2' js)).map fun p => jb js p.2.toNat := by
  unfold jl rule ruleI
  rw [List.map_map, List.map_map, List.map_append]
  rfl
theorem jl_perm (js : Js) (o : List Nat) (ho : o.Perm (List.range js.length)) : (jl js o).Perm js := by
  have := ho.map (jb js)
  rw [map_jb] at this
  exact this
theorem rule_least (js : Js) : J.Least js (endE js (rule js)) := by
  rw [endE_E]
  refine J.least_of js _ (jl_perm js _ (rule_perm js)) ?_ fun x _ => J.ex_self x
  rw [jl_rule]
  refine J.pw_of _ _ (fun x hx => ?_) ?_ (fun x hx => ?_) ?_
  · obtain ⟨p, hp, rfl⟩ := List.mem_map.1 hx
    exact (L1_mem js p hp).2
  · rw [List.pairwise_map]
    exact (srtP_sorted _).imp_of_mem fun {a b} ha hb h => by rw [(L1_mem js a ha).1, (L1_mem js b hb).1]; exact h
  · obtain ⟨p, hp, rfl⟩ := List.mem_map.1 hx
    exact (L2_mem js p hp).2
  · rw [List.pairwise_map]
    exact (srtP_sorted _).imp_of_mem fun {a b} ha hb h => by
      have := (L2_mem js a ha).1
      have := (L2_mem js b hb).1
      omega
theorem rule_best (js : Js) (o : List Nat) (ho : o.Perm (List.range js.length)) : endE js (rule js) ≤ endE js o := by
  rw [endE_E js o]
  exact (rule_least js).2 _ (jl_perm js o ho)
theorem starts_ints (js : Js) (o : List Nat) : startsL js o = ((List.range (2 * js.length)).map (J.S js o)).map .int := by simp [startsL]
theorem starts_shp (js : Js) (o : List Nat) : (startsL js o).all (shp 7) = true := by simp [startsL]
theorem starts_eqv (js : Js) (o : List Nat) : PyData.eqvAll (startsL js o) (startsL js o) = true := by
  rw [starts_ints, eqvAll_ints]
  simp
theorem sums_loop (js : Js) (o : List Nat) (ho : OrdOf js o) (ln : js.length ≤ 12) (a b c d e : Slot) : ∃ x y : Slot, forF (G := G__law_is_order_right) (N := N__law_is_order_right) (nio := 0) (gNm 8) [(xExpr (sM1 mAppend 7 (sBin .Add addD add_ok (sBlt bSum [(sLc [("job", 9)] (gNm 9) (iSeq (sSl (sVar 2) none (some (sBin .Add addD add_ok (sVar 8) (sCon (.int 1)))))) none (sIx (sIx (sVar 1) (sVar 9)) (sCon (.int 0))))]) (sBlt bSum [(sLc [("job", 9)] (gNm 9) (iSeq (sSl (sVar 2) (some (sVar 8)) none)) none (sIx (sIx (sVar 1) (sVar 9)) (sCon (.int 1))))]))))] ((List.range o.length).map nD) [a, .va (jD js), .va (oD o), b, c, d, e, .ow (.list []), .un, .un] = some (.nx, [a, .va (jD js), .va (oD o), b, c, d, e, .ow (.list ((List.range o.length).map fun k => .int (J.T (jl js o) k))), x, .un]) := by
  have lo := ho.len
  obtain ⟨⟨l, x⟩, h1, e⟩ := forF_rng (G := G__law_is_order_right) (N := N__law_is_order_right) (nio := 0) (gNm 8) [(xExpr (sM1 mAppend 7 (sBin .Add addD add_ok (sBlt bSum [(sLc [("job", 9)] (gNm 9) (iSeq (sSl (sVar 2) none (some (sBin .Add addD add_ok (sVar 8) (sCon (.int 1)))))) none (sIx (sIx (sVar 1) (sVar 9)) (sCon (.int 0))))]) (sBlt bSum [(sLc [("job", 9)] (gNm 9) (iSeq (sSl (sVar 2) (some (sVar 8)) none)) none (sIx (sIx (sVar 1) (sVar 9)) (sCon (.int 1))))]))))] nD
    (fun s : List D × Slot => [a, .va (jD js), .va (oD o), b, c, d, e, .ow (.list s.1), s.2, .un])
    (fun s i => s.1 = (List.range i).map fun k => .int (J.T (jl js o) k)) o.length ([], .un) rfl (by
      rintro ⟨l, x⟩ i hi h1
      dsimp only at h1 ⊢
      obtain ⟨q1, hq1⟩ : ∃ q, q = o.take (i + 1) := ⟨_, rfl⟩
      obtain ⟨q2, hq2⟩ : ∃ q, q = o.drop i := ⟨_, rfl⟩
      have c1 : cutD (o.map nD) none (some ((i : Int) + 1)) = q1.map nD := by
        have := cut_to (o.map nD) (i + 1)
        rw [hq1, List.map_take, ← this]
        rfl
      have c2 : cutD (o.map nD) (some (i : Int)) none = q2.map nD := by rw [hq2, List.map_drop]; exact cut_from _ _
      have e1 := compF_all (G := G__law_is_order_right) (N := N__law_is_order_right) [9] (gNm 9) (sIx (sIx (sVar 1) (sVar 9)) (sCon (.int 0))) nD (fun k => .int (jb js k).1) [a, .va (jD js), .va (oD o), b, c, d, e, .ow (.list l), .va (nD i), .un] q1 fun k hk => by
        refine ⟨_, rfl, ?_, rfl⟩
        have := at_job js k (ho.lt (List.mem_of_mem_take (hq1 ▸ hk)))
        simp [nD, this]
      have e2 := compF_all (G := G__law_is_order_right) (N := N__law_is_order_right) [9] (gNm 9) (sIx (sIx (sVar 1) (sVar 9)) (sCon (.int 1))) nD (fun k => .int (jb js k).2) [a, .va (jD js), .va (oD o), b, c, d, e, .ow (.list l), .va (nD i), .un] q2 fun k hk => by
        refine ⟨_, rfl, ?_, rfl⟩
        have := at_job js k (ho.lt (List.mem_of_mem_drop (hq2 ▸ hk)))
        simp [nD, this]
      have t : (q1.map fun k => (jb js k).1).sum + (q2.map fun k => (jb js k).2).sum = J.T (jl js o) i := by
        rw [hq1, hq2]
        unfold J.T J.A J.B jl
        rw [← List.map_take, ← List.map_drop, List.map_map, List.map_map]
        rfl
      have l1 : q1.length ≤ 100000 := by rw [hq1, List.length_take]; omega
      have l2 : q2.length ≤ 100000 := by rw [hq2, List.length_drop]; omega
      have l3 : l.length ≤ 100000 := by rw [h1]; simp; omega
      have l4 : l.length ≤ 99999 := by rw [h1]; simp; omega
      refine ⟨((List.range (i + 1)).map fun k => .int (J.T (jl js o) k), .va (nD i)), rfl, _, rfl, ?_⟩
      rw [List.range_succ, List.map_append, ← h1, List.map_singleton, ← t]
      simp only [nD] at e1 e2
      simp [nD, c1, c2, e1, e2, l1, l2, l3, l4])
  exact ⟨x, .un, by rw [e]; dsimp only at h1 ⊢; rw [h1]⟩
theorem run_order_right (js : Js) (h : Jok js) (n0 : 1 ≤ js.length) (o : List Nat) (ho : OrdOf js o) : M__law_is_order_right.run [shopD js, jD js, oD o, .int (endE js (rule js))] = some (.v (.bool true), .none) := by
  have ln := h.len
  have lo := ho.len
  have ne : o ≠ [] := fun z => by rw [z] at lo; simp at lo; omega
  obtain ⟨t1, t2, t3⟩ := turn_ok js h o (fun k hk => ho.lt hk) ne
  have tm := J.T_max (jl js o) (by unfold jl; simpa using ne) (J.jl_ok h ho)
  rw [J.jl_len] at tm
  obtain ⟨x, y, lp⟩ := sums_loop js o ho ln (.va (shopD js)) (.va (.int (endE js (rule js)))) (.va (.int (endE js o))) (.va (.tuple (startsL js o))) (.va (nD (turn js o)))
  have mp : ((List.range o.length).map fun k => PyData.int (J.T (jl js o) k)) = ((List.range o.length).map fun k => J.T (jl js o) k).map .int := by rw [List.map_map]; rfl
  have mx := maxD_of ((List.range o.length).map fun k => J.T (jl js o) k) (endE js o) (by
    rw [endE_E, ← t2]
    exact List.mem_map.2 ⟨_, List.mem_range.2 t1, rfl⟩) fun v hv => by
      obtain ⟨k, hk, rfl⟩ := List.mem_map.1 hv
      rw [endE_E]
      exact tm.1 k (List.mem_range.1 hk)
  have ix := idx_of ((List.range o.length).map fun k => J.T (jl js o) k) (endE js o) (turn js o) (by simpa using t1) (by simp [t2, endE_E]) fun j hj => by
    simp
    rw [endE_E]
    exact t3 j hj
  rw [← mp] at mx ix
  have q1 := run_law_end js o fun k hk => ho.lt hk
  have q2 := run_law_starts js h o ho
  have q3 := run_flow_end js h o ho.perm
  have q4 := run_is_best_sequence js h o ho.perm
  have q5 := run_is_plan js h o ho
  have q6 := run_end_of js h n0 o ho
  have q7 := run_pressed js h n0 o ho
  have q8 := run_turn_of js h o ho.perm ne
  have best := rule_best js o ho.perm
  have nb : ¬ (endE js o < endE js (rule js)) := by omega
  have rt := repr_nD (turn js o) (by omega)
  have l0 : o.length ≤ 1000 := by omega
  have sh := starts_shp js o
  have sq := starts_eqv js o
  simp only [nD] at q8 lp rt
  simp [-reprD, -maxD, M__law_is_order_right, B__law_is_order_right, q1, q2, q3, q4, q5, q6, q7, q8, nb, repr_bool, lp, l0, mx, ix, rt, sh, sq]
end R88
set_option Elab.async false
set_option linter.all false
set_option maxRecDepth 100000
set_option maxHeartbeats 4000000
/-! R25: the law's body, up to its orders -/
namespace R88
open PySem L2 Ev B88
open J (jb jl)
variable [Tbs]
section
variable {G : Gx} {N : List Str} {nio : Nat}
theorem exB_nx {s : SS G N nio} {r : List (SS G N nio)} {ρ ρ' : Rho} {o : Option (Out × Rho)} (h : s.ex ρ = some (.nx, ρ')) (k : exB r ρ' = o) : exB (s :: r) ρ = o := by
  rw [exB, h]
  exact k
end
theorem run_flow_shop (js : Js) (h : Jok js) (n0 : 1 ≤ js.length) : M_flow_shop.run [jD js] = some (.v (shopD js), .none) := by
  have ln := h.len
  have e := compF_all (G := G_flow_shop) (N := N_flow_shop) [1, 2] (gTp [(gNm 1), (gNm 2)]) (sTup [.one (sTup [.one (sCon (.int 0)), .one (sVar 1)]), .one (sTup [.one (sCon (.int 1)), .one (sVar 2)])]) pD jobD [.va (jD js), .un, .un] js fun j hj => by
    refine ⟨_, rfl, ?_, rfl⟩
    simp [pD, jobD]
  have q := run_shop_of_jobs js h n0
  have l : js.length ≤ 100000 := by omega
  simp only [jD, jobsD] at e q
  simp [M_flow_shop, B_flow_shop, run_look_at_flows js h, e, q, l]
theorem st0 (p : P3) (m : Nat) (hp : Pok p m) (hm : m ≤ 50000) : ∃ (js : Js) (q : P3), Jok js ∧ 2 ≤ js.length ∧ Pok q (m + 50) ∧ ((xSet 1 (sCallI 0 0 [(sCon (.int 12))])) : SS G__law_right N__law_right 1).ex [.ow (pD3 p), .un, .un, .un, .un, .un, .un, .un, .un, .un, .un, .un, .un, .un, .un, .un, .un, .un, .un, .un, .un, .un, .un, .un, .un] = some (.nx, [.ow (pD3 q), .va (jD js), .un, .un, .un, .un, .un, .un, .un, .un, .un, .un, .un, .un, .un, .un, .un, .un, .un, .un, .un, .un, .un, .un, .un]) := by
  obtain ⟨js, q, e, h1, h2, h3⟩ := run_law_drawn p m hp hm
  refine ⟨js, q, h1, h2, h3, ?_⟩
  simp [e]
theorem st1 (q : P3) (js : Js) (h : Jok js) : ((xAsg (gtTp [(gtOf (gNm 2)), (gtOf (gNm 3))]) (sTup [.one (sBlt bLen [(sVar 1)]), .one (sCall 1 [(sVar 1), (sCall 2 [(sVar 1)])])])) : SS G__law_right N__law_right 1).ex [.ow (pD3 q), .va (jD js), .un, .un, .un, .un, .un, .un, .un, .un, .un, .un, .un, .un, .un, .un, .un, .un, .un, .un, .un, .un, .un, .un, .un] = some (.nx, [.ow (pD3 q), .va (jD js), .va (.int js.length), .va (.int (endE js (rule js))), .un, .un, .un, .un, .un, .un, .un, .un, .un, .un, .un, .un, .un, .un, .un, .un, .un, .un, .un, .un, .un]) := by
  have e1 := run_law_rule js h
  have e2 := run_law_end js (rule js) (ord_lt (rule_perm js))
  simp [e1, e2]
theorem st2 (q : P3) (js : Js) (h : Jok js) (n0 : 1 ≤ js.length) : ((xAsg (gtTp [(gtOf (gNm 4)), (gtOf (gNm 5))]) (sTup [.one (sCall 3 [(sCon (.int 2)), (sBlt bTuple [(sLc [("one", 23), ("other", 24)] (gTp [(gNm 23), (gNm 24)]) (iSeq (sVar 1)) none (sTup [.one (sTup [.one (sCon (.int 0)), .one (sVar 23)]), .one (sTup [.one (sCon (.int 1)), .one (sVar 24)])]))])]), .one (sCall 4 [(sVar 1)])])) : SS G__law_right N__law_right 1).ex [.ow (pD3 q), .va (jD js), .va (.int js.length), .va (.int (endE js (rule js))), .un, .un, .un, .un, .un, .un, .un, .un, .un, .un, .un, .un, .un, .un, .un, .un, .un, .un, .un, .un, .un] = some (.nx, [.ow (pD3 q), .va (jD js), .va (.int js.length), .va (.int (endE js (rule js))), .va (shopD js), .va (oD (rule js)), .un, .un, .un, .un, .un, .un, .un, .un, .un, .un, .un, .un, .un, .un, .un, .un, .un, .un, .un]) := by
  have ln := h.len
  have e := compF_all (G := G__law_right) (N := N__law_right) [23, 24] (gTp [(gNm 23), (gNm 24)]) (sTup [.one (sTup [.one (sCon (.int 0)), .one (sVar 23)]), .one (sTup [.one (sCon (.int 1)), .one (sVar 24)])]) pD jobD [.ow (pD3 q), .va (jD js), .va (.int js.length), .va (.int (endE js (rule js))), .un, .un, .un, .un, .un, .un, .un, .un, .un, .un, .un, .un, .un, .un, .un, .un, .un, .un, .un, .un, .un] js fun j hj => by
    refine ⟨_, rfl, ?_, rfl⟩
    simp [pD, jobD]
  have e1 := run_shop_of_jobs js h n0
  have e2 := run_best_sequence js h
  have l : js.length ≤ 100000 := by omega
  simp only [jD, jobsD] at e e1 e2
  simp [e, e1, e2, l]
theorem st3 (q : P3) (js : Js) (h : Jok js) (n0 : 1 ≤ js.length) (x2 x3 x4 x5 : Slot) : ((xSet 6 (sCall 5 [(sVar 1)])) : SS G__law_right N__law_right 1).ex [.ow (pD3 q), .va (jD js), x2, x3, x4, x5, .un, .un, .un, .un, .un, .un, .un, .un, .un, .un, .un, .un, .un, .un, .un, .un, .un, .un, .un] = some (.nx, [.ow (pD3 q), .va (jD js), x2, x3, x4, x5, .va (shopD js), .un, .un, .un, .un, .un, .un, .un, .un, .un, .un, .un, .un, .un, .un, .un, .un, .un, .un]) := by
  have e1 := run_flow_shop js h n0
  simp [e1]
theorem st4 (q : P3) (js : Js) (h : Jok js) (x1 x2 x3 x5 : Slot) : ((xIf (tOrs [(tCmp .NotEq neSD neS_ok (sBlt bSorted [(sIx (sVar 6) (sCon (.int 1)))]) (sBlt bSorted [(sIx (sVar 4) (sCon (.int 1)))])), (tCmp .NotEq neSD neS_ok (sCall 6 [(sVar 6), (sCon (.int 1))]) (sCall 6 [(sVar 4), (sCon (.int 1))]))]) [(xRet (sCon (.bool false)))] []) : SS G__law_right N__law_right 1).ex [.ow (pD3 q), x1, x2, x3, .va (shopD js), x5, .va (shopD js), .un, .un, .un, .un, .un, .un, .un, .un, .un, .un, .un, .un, .un, .un, .un, .un, .un, .un] = some (.nx, [.ow (pD3 q), x1, x2, x3, .va (shopD js), x5, .va (shopD js), .un, .un, .un, .un, .un, .un, .un, .un, .un, .un, .un, .un, .un, .un, .un, .un, .un, .un]) := by
  have s1 : ixD (shopD js) (.int 1) = some (.tuple (worksL js (2 * js.length))) := by simp [shopD]
  have s2 : sortedD (.tuple (worksL js (2 * js.length))) = some (.fr (.list ((srtP ((List.range (2 * js.length)).map (wk js))).map pD))) := by
    rw [← sorted_tuple, List.map_map]
    rfl
  have e1 := run_load_of js h 1 (by decide)
  simp at e1
  simp [-ixD, -sortedD, s1, s2, e1]
theorem st5 (q : P3) (js : Js) (h : Jok js) (x2 x4 x6 : Slot) : ((xIf (tOrs [(tCmp .NotEq neSD neS_ok (sCall 7 [(sVar 1)]) (sVar 3)), (tCmp .NotEq neSD neS_ok (sBlt bRepr [(sVar 5)]) (sBlt bRepr [(sCall 2 [(sVar 1)])]))]) [(xRet (sCon (.bool false)))] []) : SS G__law_right N__law_right 1).ex [.ow (pD3 q), .va (jD js), x2, .va (.int (endE js (rule js))), x4, .va (oD (rule js)), x6, .un, .un, .un, .un, .un, .un, .un, .un, .un, .un, .un, .un, .un, .un, .un, .un, .un, .un] = some (.nx, [.ow (pD3 q), .va (jD js), x2, .va (.int (endE js (rule js))), x4, .va (oD (rule js)), x6, .un, .un, .un, .un, .un, .un, .un, .un, .un, .un, .un, .un, .un, .un, .un, .un, .un, .un]) := by
  have ln := h.len
  have e1 := run_least_flow_end js h
  have e2 := run_law_rule js h
  have rl := (rule_perm js).length_eq
  rw [List.length_range] at rl
  have e3 := repr_ord (rule js) (fun k hk => by have := ord_lt (rule_perm js) k hk; omega) (by omega)
  simp [-reprD, e1, e2, e3]
theorem st6 (q : P3) (o : List Nat) (x1 x2 x3 x4 x6 : Slot) : ((xSet 7 (sLst [.one (sVar 5), .one (sRev (sVar 5))])) : SS G__law_right N__law_right 1).ex [.ow (pD3 q), x1, x2, x3, x4, .va (oD o), x6, .un, .un, .un, .un, .un, .un, .un, .un, .un, .un, .un, .un, .un, .un, .un, .un, .un, .un] = some (.nx, [.ow (pD3 q), x1, x2, x3, x4, .va (oD o), x6, .ow (.list ([o, o.reverse].map oD)), .un, .un, .un, .un, .un, .un, .un, .un, .un, .un, .un, .un, .un, .un, .un, .un, .un]) := by
  simp
theorem st7 (q : P3) (m : Nat) (hq : Pok q m) (hm : m ≤ 60000) (n : Nat) (hn : n ≤ 12) (o1 o2 : List Nat) (h1 : J.Ord n o1) (h2 : J.Ord n o2) (x1 x3 x4 x5 x6 : Slot) : ∃ (q' : P3) (os : List (List Nat)) (x8 : Slot), Pok q' (m + 48) ∧ (∀ o ∈ os, J.Ord n o) ∧ os.length = 6 ∧
    ((xFor (gNm 8) (iRange [(sCon (.int 4))]) [(xExpr (sM1 mAppend 7 (sBlt bTuple [(sLc [("at", 9)] (gNm 9) (iSeq (sCallI 8 0 [(sLr (sVar 2)), (sVar 2)])) none (sBlt bInt [(sVar 9)]))])))]) : SS G__law_right N__law_right 1).ex [.ow (pD3 q), x1, .va (.int (n : Nat)), x3, x4, x5, x6, .ow (.list ([o1, o2].map oD)), .un, .un, .un, .un, .un, .un, .un, .un, .un, .un, .un, .un, .un, .un, .un, .un, .un] = some (.nx, [.ow (pD3 q'), x1, .va (.int (n : Nat)), x3, x4, x5, x6, .ow (.list (os.map oD)), x8, .un, .un, .un, .un, .un, .un, .un, .un, .un, .un, .un, .un, .un, .un, .un, .un]) := by
  obtain ⟨⟨q', os, x8⟩, ⟨g1, g2, g3⟩, e⟩ := forF_rng (G := G__law_right) (N := N__law_right) (nio := 1) (gNm 8) [(xExpr (sM1 mAppend 7 (sBlt bTuple [(sLc [("at", 9)] (gNm 9) (iSeq (sCallI 8 0 [(sLr (sVar 2)), (sVar 2)])) none (sBlt bInt [(sVar 9)]))])))] nD
    (fun s : P3 × List (List Nat) × Slot => [.ow (pD3 s.1), x1, .va (.int (n : Nat)), x3, x4, x5, x6, .ow (.list (s.2.1.map oD)), s.2.2, .un, .un, .un, .un, .un, .un, .un, .un, .un, .un, .un, .un, .un, .un, .un, .un])
    (fun s i => Pok s.1 (m + 12 * i) ∧ (∀ o ∈ s.2.1, J.Ord n o) ∧ s.2.1.length = i + 2) 4 (q, [o1, o2], .un) ⟨hq, by
      intro o ho
      simp at ho
      rcases ho with rfl | rfl
      · exact h1
      · exact h2, rfl⟩ (by
      rintro ⟨q, os, x⟩ i hi ⟨g1, g2, g3⟩
      dsimp only at g1 g2 g3
      obtain ⟨o, q', e, p, pq⟩ := run_law_some q (m + 12 * i) n (by omega) g1 (by omega)
      have c := compF_all (G := G__law_right) (N := N__law_right) [9] (gNm 9) (sBlt bInt [(sVar 9)]) nD nD [.ow (pD3 q'), x1, .va (.int (n : Nat)), x3, x4, x5, x6, .ow (.list (os.map oD)), .va (nD i), .un, .un, .un, .un, .un, .un, .un, .un, .un, .un, .un, .un, .un, .un, .un, .un] o fun k hk => by
        refine ⟨_, rfl, ?_, rfl⟩
        simp [nD]
      have ol := p.length_eq
      rw [List.length_range] at ol
      have l1 : os.length ≤ 100000 := by omega
      have l2 : os.length ≤ 99999 := by omega
      have l3 : o.length ≤ 100000 := by omega
      have li : (n : Int) ≤ 1000000 := by omega
      have rd : rangeD 0 n = (List.range n).map nD := rangeD_nat n
      refine ⟨(q', os ++ [o], .va (nD i)), ⟨pq.mono (by omega), ?_, ?_⟩, _, rfl, ?_⟩
      · intro o' ho
        rcases List.mem_append.1 ho with ho | ho
        · exact g2 o' ho
        · rw [List.mem_singleton.1 ho]; exact ⟨p⟩
      · dsimp only; rw [List.length_append]; simp; omega
      · simp only [nD] at c
        have rd' := rd
        simp [nD, rd, e, c, l1, l2, l3, li])
  refine ⟨q', os, x8, g1.mono (by omega), g2, g3, ?_⟩
  dsimp only at e
  simp only [List.map_cons, List.map_nil] at e
  simp [rngP_4, e]
theorem st8 (q : P3) (js : Js) (h : Jok js) (n0 : 1 ≤ js.length) (os : List (List Nat)) (hos : ∀ o ∈ os, OrdOf js o) (ol : os.length = 6) (x2 x5 x6 x8 : Slot) :
    ((xIf (tNot (tVal (sBlt bAll [(sLc [("order", 22)] (gNm 22) (iSeq (sVar 7)) none (sCall 9 [(sVar 4), (sVar 1), (sVar 22), (sVar 3)]))]))) [(xRet (sCon (.bool false)))] []) : SS G__law_right N__law_right 1).ex [.ow (pD3 q), .va (jD js), x2, .va (.int (endE js (rule js))), .va (shopD js), x5, x6, .ow (.list (os.map oD)), x8, .un, .un, .un, .un, .un, .un, .un, .un, .un, .un, .un, .un, .un, .un, .un, .un] = some (.nx, [.ow (pD3 q), .va (jD js), x2, .va (.int (endE js (rule js))), .va (shopD js), x5, x6, .va (.list (os.map oD)), x8, .un, .un, .un, .un, .un, .un, .un, .un, .un, .un, .un, .un, .un, .un, .un, .un]) := by
  have e := compF_all (G := G__law_right) (N := N__law_right) [22] (gNm 22) (sCall 9 [(sVar 4), (sVar 1), (sVar 22), (sVar 3)]) oD (fun _ => .bool true) [.ow (pD3 q), .va (jD js), x2, .va (.int (endE js (rule js))), .va (shopD js), x5, x6, .va (.list (os.map oD)), x8, .un, .un, .un, .un, .un, .un, .un, .un, .un, .un, .un, .un, .un, .un, .un, .un] os fun o ho => by
    refine ⟨_, rfl, ?_, rfl⟩
    have e := run_order_right js h n0 o (hos o ho)
    simp [e]
  have l1 : os.length ≤ 100000 := by omega
  simp [e, l1]
end R88
set_option Elab.async false
set_option linter.all false
set_option maxRecDepth 100000
set_option maxHeartbeats 4000000
/-! R26: the law's body, from the exchange on -/
namespace R88
open PySem L2 Ev B88
open J (jb jl)
variable [Tbs]
theorem st9 (q : P3) (m : Nat) (hq : Pok q m) (hm : m ≤ 60000) (n : Nat) (n2 : 2 ≤ n) (hn : n ≤ 12) (x1 x3 x4 x5 x6 x7 x8 : Slot) : ∃ (k : Nat) (q' : P3), k + 1 < n ∧ Pok q' (m + 1) ∧
    ((xSet 9 (sBlt bInt [(sCallI 10 0 [(sBin .Sub subD sub_ok (sVar 2) (sCon (.int 1)))])])) : SS G__law_right N__law_right 1).ex [.ow (pD3 q), x1, .va (.int (n : Nat)), x3, x4, x5, x6, x7, x8, .un, .un, .un, .un, .un, .un, .un, .un, .un, .un, .un, .un, .un, .un, .un, .un] = some (.nx, [.ow (pD3 q'), x1, .va (.int (n : Nat)), x3, x4, x5, x6, x7, x8, .va (.int (k : Nat)), .un, .un, .un, .un, .un, .un, .un, .un, .un, .un, .un, .un, .un, .un, .un]) := by
  obtain ⟨r, q', e, r0, r1, pq⟩ := run_take q ((n : Int) - 1) m (by omega) (by omega) hq (by omega)
  obtain ⟨k, rfl⟩ : ∃ k : Nat, r = (k : Int) := ⟨r.toNat, by omega⟩
  refine ⟨k, q', by omega, pq, ?_⟩
  simp [e]
def nearL (o : List Nat) (k : Nat) : List Nat := o.take k ++ [o.getD (k + 1) 0, o.getD k 0] ++ o.drop (k + 2)
theorem near_perm (o : List Nat) (k : Nat) (h : k + 1 < o.length) : (nearL o k).Perm o := by
  unfold nearL
  have e : o = o.take k ++ ([o.getD k 0, o.getD (k + 1) 0] ++ o.drop (k + 2)) := by
    conv => lhs; rw [← List.take_append_drop k o]
    congr 1
    rw [List.drop_eq_getElem_cons (show k < o.length by omega), List.drop_eq_getElem_cons h]
    rw [List.getD_eq_getElem?_getD, List.getD_eq_getElem?_getD, List.getElem?_eq_getElem h, List.getElem?_eq_getElem (show k < o.length by omega)]
    rfl
  conv => rhs; rw [e]
  rw [List.append_assoc]
  exact ((List.Perm.swap _ _ _).append_right _).append_left _
theorem cut_from2 (xs : List D) (k : Nat) : cutD xs (some ((k : Int) + 2)) none = xs.drop (k + 2) := cut_from xs (k + 2)
theorem cut_from1 (xs : List D) (k : Nat) : cutD xs (some ((k : Int) + 1)) none = xs.drop (k + 1) := cut_from xs (k + 1)
theorem at_ord (o : List Nat) (k : Nat) (h : k < o.length) : atI (o.map nD) (k : Int) = some (nD (o.getD k 0)) := atI_enc nD o k 0 h
theorem st10 (q : P3) (o : List Nat) (k : Nat) (h : k + 1 < o.length) (ol : o.length ≤ 12) (x1 x2 x3 x4 x6 x7 x8 : Slot) :
    ((xSet 10 (sBin .Add addD add_ok (sBin .Add addD add_ok (sSl (sVar 5) none (some (sVar 9))) (sTup [.one (sIx (sVar 5) (sBin .Add addD add_ok (sVar 9) (sCon (.int 1)))), .one (sIx (sVar 5) (sVar 9))])) (sSl (sVar 5) (some (sBin .Add addD add_ok (sVar 9) (sCon (.int 2)))) none))) : SS G__law_right N__law_right 1).ex [.ow (pD3 q), x1, x2, x3, x4, .va (oD o), x6, x7, x8, .va (.int (k : Nat)), .un, .un, .un, .un, .un, .un, .un, .un, .un, .un, .un, .un, .un, .un, .un] = some (.nx, [.ow (pD3 q), x1, x2, x3, x4, .va (oD o), x6, x7, x8, .va (.int (k : Nat)), .va (oD (nearL o k)), .un, .un, .un, .un, .un, .un, .un, .un, .un, .un, .un, .un, .un, .un]) := by
  have a0 := at_ord o k (by omega)
  have a1 := at_ord o (k + 1) h
  simp only [Int.natCast_add, Int.cast_ofNat_Int] at a1
  have c0 := cut_to (o.map nD) k
  have c1 := cut_from2 (o.map nD) k
  have l1 : min k o.length + 1 + 1 ≤ 100000 := by omega
  have l2 : min k o.length + (1 + 1) ≤ 100000 := by omega
  have l3 : min k o.length + 2 ≤ 100000 := by omega
  have l4 : min k o.length + (1 + 1 + (o.length - (k + 2))) ≤ 100000 := by omega
  have l5 : min k o.length + 2 + (o.length - (k + 2)) ≤ 100000 := by omega
  have l6 : min k o.length + (o.length - (k + 2) + 1 + 1) ≤ 100000 := by omega
  have l7 : min k o.length ≤ 99998 := by omega
  have l8 : min k o.length + (o.length - (k + 2) + 2) ≤ 100000 := by omega
  have l9 : min k o.length + (2 + (o.length - (k + 2))) ≤ 100000 := by omega
  simp [a0, a1, c0, c1, nearL, l1, l2, l3, l4, l5, l6, l7, l8, l9]
theorem st11 (q : P3) (js : Js) (h : Jok js) (o : List Nat) (ho : o.Perm (List.range js.length)) (x2 x4 x5 x6 x7 x8 x9 : Slot) :
    ((xIf (tCmp .Lt ltD lt_ok (sCall 11 [(sVar 1), (sVar 10)]) (sVar 3)) [(xRet (sCon (.bool false)))] []) : SS G__law_right N__law_right 1).ex [.ow (pD3 q), .va (jD js), x2, .va (.int (endE js (rule js))), x4, x5, x6, x7, x8, x9, .va (oD o), .un, .un, .un, .un, .un, .un, .un, .un, .un, .un, .un, .un, .un, .un] = some (.nx, [.ow (pD3 q), .va (jD js), x2, .va (.int (endE js (rule js))), x4, x5, x6, x7, x8, x9, .va (oD o), .un, .un, .un, .un, .un, .un, .un, .un, .un, .un, .un, .un, .un, .un]) := by
  have e := run_flow_end js h o ho
  have b := rule_best js o ho
  have nb : ¬ (endE js o < endE js (rule js)) := by omega
  simp [e, nb]
theorem st12 (q : P3) (js : Js) (h : Jok js) (x1 x2 x3 x5 x6 x7 x8 x9 x10 : Slot) :
    ((xSetLc 11 [("hand", 20)] (gNm 20) (iRange [(sCon (.int 2))]) none (sCall 6 [(sVar 4), (sVar 20)])) : SS G__law_right N__law_right 1).ex [.ow (pD3 q), x1, x2, x3, .va (shopD js), x5, x6, x7, x8, x9, x10, .un, .un, .un, .un, .un, .un, .un, .un, .un, .un, .un, .un, .un, .un] = some (.nx, [.ow (pD3 q), x1, x2, x3, .va (shopD js), x5, x6, x7, x8, x9, x10, .ow (.list [.int (J.A js), .int (J.B js)]), .un, .un, .un, .un, .un, .un, .un, .un, .un, .un, .un, .un, .un]) := by
  have e := compF_all (G := G__law_right) (N := N__law_right) [20] (gNm 20) (sCall 6 [(sVar 4), (sVar 20)]) nD (fun hd => .int (((onL js.length hd).map fun w => (wk js w).2).sum)) [.ow (pD3 q), x1, x2, x3, .va (shopD js), x5, x6, x7, x8, x9, x10, .un, .un, .un, .un, .un, .un, .un, .un, .un, .un, .un, .un, .un, .un] (List.range 2) fun hd hh => by
    refine ⟨_, rfl, ?_, rfl⟩
    have e := run_load_of js h hd (List.mem_range.1 hh)
    simp [nD, e]
  have ff : ((List.range 2).map fun hd => PyData.int (((onL js.length hd).map fun w => (wk js w).2).sum)) = [.int (J.A js), .int (J.B js)] := by
    show [PyData.int _, PyData.int _] = _
    rw [load0, load1]
  rw [ff] at e
  have e' := e
  simp only [show (List.range 2).map nD = [nD 0, nD 1] from rfl] at e
  have r2 := rngP_2 [.ow (pD3 q), x1, x2, x3, .va (shopD js), x5, x6, x7, x8, x9, x10, .un, .un, .un, .un, .un, .un, .un, .un, .un, .un, .un, .un, .un, .un]
  simp only [show (List.range 2).map nD = [nD 0, nD 1] from rfl] at r2
  simp [r2, e]
theorem min_ex (ns : List Int) (h : ns ≠ []) : ∃ m, minD [.list (ns.map .int)] = some (.v (.int m)) ∧ m ∈ ns ∧ ∀ x ∈ ns, m ≤ x := by
  cases ns with
  | nil => exact absurd rfl h
  | cons n ns =>
    have m0 := mnI_mem ns n
    have m1 := mnI_le ns n
    have mm : mnI n ns ∈ n :: ns := by rcases m0 with z | z <;> simp [z]
    have ml : ∀ x ∈ n :: ns, mnI n ns ≤ x := fun x hx => by
      rcases List.mem_cons.1 hx with rfl | hx
      · exact m1.1
      · exact m1.2 x hx
    exact ⟨_, minD_of (n :: ns) _ mm ml, mm, ml⟩
theorem max_ex (ns : List Int) (h : ns ≠ []) : ∃ m, maxD [.list (ns.map .int)] = some (.v (.int m)) ∧ m ∈ ns ∧ ∀ x ∈ ns, x ≤ m := by
  cases ns with
  | nil => exact absurd rfl h
  | cons n ns =>
    have m0 := mxI_mem ns n
    have m1 := mxI_ge ns n
    have mm : mxI n ns ∈ n :: ns := by rcases m0 with z | z <;> simp [z]
    have ml : ∀ x ∈ n :: ns, x ≤ mxI n ns := fun x hx => by
      rcases List.mem_cons.1 hx with rfl | hx
      · exact m1.1
      · exact m1.2 x hx
    exact ⟨_, maxD_of (n :: ns) _ mm ml, mm, ml⟩
theorem jok_ok {js : Js} (h : Jok js) : J.Ok js := fun j hj => by have := h.rng j hj; omega
theorem st13 (q : P3) (js : Js) (h : Jok js) (n0 : 1 ≤ js.length) (x2 x3 x4 x5 x6 x7 x8 x9 x10 : Slot) : ∃ low : Int, low ≤ endE js (rule js) ∧
    ((xSet 12 (sBlt bMax [(sBin .Add addD add_ok (sIx (sVar 11) (sCon (.int 0))) (sBlt bMin [(sLc [("job", 15)] (gNm 15) (iSeq (sVar 1)) none (sIx (sVar 15) (sCon (.int 1))))])), (sBin .Add addD add_ok (sIx (sVar 11) (sCon (.int 1))) (sBlt bMin [(sLc [("job", 15)] (gNm 15) (iSeq (sVar 1)) none (sIx (sVar 15) (sCon (.int 0))))]))])) : SS G__law_right N__law_right 1).ex [.ow (pD3 q), .va (jD js), x2, x3, x4, x5, x6, x7, x8, x9, x10, .ow (.list [.int (J.A js), .int (J.B js)]), .un, .un, .un, .un, .un, .un, .un, .un, .un, .un, .un, .un, .un] = some (.nx, [.ow (pD3 q), .va (jD js), x2, x3, x4, x5, x6, x7, x8, x9, x10, .ow (.list [.int (J.A js), .int (J.B js)]), .va (.int low), .un, .un, .un, .un, .un, .un, .un, .un, .un, .un, .un, .un]) := by
  have ln := h.len
  have ne : js ≠ [] := fun z => by rw [z] at n0; simp at n0
  have e1 := compF_all (G := G__law_right) (N := N__law_right) [15] (gNm 15) (sIx (sVar 15) (sCon (.int 1))) pD (fun j => .int j.2) [.ow (pD3 q), .va (jD js), x2, x3, x4, x5, x6, x7, x8, x9, x10, .ow (.list [.int (J.A js), .int (J.B js)]), .un, .un, .un, .un, .un, .un, .un, .un, .un, .un, .un, .un, .un] js fun j hj => by
    refine ⟨_, rfl, ?_, rfl⟩
    simp [pD]
  have e2 := compF_all (G := G__law_right) (N := N__law_right) [15] (gNm 15) (sIx (sVar 15) (sCon (.int 0))) pD (fun j => .int j.1) [.ow (pD3 q), .va (jD js), x2, x3, x4, x5, x6, x7, x8, x9, x10, .ow (.list [.int (J.A js), .int (J.B js)]), .un, .un, .un, .un, .un, .un, .un, .un, .un, .un, .un, .un, .un] js fun j hj => by
    refine ⟨_, rfl, ?_, rfl⟩
    simp [pD]
  obtain ⟨mb, b1, b2, b3⟩ := min_ex (js.map Prod.snd) (by simpa using ne)
  obtain ⟨ma, a1, a2, a3⟩ := min_ex (js.map Prod.fst) (by simpa using ne)
  rw [List.map_map] at a1 b1
  have lb := J.least_b js _ mb ne (rule_least js) fun j hj => b3 _ (List.mem_map.2 ⟨j, hj, rfl⟩)
  have la := J.least_a js _ ma ne (rule_least js) fun j hj => a3 _ (List.mem_map.2 ⟨j, hj, rfl⟩)
  have l : js.length ≤ 100000 := by omega
  refine ⟨max (J.A js + mb) (J.B js + ma), by omega, ?_⟩
  have a1' : minD [.list (js.map fun j => .int j.1)] = some (.v (.int ma)) := a1
  have b1' : minD [.list (js.map fun j => .int j.2)] = some (.v (.int mb)) := b1
  simp only [jD] at e1 e2
  simp [-minD, e1, e2, a1', b1', l]
theorem sum_jobs (js : Js) (h : Jok js) (low : Int) (hl : low ≤ endE js (rule js)) : ∃ mx : Int, maxD [.list (.int low :: js.map fun j => .int (j.1 + j.2))] = some (.v (.int mx)) ∧ mx ≤ endE js (rule js) := by
  obtain ⟨mx, e, m1, m2⟩ := max_ex (low :: js.map fun j => j.1 + j.2) (by simp)
  rw [List.map_cons, List.map_map] at e
  refine ⟨mx, e, ?_⟩
  rcases List.mem_cons.1 m1 with rfl | m1
  · exact hl
  · obtain ⟨j, hj, rfl⟩ := List.mem_map.1 m1
    exact J.least_job js _ (jok_ok h) (rule_least js) j hj
theorem st14 (q : P3) (js : Js) (h : Jok js) (low : Int) (hl : low ≤ endE js (rule js)) (x2 x4 x5 x6 x7 x8 x9 x10 : Slot) :
    ((xIf (tNot (tChain2 .LtE .LtE leD leD le_ok le_ok (sBlt bMax [(sBin .Add addD add_ok (sLst [.one (sVar 12)]) (sLc [("job", 15)] (gNm 15) (iSeq (sVar 1)) none (sBlt bSum [(sVar 15)])))]) (sVar 3) (sBlt bSum [(sVar 11)]))) [(xRet (sCon (.bool false)))] []) : SS G__law_right N__law_right 1).ex [.ow (pD3 q), .va (jD js), x2, .va (.int (endE js (rule js))), x4, x5, x6, x7, x8, x9, x10, .ow (.list [.int (J.A js), .int (J.B js)]), .va (.int low), .un, .un, .un, .un, .un, .un, .un, .un, .un, .un, .un, .un] = some (.nx, [.ow (pD3 q), .va (jD js), x2, .va (.int (endE js (rule js))), x4, x5, x6, x7, x8, x9, x10, .ow (.list [.int (J.A js), .int (J.B js)]), .va (.int low), .un, .un, .un, .un, .un, .un, .un, .un, .un, .un, .un, .un]) := by
  have ln := h.len
  have e1 := compF_all (G := G__law_right) (N := N__law_right) [15] (gNm 15) (sBlt bSum [(sVar 15)]) pD (fun j => .int (j.1 + j.2)) [.ow (pD3 q), .va (jD js), x2, .va (.int (endE js (rule js))), x4, x5, x6, x7, x8, x9, x10, .ow (.list [.int (J.A js), .int (J.B js)]), .va (.int low), .un, .un, .un, .un, .un, .un, .un, .un, .un, .un, .un, .un] js fun j hj => by
    refine ⟨_, rfl, ?_, rfl⟩
    simp [pD, intsD]
  obtain ⟨mx, m1, m2⟩ := sum_jobs js h low hl
  have up := J.least_all js _ (jok_ok h) (rule_least js)
  have l : js.length ≤ 100000 := by omega
  have l1 : 1 + js.length ≤ 100000 := by omega
  have l2 : js.length + 1 ≤ 100000 := by omega
  have l3 : js.length ≤ 99999 := by omega
  have s : intsD [PyData.int (J.A js), .int (J.B js)] = some [J.A js, J.B js] := rfl
  simp only [jD] at e1
  simp [-maxD, e1, m1, m2, l, l1, l2, l3, s, up]
end R88
set_option Elab.async false
set_option linter.all false
set_option maxRecDepth 100000
set_option maxHeartbeats 4000000
/-! R27: the law's body, jobs less, longer, cut -/
namespace R88
open PySem L2 Ev B88
open J (jb jl)
variable [Tbs]
theorem st15 (q : P3) (m : Nat) (hq : Pok q m) (hm : m ≤ 60000) (n : Nat) (n2 : 2 ≤ n) (hn : n ≤ 12) (x1 x3 x4 x5 x6 x7 x8 x9 x10 x11 x12 : Slot) : ∃ (k : Nat) (q' : P3), k < n ∧ Pok q' (m + 1) ∧
    ((xSet 13 (sBlt bInt [(sCallI 10 0 [(sVar 2)])])) : SS G__law_right N__law_right 1).ex [.ow (pD3 q), x1, .va (.int (n : Nat)), x3, x4, x5, x6, x7, x8, x9, x10, x11, x12, .un, .un, .un, .un, .un, .un, .un, .un, .un, .un, .un, .un] = some (.nx, [.ow (pD3 q'), x1, .va (.int (n : Nat)), x3, x4, x5, x6, x7, x8, x9, x10, x11, x12, .va (.int (k : Nat)), .un, .un, .un, .un, .un, .un, .un, .un, .un, .un, .un]) := by
  obtain ⟨r, q', e, r0, r1, pq⟩ := run_take q (n : Int) m (by omega) (by omega) hq (by omega)
  obtain ⟨k, rfl⟩ : ∃ k : Nat, r = (k : Int) := ⟨r.toNat, by omega⟩
  refine ⟨k, q', by omega, pq, ?_⟩
  simp [e]
def lessL (js : Js) (k : Nat) : Js := js.take k ++ js.drop (k + 1)
def longL (js : Js) (k : Nat) (m : Int) : Js := js.take k ++ [((jb js k).1 + m, (jb js k).2)] ++ js.drop (k + 1)
theorem split_at (js : Js) (k : Nat) (h : k < js.length) : js = js.take k ++ jb js k :: js.drop (k + 1) := by
  conv => lhs; rw [← List.take_append_drop k js]
  congr 1
  rw [List.drop_eq_getElem_cons h]
  unfold J.jb
  rw [List.getD_eq_getElem?_getD, List.getElem?_eq_getElem h]
  rfl
theorem st16 (q : P3) (js : Js) (h : Jok js) (k : Nat) (hk : k < js.length) (x2 x3 x4 x5 x6 x7 x8 x9 x10 x11 x12 : Slot) :
    ((xPar2 14 15 (sBin .Add addD add_ok (sSl (sVar 1) none (some (sVar 13))) (sSl (sVar 1) (some (sBin .Add addD add_ok (sVar 13) (sCon (.int 1)))) none)) (sIx (sVar 1) (sVar 13))) : SS G__law_right N__law_right 1).ex [.ow (pD3 q), .va (jD js), x2, x3, x4, x5, x6, x7, x8, x9, x10, x11, x12, .va (.int (k : Nat)), .un, .un, .un, .un, .un, .un, .un, .un, .un, .un, .un] = some (.nx, [.ow (pD3 q), .va (jD js), x2, x3, x4, x5, x6, x7, x8, x9, x10, x11, x12, .va (.int (k : Nat)), .va (jD (lessL js k)), .va (pD (jb js k)), .un, .un, .un, .un, .un, .un, .un, .un, .un]) := by
  have ln := h.len
  have a := at_job js k hk
  have c0 := cut_to (js.map pD) k
  have c1 := cut_from1 (js.map pD) k
  have l1 : min k js.length + (js.length - (k + 1)) ≤ 100000 := by omega
  simp [a, c0, c1, lessL, l1, pD]
theorem st17 (q : P3) (m : Nat) (hq : Pok q m) (hm : m ≤ 60000) (j : P2) (h1 : 1 ≤ j.1) (h2 : j.1 ≤ 1000) (x1 x2 x3 x4 x5 x6 x7 x8 x9 x10 x11 x12 x13 x14 : Slot) : ∃ (r : Int) (q' : P3), 0 ≤ r ∧ j.1 + r ≤ 1000 ∧ Pok q' (m + 1) ∧
    ((xSet 16 (sBlt bInt [(sCallI 10 0 [(sBin .Sub subD sub_ok (sCon (.int 1001)) (sIx (sVar 15) (sCon (.int 0))))])])) : SS G__law_right N__law_right 1).ex [.ow (pD3 q), x1, x2, x3, x4, x5, x6, x7, x8, x9, x10, x11, x12, x13, x14, .va (pD j), .un, .un, .un, .un, .un, .un, .un, .un, .un] = some (.nx, [.ow (pD3 q'), x1, x2, x3, x4, x5, x6, x7, x8, x9, x10, x11, x12, x13, x14, .va (pD j), .va (.int r), .un, .un, .un, .un, .un, .un, .un, .un]) := by
  obtain ⟨r, q', e, r0, r1, pq⟩ := run_take q (1001 - j.1) m (by omega) (by omega) hq (by omega)
  refine ⟨r, q', r0, by omega, pq, ?_⟩
  simp [e, pD]
theorem st18 (q : P3) (js : Js) (h : Jok js) (k : Nat) (hk : k < js.length) (r : Int) (x2 x3 x4 x5 x6 x7 x8 x9 x10 x11 x12 x14 : Slot) :
    ((xSet 17 (sBin .Add addD add_ok (sBin .Add addD add_ok (sSl (sVar 1) none (some (sVar 13))) (sTup [.one (sTup [.one (sBin .Add addD add_ok (sIx (sVar 15) (sCon (.int 0))) (sVar 16)), .one (sIx (sVar 15) (sCon (.int 1)))])])) (sSl (sVar 1) (some (sBin .Add addD add_ok (sVar 13) (sCon (.int 1)))) none))) : SS G__law_right N__law_right 1).ex [.ow (pD3 q), .va (jD js), x2, x3, x4, x5, x6, x7, x8, x9, x10, x11, x12, .va (.int (k : Nat)), x14, .va (pD (jb js k)), .va (.int r), .un, .un, .un, .un, .un, .un, .un, .un] = some (.nx, [.ow (pD3 q), .va (jD js), x2, x3, x4, x5, x6, x7, x8, x9, x10, x11, x12, .va (.int (k : Nat)), x14, .va (pD (jb js k)), .va (.int r), .va (jD (longL js k r)), .un, .un, .un, .un, .un, .un, .un]) := by
  have ln := h.len
  have c0 := cut_to (js.map pD) k
  have c1 := cut_from1 (js.map pD) k
  have l0 : min k js.length ≤ 99999 := by omega
  have l1 : min k js.length + 1 + (js.length - (k + 1)) ≤ 100000 := by omega
  have l2 : min k js.length + (1 + (js.length - (k + 1))) ≤ 100000 := by omega
  have l3 : min k js.length + (js.length - (k + 1) + 1) ≤ 100000 := by omega
  simp [c0, c1, longL, l0, l1, l2, l3, pD]
theorem long_ok (js : Js) (h : Jok js) (k : Nat) (hk : k < js.length) (r : Int) (r0 : 0 ≤ r) (r1 : (jb js k).1 + r ≤ 1000) : Jok (longL js k r) := by
  have b := h.jb hk
  refine ⟨?_, fun j hj => ?_⟩
  · have := h.len
    unfold longL
    rw [List.length_append, List.length_append, List.length_take, List.length_drop]
    simp
    omega
  · unfold longL at hj
    rcases List.mem_append.1 hj with hj | hj
    · rcases List.mem_append.1 hj with hj | hj
      · exact h.rng j (List.mem_of_mem_take hj)
      · rw [List.mem_singleton.1 hj]
        dsimp only
        omega
    · exact h.rng j (List.mem_of_mem_drop hj)
theorem less_ok (js : Js) (h : Jok js) (k : Nat) : Jok (lessL js k) := by
  refine ⟨?_, fun j hj => ?_⟩
  · have := h.len
    unfold lessL
    rw [List.length_append, List.length_take, List.length_drop]
    omega
  · unfold lessL at hj
    rcases List.mem_append.1 hj with hj | hj
    · exact h.rng j (List.mem_of_mem_take hj)
    · exact h.rng j (List.mem_of_mem_drop hj)
theorem st19 (q : P3) (js : Js) (h : Jok js) (k : Nat) (hk : k < js.length) (r : Int) (r0 : 0 ≤ r) (r1 : (jb js k).1 + r ≤ 1000) (x1 x2 x4 x5 x6 x7 x8 x9 x10 x11 x12 x13 x14 x15 : Slot) :
    ((xIf (tNot (tChain2 .LtE .LtE leD leD le_ok le_ok (sVar 3) (sCall 7 [(sVar 17)]) (sBin .Add addD add_ok (sVar 3) (sVar 16)))) [(xRet (sCon (.bool false)))] []) : SS G__law_right N__law_right 1).ex [.ow (pD3 q), x1, x2, .va (.int (endE js (rule js))), x4, x5, x6, x7, x8, x9, x10, x11, x12, x13, x14, x15, .va (.int r), .va (jD (longL js k r)), .un, .un, .un, .un, .un, .un, .un] = some (.nx, [.ow (pD3 q), x1, x2, .va (.int (endE js (rule js))), x4, x5, x6, x7, x8, x9, x10, x11, x12, x13, x14, x15, .va (.int r), .va (jD (longL js k r)), .un, .un, .un, .un, .un, .un, .un]) := by
  have e := run_least_flow_end (longL js k r) (long_ok js h k hk r r0 r1)
  have a : J.Least (js.take k ++ ((jb js k).1, (jb js k).2) :: js.drop (k + 1)) (endE js (rule js)) := by
    have := rule_least js
    rw [show js.take k ++ ((jb js k).1, (jb js k).2) :: js.drop (k + 1) = js from (split_at js k hk).symm]
    exact this
  have b : J.Least (js.take k ++ ((jb js k).1 + r, (jb js k).2) :: js.drop (k + 1)) (endE (longL js k r) (rule (longL js k r))) := by
    have := rule_least (longL js k r)
    have e : longL js k r = js.take k ++ ((jb js k).1 + r, (jb js k).2) :: js.drop (k + 1) := by unfold longL; simp
    rw [← e]
    exact this
  obtain ⟨g1, g2⟩ := J.least_longer _ _ _ _ r _ _ r0 a b
  simp [e, g1, g2]
theorem st20 (q : P3) (js : Js) (h : Jok js) (n2 : 2 ≤ js.length) (k : Nat) (hk : k < js.length) (x1 x2 x4 x5 x6 x7 x8 x9 x10 x11 x12 x13 x16 x17 : Slot) :
    ((xIf (tAnds [(tCmp .NotEq neSD neS_ok (sVar 14) (sTup [])), (tNot (tChain2 .LtE .LtE leD leD le_ok le_ok (sCall 7 [(sVar 14)]) (sVar 3) (sBin .Add addD add_ok (sCall 7 [(sVar 14)]) (sBlt bSum [(sVar 15)]))))]) [(xRet (sCon (.bool false)))] []) : SS G__law_right N__law_right 1).ex [.ow (pD3 q), x1, x2, .va (.int (endE js (rule js))), x4, x5, x6, x7, x8, x9, x10, x11, x12, x13, .va (jD (lessL js k)), .va (pD (jb js k)), x16, x17, .un, .un, .un, .un, .un, .un, .un] = some (.nx, [.ow (pD3 q), x1, x2, .va (.int (endE js (rule js))), x4, x5, x6, x7, x8, x9, x10, x11, x12, x13, .va (jD (lessL js k)), .va (pD (jb js k)), x16, x17, .un, .un, .un, .un, .un, .un, .un]) := by
  have e := run_least_flow_end (lessL js k) (less_ok js h k)
  have a : J.Least (js.take k ++ jb js k :: js.drop (k + 1)) (endE js (rule js)) := by
    have := rule_least js
    rw [← split_at js k hk]
    exact this
  have b := rule_least (lessL js k)
  obtain ⟨g1, g2⟩ := J.least_less _ _ _ _ _ (by rw [← split_at js k hk]; exact jok_ok h) a b
  have ne : ∃ j l, lessL js k = j :: l := by
    cases z : lessL js k with
    | nil =>
      have := congrArg List.length z
      unfold lessL at this
      rw [List.length_append, List.length_take, List.length_drop, List.length_nil] at this
      omega
    | cons j l => exact ⟨j, l, rfl⟩
  obtain ⟨j, l, z⟩ := ne
  have nn : neSD (jD (lessL js k)) (.tuple []) = some true := by
    rw [z]
    simp [neSD, neD]
  have s : intsD [PyData.int (jb js k).1, .int (jb js k).2] = some [(jb js k).1, (jb js k).2] := rfl
  simp [-neSD, nn, e, g1, g2, pD, s]
theorem st21 (q : P3) (m : Nat) (hq : Pok q m) (hm : m ≤ 60000) (n : Nat) (n2 : 2 ≤ n) (hn : n ≤ 12) (x1 x3 x4 x5 x6 x7 x8 x9 x10 x11 x12 x13 x14 x15 x16 x17 : Slot) : ∃ (k : Nat) (q' : P3), 1 ≤ k ∧ k < n ∧ Pok q' (m + 1) ∧
    ((xSet 18 (sBlt bInt [(sBin .Add addD add_ok (sCon (.int 1)) (sCallI 10 0 [(sBin .Sub subD sub_ok (sVar 2) (sCon (.int 1)))]))])) : SS G__law_right N__law_right 1).ex [.ow (pD3 q), x1, .va (.int (n : Nat)), x3, x4, x5, x6, x7, x8, x9, x10, x11, x12, x13, x14, x15, x16, x17, .un, .un, .un, .un, .un, .un, .un] = some (.nx, [.ow (pD3 q'), x1, .va (.int (n : Nat)), x3, x4, x5, x6, x7, x8, x9, x10, x11, x12, x13, x14, x15, x16, x17, .va (.int (k : Nat)), .un, .un, .un, .un, .un, .un]) := by
  obtain ⟨r, q', e, r0, r1, pq⟩ := run_take q ((n : Int) - 1) m (by omega) (by omega) hq (by omega)
  obtain ⟨k, hk⟩ : ∃ k : Nat, 1 + r = (k : Int) := ⟨(1 + r).toNat, by omega⟩
  refine ⟨k, q', by omega, by omega, pq, ?_⟩
  simp [e, hk]
theorem take_ok (js : Js) (h : Jok js) (k : Nat) : Jok (js.take k) := ⟨by have := h.len; rw [List.length_take]; omega, fun j hj => h.rng j (List.mem_of_mem_take hj)⟩
theorem drop_ok (js : Js) (h : Jok js) (k : Nat) : Jok (js.drop k) := ⟨by have := h.len; rw [List.length_drop]; omega, fun j hj => h.rng j (List.mem_of_mem_drop hj)⟩
def cutE (js : Js) : Int := endE js (rule js)
theorem st22 (q : P3) (js : Js) (h : Jok js) (k : Nat) (x2 x3 x4 x5 x6 x7 x8 x9 x10 x11 x12 x13 x14 x15 x16 x17 : Slot) :
    ((xSetLc 19 [("some", 21)] (gNm 21) (iSeq (sTup [.one (sSl (sVar 1) none (some (sVar 18))), .one (sSl (sVar 1) (some (sVar 18)) none)])) none (sCall 7 [(sVar 21)])) : SS G__law_right N__law_right 1).ex [.ow (pD3 q), .va (jD js), x2, x3, x4, x5, x6, x7, x8, x9, x10, x11, x12, x13, x14, x15, x16, x17, .va (.int (k : Nat)), .un, .un, .un, .un, .un, .un] = some (.nx, [.ow (pD3 q), .va (jD js), x2, x3, x4, x5, x6, x7, x8, x9, x10, x11, x12, x13, x14, x15, x16, x17, .va (.int (k : Nat)), .ow (.list [.int (cutE (js.take k)), .int (cutE (js.drop k))]), .un, .un, .un, .un, .un]) := by
  have c0 := cut_to (js.map pD) k
  have c1 := cut_from (js.map pD) k
  have e := compF_all (G := G__law_right) (N := N__law_right) [21] (gNm 21) (sCall 7 [(sVar 21)]) jD (fun j => .int (cutE j)) [.ow (pD3 q), .va (jD js), x2, x3, x4, x5, x6, x7, x8, x9, x10, x11, x12, x13, x14, x15, x16, x17, .va (.int (k : Nat)), .un, .un, .un, .un, .un, .un] [js.take k, js.drop k] fun j hj => by
    refine ⟨_, rfl, ?_, rfl⟩
    have jk : Jok j := by
      simp at hj
      rcases hj with rfl | rfl
      · exact take_ok js h k
      · exact drop_ok js h k
    have e := run_least_flow_end j jk
    simp [e, cutE]
  simp only [List.map_cons, List.map_nil, jD, List.map_take, List.map_drop] at e
  simp [c0, c1, e]
theorem st23 (q : P3) (js : Js) (h : Jok js) (k : Nat) (x1 x2 x4 x5 x6 x7 x8 x9 x10 x11 x12 x13 x14 x15 x16 x17 x18 : Slot) :
    ((xRet (sChain .LtE .LtE leD leD le_ok le_ok (sBlt bMax [(sVar 19)]) (sVar 3) (sBlt bSum [(sVar 19)]))) : SS G__law_right N__law_right 1).ex [.ow (pD3 q), x1, x2, .va (.int (endE js (rule js))), x4, x5, x6, x7, x8, x9, x10, x11, x12, x13, x14, x15, x16, x17, x18, .ow (.list [.int (cutE (js.take k)), .int (cutE (js.drop k))]), .un, .un, .un, .un, .un] = some (.rt (.v (.bool true)), [.ow (pD3 q), x1, x2, .va (.int (endE js (rule js))), x4, x5, x6, x7, x8, x9, x10, x11, x12, x13, x14, x15, x16, x17, x18, .ow (.list [.int (cutE (js.take k)), .int (cutE (js.drop k))]), .un, .un, .un, .un, .un]) := by
  have a := rule_least js
  have b := rule_least (js.take k)
  have c := rule_least (js.drop k)
  have t := List.take_append_drop k js
  rw [← t] at a
  have o := jok_ok h
  rw [← t] at o
  obtain ⟨g1, g2, g3⟩ := J.least_cut _ _ _ _ _ o a b c
  rw [t] at g1 g2 g3
  have mx := maxD_of [cutE (js.take k), cutE (js.drop k)] (max (cutE (js.take k)) (cutE (js.drop k))) (by
    by_cases z : cutE (js.take k) ≤ cutE (js.drop k)
    · rw [Int.max_eq_right z]; simp
    · rw [Int.max_eq_left (by omega)]; simp) (by simp; omega)
  have s : intsD [PyData.int (cutE (js.take k)), .int (cutE (js.drop k))] = some [cutE (js.take k), cutE (js.drop k)] := rfl
  have m1 : max (cutE (js.take k)) (cutE (js.drop k)) ≤ endE js (rule js) := by unfold cutE; omega
  have m2 : endE js (rule js) ≤ cutE (js.take k) + cutE (js.drop k) := g3
  simp only [List.map_cons, List.map_nil] at mx
  have m1' := m1
  rw [Int.max_le] at m1'
  simp [-maxD, mx, s, m1, m2, m1']
end R88
set_option Elab.async false
set_option linter.all false
set_option maxRecDepth 100000
set_option maxHeartbeats 4000000
/-! R28: the law's body is right; pots, cells, the law -/
namespace R88
open PySem L2 Ev B88
open J (jb jl)
variable [Tbs]
theorem run_law_right (p : P3) (m : Nat) (hp : Pok p m) (hm : m ≤ 1000) : ∃ q : P3, M__law_right.run [pD3 p] = some (.v (.bool true), pD3 q) := by
  obtain ⟨js, q0, h, n2, p0, e0⟩ := st0 p m hp (by omega)
  have ln := h.len
  have n0 : 1 ≤ js.length := by omega
  have e1 := st1 q0 js h
  have e2 := st2 q0 js h n0
  have e3 := st3 q0 js h n0 (.va (.int js.length)) (.va (.int (endE js (rule js)))) (.va (shopD js)) (.va (oD (rule js)))
  have e4 := st4 q0 js h (.va (jD js)) (.va (.int js.length)) (.va (.int (endE js (rule js)))) (.va (oD (rule js)))
  have e5 := st5 q0 js h (.va (.int js.length)) (.va (shopD js)) (.va (shopD js))
  have e6 := st6 q0 (rule js) (.va (jD js)) (.va (.int js.length)) (.va (.int (endE js (rule js)))) (.va (shopD js)) (.va (shopD js))
  obtain ⟨q7, os, x8, p7, hos, ol, e7⟩ := st7 q0 (m + 50) p0 (by omega) js.length h.len (rule js) (rule js).reverse ⟨rule_perm js⟩ ⟨(List.reverse_perm _).trans (rule_perm js)⟩ (.va (jD js)) (.va (.int (endE js (rule js)))) (.va (shopD js)) (.va (oD (rule js))) (.va (shopD js))
  have e8 := st8 q7 js h n0 os hos ol (.va (.int js.length)) (.va (oD (rule js))) (.va (shopD js)) x8
  obtain ⟨k9, q9, h9, p9, e9⟩ := st9 q7 _ p7 (by omega) js.length n2 h.len (.va (jD js)) (.va (.int (endE js (rule js)))) (.va (shopD js)) (.va (oD (rule js))) (.va (shopD js)) (.va (.list (os.map oD))) x8
  have rl := (rule_perm js).length_eq
  rw [List.length_range] at rl
  have e10 := st10 q9 (rule js) k9 (by omega) (by omega) (.va (jD js)) (.va (.int js.length)) (.va (.int (endE js (rule js)))) (.va (shopD js)) (.va (shopD js)) (.va (.list (os.map oD))) x8
  have e11 := st11 q9 js h (nearL (rule js) k9) ((near_perm _ _ (by omega)).trans (rule_perm js)) (.va (.int js.length)) (.va (shopD js)) (.va (oD (rule js))) (.va (shopD js)) (.va (.list (os.map oD))) x8 (.va (.int (k9 : Nat)))
  have e12 := st12 q9 js h (.va (jD js)) (.va (.int js.length)) (.va (.int (endE js (rule js)))) (.va (oD (rule js))) (.va (shopD js)) (.va (.list (os.map oD))) x8 (.va (.int (k9 : Nat))) (.va (oD (nearL (rule js) k9)))
  obtain ⟨low, hlow, e13⟩ := st13 q9 js h n0 (.va (.int js.length)) (.va (.int (endE js (rule js)))) (.va (shopD js)) (.va (oD (rule js))) (.va (shopD js)) (.va (.list (os.map oD))) x8 (.va (.int (k9 : Nat))) (.va (oD (nearL (rule js) k9)))
  have e14 := st14 q9 js h low hlow (.va (.int js.length)) (.va (shopD js)) (.va (oD (rule js))) (.va (shopD js)) (.va (.list (os.map oD))) x8 (.va (.int (k9 : Nat))) (.va (oD (nearL (rule js) k9)))
  obtain ⟨k, q15, hk, p15, e15⟩ := st15 q9 _ p9 (by omega) js.length n2 h.len (.va (jD js)) (.va (.int (endE js (rule js)))) (.va (shopD js)) (.va (oD (rule js))) (.va (shopD js)) (.va (.list (os.map oD))) x8 (.va (.int (k9 : Nat))) (.va (oD (nearL (rule js) k9))) (.ow (.list [.int (J.A js), .int (J.B js)])) (.va (.int low))
  have e16 := st16 q15 js h k hk (.va (.int js.length)) (.va (.int (endE js (rule js)))) (.va (shopD js)) (.va (oD (rule js))) (.va (shopD js)) (.va (.list (os.map oD))) x8 (.va (.int (k9 : Nat))) (.va (oD (nearL (rule js) k9))) (.ow (.list [.int (J.A js), .int (J.B js)])) (.va (.int low))
  have bk := h.jb hk
  obtain ⟨r, q17, r0, r1, p17, e17⟩ := st17 q15 _ p15 (by omega) (jb js k) bk.1 bk.2.1 (.va (jD js)) (.va (.int js.length)) (.va (.int (endE js (rule js)))) (.va (shopD js)) (.va (oD (rule js))) (.va (shopD js)) (.va (.list (os.map oD))) x8 (.va (.int (k9 : Nat))) (.va (oD (nearL (rule js) k9))) (.ow (.list [.int (J.A js), .int (J.B js)])) (.va (.int low)) (.va (.int (k : Nat))) (.va (jD (lessL js k)))
  have e18 := st18 q17 js h k hk r (.va (.int js.length)) (.va (.int (endE js (rule js)))) (.va (shopD js)) (.va (oD (rule js))) (.va (shopD js)) (.va (.list (os.map oD))) x8 (.va (.int (k9 : Nat))) (.va (oD (nearL (rule js) k9))) (.ow (.list [.int (J.A js), .int (J.B js)])) (.va (.int low)) (.va (jD (lessL js k)))
  have e19 := st19 q17 js h k hk r r0 r1 (.va (jD js)) (.va (.int js.length)) (.va (shopD js)) (.va (oD (rule js))) (.va (shopD js)) (.va (.list (os.map oD))) x8 (.va (.int (k9 : Nat))) (.va (oD (nearL (rule js) k9))) (.ow (.list [.int (J.A js), .int (J.B js)])) (.va (.int low)) (.va (.int (k : Nat))) (.va (jD (lessL js k))) (.va (pD (jb js k)))
  have e20 := st20 q17 js h n2 k hk (.va (jD js)) (.va (.int js.length)) (.va (shopD js)) (.va (oD (rule js))) (.va (shopD js)) (.va (.list (os.map oD))) x8 (.va (.int (k9 : Nat))) (.va (oD (nearL (rule js) k9))) (.ow (.list [.int (J.A js), .int (J.B js)])) (.va (.int low)) (.va (.int (k : Nat))) (.va (.int r)) (.va (jD (longL js k r)))
  obtain ⟨c, q21, c0, c1, p21, e21⟩ := st21 q17 _ p17 (by omega) js.length n2 h.len (.va (jD js)) (.va (.int (endE js (rule js)))) (.va (shopD js)) (.va (oD (rule js))) (.va (shopD js)) (.va (.list (os.map oD))) x8 (.va (.int (k9 : Nat))) (.va (oD (nearL (rule js) k9))) (.ow (.list [.int (J.A js), .int (J.B js)])) (.va (.int low)) (.va (.int (k : Nat))) (.va (jD (lessL js k))) (.va (pD (jb js k))) (.va (.int r)) (.va (jD (longL js k r)))
  have e22 := st22 q21 js h c (.va (.int js.length)) (.va (.int (endE js (rule js)))) (.va (shopD js)) (.va (oD (rule js))) (.va (shopD js)) (.va (.list (os.map oD))) x8 (.va (.int (k9 : Nat))) (.va (oD (nearL (rule js) k9))) (.ow (.list [.int (J.A js), .int (J.B js)])) (.va (.int low)) (.va (.int (k : Nat))) (.va (jD (lessL js k))) (.va (pD (jb js k))) (.va (.int r)) (.va (jD (longL js k r)))
  have e23 := st23 q21 js h c (.va (jD js)) (.va (.int js.length)) (.va (shopD js)) (.va (oD (rule js))) (.va (shopD js)) (.va (.list (os.map oD))) x8 (.va (.int (k9 : Nat))) (.va (oD (nearL (rule js) k9))) (.ow (.list [.int (J.A js), .int (J.B js)])) (.va (.int low)) (.va (.int (k : Nat))) (.va (jD (lessL js k))) (.va (pD (jb js k))) (.va (.int r)) (.va (jD (longL js k r))) (.va (.int (c : Nat)))
  refine ⟨q21, ?_⟩
  have big : exB B__law_right [.ow (pD3 p), .un, .un, .un, .un, .un, .un, .un, .un, .un, .un, .un, .un, .un, .un, .un, .un, .un, .un, .un, .un, .un, .un, .un, .un] = some (.rt (.v (.bool true)), [.ow (pD3 q21), .va (jD js), .va (.int js.length), .va (.int (endE js (rule js))), .va (shopD js), .va (oD (rule js)), .va (shopD js), .va (.list (os.map oD)), x8, .va (.int (k9 : Nat)), .va (oD (nearL (rule js) k9)), .ow (.list [.int (J.A js), .int (J.B js)]), .va (.int low), .va (.int (k : Nat)), .va (jD (lessL js k)), .va (pD (jb js k)), .va (.int r), .va (jD (longL js k r)), .va (.int (c : Nat)), .ow (.list [.int (cutE (js.take c)), .int (cutE (js.drop c))]), .un, .un, .un, .un, .un]) := by
    unfold B__law_right
    refine exB_nx e0 (exB_nx e1 (exB_nx e2 (exB_nx e3 (exB_nx e4 (exB_nx e5 (exB_nx e6 (exB_nx e7 (exB_nx e8 (exB_nx e9 (exB_nx e10 (exB_nx e11 (exB_nx e12 (exB_nx e13 (exB_nx e14 (exB_nx e15 (exB_nx e16 (exB_nx e17 (exB_nx e18 (exB_nx e19 (exB_nx e20 (exB_nx e21 (exB_nx e22 ?_))))))))))))))))))))))
    rw [exB, e23]
    rfl
  simp [M__law_right, big]
end R88
set_option Elab.async false
set_option linter.all false
set_option maxRecDepth 100000
set_option maxHeartbeats 4000000
/-! R29: pots, cells, the law -/
namespace R88
open PySem L2 Ev B88
open J (jb jl)
variable [Tbs]
def scrD (ns : List Int) : D := .dict [(.none, .tuple (ns.map .int))]
def p60 : Int := 10 ^ 60
theorem pow_of {i j : Int} (h : decide (i.natAbs < 2 ^ 1000) = true) (h0 : 0 ≤ j) (h1 : j ≤ 1000) : powD (.int i) (.int j) = some (.v (.int (i ^ j.toNat))) := by
  show (match decide (0 ≤ j) && (decide (j ≤ 1000) && decide (i.natAbs < 2 ^ 1000)) with
    | true => some (Rv.v (.int (i ^ j.toNat)))
    | false => none) = _
  rw [h, decide_eq_true h0, decide_eq_true h1]
  rfl
theorem pow_b : ∃ y z : Int, powD (.int 10) (.int 60) = some (.v (.int y)) ∧ powD (.int y) (.int 5) = some (.v (.int z)) ∧ 0 < z := ⟨p60, p60 ^ 5, pow_of (by decide +kernel) (by decide) (by decide), pow_of (by decide +kernel) (by decide) (by decide), by decide +kernel⟩
theorem pow_c : ∃ z : Int, powD (.int 10) (.int 18) = some (.v (.int z)) := ⟨_, pow_of (by decide +kernel) (by decide) (by decide)⟩
theorem pot_fin (S : D) (pl : Int) (h0 : 0 ≤ pl) (h3 : pl < 3) (cell : Int) : ∃ p : P3, exB ([((xSet 3 (sBin .Mult mulD mul_ok (sBin .Mod modD mod_ok (sBlt bInt [(sBlt bAbs [(sVar 2)])]) (sBin .Pow powD pow_ok (sBin .Pow powD pow_ok (sCon (.int 10)) (sCon (.int 60))) (sCon (.int 5)))) (sBlt bInt [(sCmp .GtE geD ge_ok (sBlt bAbs [(sVar 2)]) (sBin .Pow powD pow_ok (sCon (.int 10)) (sCon (.int 18))))]))) : SS G__law_pot N__law_pot 0), ((xSet 4 (sBin .Mod modD mod_ok (sBlt bInt [(sVar 2)]) (sCon (.int 2305843009213693921)))) : SS G__law_pot N__law_pot 0), ((xRet (sLst [.one (sVar 3), .one (sBin .Mod modD mod_ok (sBlt bInt [(sBin .Add addD add_ok (sBin .Add addD add_ok (sBin .Mult mulD mul_ok (sVar 4) (sCon (.int 68111))) (sBin .Mult mulD mul_ok (sBin .Mult mulD mul_ok (sCon (.int 12413)) (sVar 1)) (sVar 1))) (sCon (.int 2843)))]) (sCon (.int 2305843009213693921))), .one (sCon (.int 0))])) : SS G__law_pot N__law_pot 0)]) [.va S, .va (.int pl), .va (.int cell), .un, .un] = some (.rt (.fr (pD3 p)), [.va S, .va (.int pl), .va (.int cell), .va (.int p.1), .va (.int (cell % 2305843009213693921))]) ∧ Pok p 0 := by
  obtain ⟨y, z, pow_a, pb, z0⟩ := pow_b
  obtain ⟨c18, pow_c⟩ := pow_c
  obtain ⟨ac, hac⟩ : ∃ ac : Int, ac = if cell < 0 then -cell else cell := ⟨_, rfl⟩
  have f0 : fits 0 = true := fits_of (by decide) (by decide)
  have f1 : fits 1 = true := fits_of (by decide) (by decide)
  have f2 : fits 68111 = true := fits_of (by decide) (by decide)
  have f3 : fits 12413 = true := fits_of (by decide) (by decide)
  have f4 : fits pl = true := fits_of (by omega) (by omega)
  by_cases hb : c18 ≤ ac
  · refine ⟨(ac % z, (cell % 2305843009213693921 * 68111 + 12413 * pl * pl + 2843) % 2305843009213693921, 0), ?_, ⟨Int.emod_nonneg _ (by decide), Int.emod_lt_of_pos _ (by decide), by show (0 : Int) ≤ 0; decide, by show (0 : Int) ≤ 0; decide⟩⟩
    simp [-fits, -powD, pow_a, pb, pow_c, z0, f0, f1, f2, f3, f4, ← hac, hb, pD3]
  · refine ⟨(0, (cell % 2305843009213693921 * 68111 + 12413 * pl * pl + 2843) % 2305843009213693921, 0), ?_, ⟨Int.emod_nonneg _ (by decide), Int.emod_lt_of_pos _ (by decide), by show (0 : Int) ≤ 0; decide, by show (0 : Int) ≤ 0; decide⟩⟩
    simp [-fits, -powD, pow_a, pb, pow_c, z0, f0, f1, f2, f3, f4, ← hac, hb, pD3]
theorem pot_hd1 (ns : List Int) (place : Nat) (c : place < ns.length) : ((xSet 2 (sIte (tCmp .Lt ltD lt_ok (sVar 1) (sBlt bLen [(sVar 0)])) (sIx (sVar 0) (sVar 1)) (sBin .Add addD add_ok (sBin .Add addD add_ok (sBin .Mod modD mod_ok (sBlt bInt [(sBlt bSum [(sSl (sVar 0) none (some (sCon (.int 1))))])]) (sCon (.int 1000303))) (sBin .Mult mulD mul_ok (sCon (.int 4723)) (sVar 1))) (sCon (.int 2971))))) : SS G__law_pot N__law_pot 0).ex [.va (scrD ns), .va (.int (place : Nat)), .un, .un, .un] = some (.nx, [.va (scrD ns), .va (.int (place : Nat)), .va (.int (ns.getD place 0)), .un, .un]) := by
  have a : atI (ns.map PyData.int) (place : Int) = some (.int (ns.getD place 0)) := atI_enc PyData.int ns place 0 c
  have c' : (place : Int) < ns.length := by omega
  simp [scrD, c, c', a]
theorem pot_hd2 (ns : List Int) (pl : Int) (c : ¬ (pl < ns.length)) : ((xSet 2 (sIte (tCmp .Lt ltD lt_ok (sVar 1) (sBlt bLen [(sVar 0)])) (sIx (sVar 0) (sVar 1)) (sBin .Add addD add_ok (sBin .Add addD add_ok (sBin .Mod modD mod_ok (sBlt bInt [(sBlt bSum [(sSl (sVar 0) none (some (sCon (.int 1))))])]) (sCon (.int 1000303))) (sBin .Mult mulD mul_ok (sCon (.int 4723)) (sVar 1))) (sCon (.int 2971))))) : SS G__law_pot N__law_pot 0).ex [.va (scrD ns), .va (.int pl), .un, .un, .un] = some (.nx, [.va (scrD ns), .va (.int pl), .va (.int ((ns.take 1).sum % 1000303 + 4723 * pl + 2971)), .un, .un]) := by
  have f5 : fits 4723 = true := fits_of (by decide) (by decide)
  have ct : cutD (ns.map PyData.int) none (some 1) = (ns.take 1).map PyData.int := by rw [List.map_take]; exact cut_to _ 1
  simp [-fits, scrD, c, ct, f5, -List.map_take]
theorem run_law_pot (ns : List Int) (place : Nat) (hp : place < 3) : ∃ p : P3, M__law_pot.run [scrD ns, .int (place : Nat)] = some (.fr (pD3 p), .none) ∧ Pok p 0 := by
  have hd : ∃ cell : Int, ((xSet 2 (sIte (tCmp .Lt ltD lt_ok (sVar 1) (sBlt bLen [(sVar 0)])) (sIx (sVar 0) (sVar 1)) (sBin .Add addD add_ok (sBin .Add addD add_ok (sBin .Mod modD mod_ok (sBlt bInt [(sBlt bSum [(sSl (sVar 0) none (some (sCon (.int 1))))])]) (sCon (.int 1000303))) (sBin .Mult mulD mul_ok (sCon (.int 4723)) (sVar 1))) (sCon (.int 2971))))) : SS G__law_pot N__law_pot 0).ex [.va (scrD ns), .va (.int (place : Nat)), .un, .un, .un] = some (.nx, [.va (scrD ns), .va (.int (place : Nat)), .va (.int cell), .un, .un]) := by
    by_cases c : place < ns.length
    · exact ⟨_, pot_hd1 ns place c⟩
    · exact ⟨_, pot_hd2 ns place (by omega)⟩
  obtain ⟨cell, e0⟩ := hd
  obtain ⟨p, e1, pk⟩ := pot_fin (scrD ns) place (by omega) (by omega) cell
  refine ⟨p, ?_, pk⟩
  have big : exB B__law_pot [.va (scrD ns), .va (.int (place : Nat)), .un, .un, .un] = _ := exB_nx e0 e1
  simp [M__law_pot, big]
theorem run_law_cells (ns : List Int) (h : ns.length ≤ 63) : ∃ k : Nat, k ≤ 3 ∧ M__law_cells.run [scrD ns, .int 3] = some (.fr (.list ((List.range k).map nD)), .none) := by
  obtain ⟨k, hk⟩ : ∃ k : Nat, max 1 (min 3 (ns.length : Int)) = (k : Int) := ⟨(max 1 (min 3 (ns.length : Int))).toNat, by omega⟩
  have k3 : k ≤ 3 := by omega
  have k6 : (k : Int) ≤ 1000000 := by omega
  have rd : rangeD 0 k = (List.range k).map nD := rangeD_nat k
  refine ⟨k, k3, ?_⟩
  simp [M__law_cells, B__law_cells, scrD, hk, k6, rd]
theorem run_law (ns : List Int) (h : ns.length ≤ 63) : M_law.run [scrD ns] = some (.v (.bool true), .none) := by
  obtain ⟨k, k3, e⟩ := run_law_cells ns h
  have c := compF_all (G := G_law) (N := N_law) [1] (gNm 1) (sCallF 1 (sCall 2 [(sVar 0), (sVar 1)]) []) nD (fun _ => .bool true) [.va (scrD ns), .un] (List.range k) fun place hp => by
    refine ⟨_, rfl, ?_, rfl⟩
    have hp := List.mem_range.1 hp
    obtain ⟨p, e1, pk⟩ := run_law_pot ns place (by omega)
    obtain ⟨q, e2⟩ := run_law_right p 0 pk (by omega)
    simp [nD, e1, e2]
  have l : k ≤ 100000 := by omega
  simp [M_law, B_law, e, c, l]
end R88
set_option Elab.async false
set_option linter.all false
set_option maxRecDepth 100000
set_option maxHeartbeats 0
namespace P88
open PySem L2 Ev PyProof.Rows
def scr (ns : List Int) : D := .dict [(.none, .tuple (ns.map .int))]
theorem plain [Tbs] (ns : List Int) (h : ns.length ≤ 63) : B88.M_law.run [scr ns] = some (.v (.bool true), .none) := R88.run_law ns h
theorem scr_rp {H : Hp} {a : Addr} {ob : Obj} {ns : List Int} (h : H a = some (.frz ob (.lst (ns.map V.int)))) : RpL H (fun _ => False) [.ref a] [scr ns] :=
  .cons (.ref (fun z => z) h (.scr (RpL.ints ns))) .nil
theorem goal {P : Program} (w : World) (mg : Str → Option Value) (fa : Addr) (h : Heap) (Y : (He.hookL 5 H88.fa H88.fn H88.tf).says w h) (G : h.Ns mainGlobals mg) (hmg : mg "law" = some (.ref fa)) :
    ∃ (K : PySem.W.Frag) (fd : FuncData) (cs : List (Addr × Addr)) (sp : Sp), K.In h ∧ (∀ a o, K.lookup a = some o → o.cls ≠ .type "list") ∧ (∀ p ∈ cs, h.get? p.2 = some { cls := .none, data := .fields #[] }) ∧ (∀ p ∈ cs, K.lookup p.2 = none) ∧ (∀ p ∈ cs, PySem.W.CodeHd h p.1 p.2) ∧ (∀ (s : Shared) (u : Value), BindsTo s fd ⟨[u], []⟩ [("script", u)]) ∧
      (∀ (H : Hp) (a : Addr) (ns : List Int), ns.length ≤ 63 → (∀ p ∈ cs, H p.2 = some (.tbl #[])) → (∃ ob, H a = some (.frz ob (.lst (ns.map V.int)))) → sp [.ref a] H (fun v _ => v = .bl true) fun _ _ _ => False) ∧
      ∀ base : Heap, K.In base → base.Ns mainGlobals mg → (∀ p ∈ cs, LamX.TabB base mg p.1 p.2) → FnG P w K mg base CX0 11 fa fd ["script"] sp := by
  obtain ⟨K, KX, c⟩ := Y
  letI T : Tbs := ⟨[((He.cT K ("told_next_orders", none)).2, "told_next_orders.<locals>.<lambda>")]⟩
  obtain ⟨fd, F⟩ := c.d.def_ 52 (d := H88.d_law) rfl
  have b := FunD.bindsA (ps := ["script"]) F fun _ _ _ _ _ _ us hl => match us, hl with | [_], _ => rfl
  refine ⟨K, fd, [He.cT K ("told_next_orders", none)], spOf B88.M_law, KX, c.nl, fun p hp => ?_, fun p hp => ?_, fun p hp => ?_, fun s u => b s [u] rfl, fun H a ns hl ht hs => ?_, fun base hb hG tb => ?_⟩
  · rw [List.mem_singleton.mp hp]; exact c.empty _ (by decide +kernel)
  · rw [List.mem_singleton.mp hp]; exact c.out _ (by decide +kernel)
  · rw [List.mem_singleton.mp hp]; exact PySem.W.codeHd_of_K KX (c.hd _ (by decide +kernel))
  · obtain ⟨ob, hs⟩ := hs
    refine ⟨fun _ => False, [scr ns], .v (.bool true), .none, fun _ z => z.elim, fun p hp => ?_, plain ns hl, rfl, .inl ⟨rfl, scr_rp hs, fun v H' _ r => Rp.bl_of r⟩⟩
    rw [List.mem_singleton.mp hp]
    exact LamX.TabS.nil (ht _ (List.mem_singleton.mpr rfl))
  · have e := hmg.symm.trans (He.glo_ok KX G (c.d.fact 52 (f := .glo "law") rfl))
    cases e
    exact F88.all (P := P) (w := w) ⟨hb, hG, c.d, fun p hp => tb _ (by rw [show p = (("told_next_orders", none) : He.Defn) from List.mem_singleton.mp hp]; exact List.mem_singleton.mpr rfl), rfl⟩ F
end P88
open PySem PySem.W PySem.Calls PyProof.Rows
theorem PySem.Challenge.cw_leastendwithcuts_k88_whole_flows_put_tog_holds : PySem.Challenge.rw_leastendwithcuts_k88_whole_flows_put_tog.Holds := by
  w_on; o_law
  refine HandSHeadRun.head_any (r := OpenLaw.row PySem.Challenge.rw_leastendwithcuts_k88_whole_flows_put_tog) (q := view (OpenLaw.row PySem.Challenge.rw_leastendwithcuts_k88_whole_flows_put_tog).prog [80]) (H := H88.hk) (ob := H88.ob) (M := 20000) (loose := H88.loose) (d := HandSHeadRun.topDef (OpenLaw.row PySem.Challenge.rw_leastendwithcuts_k88_whole_flows_put_tog).prog 80) (kwd := []) H88.ob_eq
    (by kernel_rfl) (fun s => by kernel_rfl) H88.run (by kernel_rfl) (by kernel_rfl) (by kernel_rfl) (by rfl) (by first | assumption | decide +kernel) (by decide +kernel) ⟨rfl, rfl, rfl, rfl, rfl, by decide +kernel⟩ ?hw ?hc
  case hw => w_witness2
  case hc =>
    refine LamX.walk_G (l := PySem.Challenge.rw_leastendwithcuts_k88_whole_flows_put_tog) (n := 63) (k := 11) (x := "script") (CX := L2.CX0) rfl (by decide) (by kernel_rfl) ⟨rfl, by decide, by decide⟩ ?F (fun _ _ _ _ z => z)
    intro w mg fa h Y G hmg0
    have hmg : mg ("law" : PySem.Str) = some (.ref fa) := by
      have e : (HandSHeadRun.topDef (OpenLaw.row PySem.Challenge.rw_leastendwithcuts_k88_whole_flows_put_tog).prog 80).name = ("law" : PySem.Str) := by kernel_rfl
      rw [← e]
      exact hmg0
    exact P88.goal w mg fa h Y G hmg
