import PyProof.Rows.All
import Wide.All
import OpenK.AllK
import Wide.FinOn
import PyProof.EqAt
import PyProof.EqKinds
import PyProof.TupleCall
import HandS.ForMost
import HandS.Evl
import HandS.Exc
import HandS.IsInst
import HandS.Star
import HandS.TupAny
import HandS.TryOnly
import HandS.CallSlots
import HandS.List
import HandS.TupMul
import HandS.Text
import HandS.Deep
import HandS.Wide
import HandS.RaiseMore
import HandS.RevRange
import HandS.Iter
import HandS.Conv
import HandS.More
import HandS.Dict
import PyProof.ReprRoads
import PyProof.CallFns
import HandS.ExcInit
import HandS.ExcIs
import HandS.TryMany
import HandS.ForSpec
import Open.SpecLaws
import HandS.Words
import HandS.WordsExc
import HandS.Ends
import PyProof.StrLawsRepr
import PyProof.Rows.StrJoinMade
import PyProof.ReprText
import PySem.Challenge.RW_bothatlast_k04_forms_and_errors
/-! # VsA -/
set_option Elab.async false
set_option linter.all false
set_option maxRecDepth 100000
set_option maxHeartbeats 2000000
/-! Vs, part A: the values that a def's names hold, told as data; which addresses are hidden; how a state is told by an environment. -/
namespace Vs
open PySem L2
open Evl (Ex)

abbrev Dt := PySem.PyData

/-- what a name holds: nothing told; data that nobody changes; a list of one's own; a list that the caller lent (f: given away since); a caught error; the script -/
inductive Sl where
  | un | d (x : Dt) | l (xs : List Dt) | r (f : Bool) (xs : List Dt) | e (c : Nat) (x : Dt) | s (ns : List Int)
abbrev En := List Sl
/-- what an expression gives: data; a new list of one's own; what name i holds -/
inductive Rv where
  | d (x : Dt) | o (xs : List Dt) | v (i : Nat)
inductive Rs (α : Type) where
  | ok (a : α) (E : En) | ex (c : Nat) (x : Dt) (E : En) | no
abbrev M (α : Type) := En → Rs α

/-- the error classes: where they stand, the name of their field -/
structure Gi where
  K : PySem.W.Frag
  cls : Nat → Addr
  fld : Nat → Str
/-- the error that is being handled -/
abbrev Xa := Option (Addr × Value × Option Addr)

def hid (S : List Addr) (H : Hp) : Hp := fun a => if a ∈ S then none else H a
theorem hid_in {S : List Addr} {H : Hp} {a : Addr} (h : a ∈ S) : hid S H a = none := if_pos h
theorem hid_out {S : List Addr} {H : Hp} {a : Addr} (h : a ∉ S) : hid S H a = H a := if_neg h
theorem hid_some {S : List Addr} {H : Hp} {a : Addr} {o : HO} : hid S H a = some o ↔ a ∉ S ∧ H a = some o := by
  unfold hid
  split
  · constructor
    · intro h; cases h
    · intro h; exact absurd ‹a ∈ S› h.1
  · constructor
    · intro h; exact ⟨‹_›, h⟩
    · intro h; exact h.2
theorem ex_hid {S T : List Addr} {H : Hp} (h : ∀ a ∈ T, a ∈ S) : Ex (hid S H) (hid T H) := fun a o e => by
  rw [hid_some] at e ⊢
  exact ⟨fun q => e.1 (h a q), e.2⟩
theorem ex_hid0 {S : List Addr} {H : Hp} : Ex (hid S H) H := fun a o e => (hid_some.mp e).2
theorem hid_upd_in {S : List Addr} {H : Hp} {a : Addr} {o : HO} (h : a ∈ S) : hid S (upd H a o) = hid S H := by
  funext b
  by_cases hb : b ∈ S
  · rw [hid_in hb, hid_in hb]
  · rw [hid_out hb, hid_out hb, upd_ne (show b ≠ a by rintro rfl; exact hb h)]
theorem hid_upd_out {S : List Addr} {H : Hp} {a : Addr} {o : HO} (h : a ∉ S) : hid S (upd H a o) = upd (hid S H) a o := by
  funext b
  by_cases hb : b ∈ S
  · rw [hid_in hb, upd_ne (show b ≠ a by rintro rfl; exact h hb), hid_in hb]
  · rw [hid_out hb]
    by_cases hba : b = a
    · subst hba; rw [upd_same, upd_same]
    · rw [upd_ne hba, upd_ne hba, hid_out hb]
theorem hid_upd_cons {S : List Addr} {H : Hp} {a : Addr} {o : HO} (h : H a = none) : hid (a :: S) (upd H a o) = hid S H := by
  funext b
  by_cases hba : b = a
  · subst hba
    rw [hid_in List.mem_cons_self]
    by_cases hb : b ∈ S
    · rw [hid_in hb]
    · rw [hid_out hb, h]
  · by_cases hb : b ∈ S
    · rw [hid_in (List.mem_cons_of_mem _ hb), hid_in hb]
    · rw [hid_out (by simp [hba, hb]), hid_out hb, upd_ne hba]
theorem hid_congr {S T : List Addr} {H : Hp} (h : ∀ a, a ∈ S ↔ a ∈ T) : hid S H = hid T H := by
  funext b
  by_cases hb : b ∈ S
  · rw [hid_in hb, hid_in ((h b).mp hb)]
  · rw [hid_out hb, hid_out (fun q => hb ((h b).mpr q))]

/-! ### data read off a heap: as Dp, but each list is a tracked one -/
mutual
inductive Dv (K : PySem.W.Frag) (H : Hp) : V → Dt → Prop
  | non : Dv K H .non .none
  | bl (b : Bool) : Dv K H (.bl b) (.bool b)
  | int (i : Int) : Dv K H (.int i) (.int i)
  | str (s : Str) : Dv K H (.str s) (.str s)
  | lst {a : Addr} {vs : List V} {xs : List Dt} (h : H a = some (.lst vs)) (d : DvAll K H vs xs) : Dv K H (.ref a) (.list xs)
  | tup {a : Addr} {vs : List V} {xs : List Dt} (h : SqT K H a vs) (d : DvAll K H vs xs) : Dv K H (.ref a) (.tuple xs)
  | dct {a : Addr} {s : Str} {v : V} {x : Dt} (h : H a = some (.dK [(Sum.inr s, v)])) (d : Dv K H v x) : Dv K H (.ref a) (.dict [(.str s, x)])
inductive DvAll (K : PySem.W.Frag) (H : Hp) : List V → List Dt → Prop
  | nil : DvAll K H [] []
  | cons {v : V} {vs : List V} {x : Dt} {xs : List Dt} (h : Dv K H v x) (t : DvAll K H vs xs) : DvAll K H (v :: vs) (x :: xs)
end
mutual
theorem dp_mono {K : PySem.W.Frag} {H H' : Hp} (e : Ex H H') : ∀ {x : Dt} {v : V}, Dv K H v x → Dv K H' v x
  | _, _, .non => .non
  | _, _, .bl b => .bl b
  | _, _, .int i => .int i
  | _, _, .str s => .str s
  | _, _, .lst h d => .lst (e _ _ h) (dpa_mono e d)
  | _, _, .tup h d => .tup (Evl.ex_t e h) (dpa_mono e d)
  | _, _, .dct h d => .dct (e _ _ h) (dp_mono e d)
theorem dpa_mono {K : PySem.W.Frag} {H H' : Hp} (e : Ex H H') : ∀ {xs : List Dt} {vs : List V}, DvAll K H vs xs → DvAll K H' vs xs
  | _, _, .nil => .nil
  | _, _, .cons h t => .cons (dp_mono e h) (dpa_mono e t)
end
theorem Dv.up {K : PySem.W.Frag} {H H' : Hp} {v : V} {x : Dt} (h : Dv K H v x) (e : Ex H H') : Dv K H' v x := dp_mono e h
theorem DvAll.up {K : PySem.W.Frag} {H H' : Hp} {vs : List V} {xs : List Dt} (h : DvAll K H vs xs) (e : Ex H H') : DvAll K H' vs xs := dpa_mono e h
section
variable {K : PySem.W.Frag} {H : Hp}
theorem dpa_len : ∀ {vs : List V} {xs : List Dt}, DvAll K H vs xs → vs.length = xs.length
  | _, _, .nil => rfl
  | _, _, .cons _ t => congrArg (· + 1) (dpa_len t)
theorem dpa_at : ∀ {vs : List V} {xs : List Dt} {i : Nat} {x : Dt}, DvAll K H vs xs → xs[i]? = some x → ∃ v, vs[i]? = some v ∧ Dv K H v x
  | _, _, _, _, .nil, e => by simp at e
  | _, _, 0, _, .cons h _, e => by simp at e; subst e; exact ⟨_, rfl, h⟩
  | _, _, i + 1, _, .cons _ t, e => by
    obtain ⟨v, h1, h2⟩ := dpa_at (i := i) t (by simpa using e)
    exact ⟨v, by simpa using h1, h2⟩
theorem dpa_atV : ∀ {vs : List V} {xs : List Dt} {i : Nat} {v : V}, DvAll K H vs xs → vs[i]? = some v → ∃ x, xs[i]? = some x ∧ Dv K H v x
  | _, _, _, _, .nil, e => by simp at e
  | _, _, 0, _, .cons h _, e => by simp at e; subst e; exact ⟨_, rfl, h⟩
  | _, _, i + 1, _, .cons _ t, e => by
    obtain ⟨v, h1, h2⟩ := dpa_atV (i := i) t (by simpa using e)
    exact ⟨v, by simpa using h1, h2⟩
theorem dpa_app : ∀ {vs ws : List V} {xs ys : List Dt}, DvAll K H vs xs → DvAll K H ws ys → DvAll K H (vs ++ ws) (xs ++ ys)
  | _, _, _, _, .nil, h => h
  | _, _, _, _, .cons a t, h => .cons a (dpa_app t h)
theorem dpa_take : ∀ {vs : List V} {xs : List Dt} (n : Nat), DvAll K H vs xs → DvAll K H (vs.take n) (xs.take n)
  | _, _, 0, _ => by simp; exact .nil
  | _, _, _ + 1, .nil => .nil
  | _, _, n + 1, .cons a t => .cons a (dpa_take n t)
theorem dpa_drop : ∀ {vs : List V} {xs : List Dt} (n : Nat), DvAll K H vs xs → DvAll K H (vs.drop n) (xs.drop n)
  | _, _, 0, h => h
  | _, _, _ + 1, .nil => .nil
  | _, _, n + 1, .cons _ t => dpa_drop n t
theorem dpa_set : ∀ {vs : List V} {xs : List Dt} {v : V} {x : Dt} (n : Nat), DvAll K H vs xs → Dv K H v x → DvAll K H (vs.set n v) (xs.set n x)
  | _, _, _, _, _, .nil, _ => .nil
  | _, _, _, _, 0, .cons _ t, h => .cons h t
  | _, _, _, _, n + 1, .cons a t, h => .cons a (dpa_set n t h)
theorem dpa_rev : ∀ {vs : List V} {xs : List Dt}, DvAll K H vs xs → DvAll K H vs.reverse xs.reverse
  | _, _, .nil => .nil
  | _, _, .cons a t => by
    rw [List.reverse_cons, List.reverse_cons]
    exact dpa_app (dpa_rev t) (.cons a .nil)
theorem dpa_one {v : V} {x : Dt} (h : Dv K H v x) : DvAll K H [v] [x] := .cons h .nil
theorem dpa_mk : ∀ {vs : List V} {xs : List Dt}, vs.length = xs.length → (∀ (i : Nat) (v : V) (x : Dt), vs[i]? = some v → xs[i]? = some x → Dv K H v x) → DvAll K H vs xs
  | [], [], _, _ => .nil
  | v :: vs, x :: xs, hl, h => .cons (h 0 v x rfl rfl) (dpa_mk (by simpa using hl) fun i v x h1 h2 => h (i + 1) v x (by simpa using h1) (by simpa using h2))
  | [], _ :: _, hl, _ => by simp at hl
  | _ :: _, [], hl, _ => by simp at hl
end

/-! ### whose lists are one's own -/
def ownA : Sl → Option V → List Addr
  | .l _, some (.ref a) => [a]
  | .r false _, some (.ref a) => [a]
  | _, _ => []
def own : En → St → List Addr
  | s :: E, v :: σ => ownA s v ++ own E σ
  | _, _ => []
theorem own_split : ∀ {E : En} {σ : St} {i : Nat} {s : Sl} {v : Option V}, E[i]? = some s → σ[i]? = some v →
    ∃ A B, own E σ = A ++ (ownA s v ++ B) ∧ ∀ s' v', own (E.set i s') (σ.set i v') = A ++ (ownA s' v' ++ B)
  | [], _, _, _, _, h, _ => by simp at h
  | _ :: _, [], _, _, _, _, h => by simp at h
  | s0 :: E, v0 :: σ, 0, s, v, h1, h2 => by
    simp at h1 h2
    subst h1; subst h2
    exact ⟨[], own E σ, rfl, fun _ _ => rfl⟩
  | s0 :: E, v0 :: σ, i + 1, s, v, h1, h2 => by
    obtain ⟨A, B, e1, e2⟩ := own_split (i := i) (by simpa using h1) (by simpa using h2)
    refine ⟨ownA s0 v0 ++ A, B, ?_, fun s' v' => ?_⟩
    · show ownA s0 v0 ++ own E σ = _
      rw [e1, List.append_assoc]
    · show ownA s0 v0 ++ own (E.set i s') (σ.set i v') = _
      rw [e2, List.append_assoc]
theorem own_mem : ∀ {E : En} {σ : St} {a : Addr}, a ∈ own E σ → ∃ (i : Nat) (s : Sl) (v : Option V), E[i]? = some s ∧ σ[i]? = some v ∧ a ∈ ownA s v
  | [], _, _, h => by simp [own] at h
  | _ :: _, [], _, h => by simp [own] at h
  | s :: E, v :: σ, a, h => by
    rcases List.mem_append.mp (show a ∈ ownA s v ++ own E σ from h) with h | h
    · exact ⟨0, s, v, rfl, rfl, h⟩
    · obtain ⟨i, s', v', h1, h2, h3⟩ := own_mem h
      exact ⟨i + 1, s', v', by simpa using h1, by simpa using h2, h3⟩
theorem mem_own : ∀ {E : En} {σ : St} {a : Addr} {i : Nat} {s : Sl} {v : Option V}, E[i]? = some s → σ[i]? = some v → a ∈ ownA s v → a ∈ own E σ := fun h1 h2 h => by
  obtain ⟨A, B, e, _⟩ := own_split h1 h2
  rw [e]
  exact List.mem_append_right _ (List.mem_append_left _ h)
theorem set_self {α : Type} : ∀ {l : List α} {i : Nat} {x : α}, l[i]? = some x → l.set i x = l
  | [], _, _, h => by simp at h
  | _ :: _, 0, _, h => by simp at h; subst h; rfl
  | y :: l, i + 1, x, h => by
    show y :: l.set i x = _
    rw [set_self (by simpa using h)]
end Vs
/-! # VsB -/
set_option Elab.async false
set_option linter.all false
set_option maxRecDepth 100000
set_option maxHeartbeats 2000000
/-! Vs, part B: a state told by an environment; steps; what an expression's meaning asks. -/
namespace Vs
open PySem L2
open Evl (Ex)

def SR (G : Gi) (xa : Xa) (Hh H : Hp) : Sl → Option V → Prop
  | .un, _ => True
  | .d x, some v => Dv G.K Hh v x
  | .l xs, some (.ref a) => ∃ vs, H a = some (.lst vs) ∧ DvAll G.K Hh vs xs
  | .r false xs, some (.ref a) => ∃ vs, H a = some (.lst vs) ∧ DvAll G.K Hh vs xs
  | .r true xs, some v => Dv G.K Hh v (.list xs)
  | .e c x, some (.ref a) => ∃ dd w, xa = some (a, .ref (G.cls c), some dd) ∧ Hh dd = some (.xd [(G.fld c, w)]) ∧ Dv G.K Hh w x
  | .s ns, some (.ref a) => SqL G.K Hh a (ns.map V.int)
  | _, _ => False
theorem SR.up {G : Gi} {xa : Xa} {Hh H Hh' H' : Hp} {s : Sl} {v : Option V} (h : SR G xa Hh H s v) (e : Ex Hh Hh') (k : ∀ a ∈ ownA s v, H' a = H a) : SR G xa Hh' H' s v := by
  cases s with
  | un => exact h
  | d x =>
    cases v with
    | none => exact h
    | some v => exact Dv.up h e
  | l xs =>
    cases v with
    | none => exact h
    | some v =>
      cases v with
      | ref a =>
        obtain ⟨vs, h1, h2⟩ := h
        exact ⟨vs, (k a (by simp [ownA])).trans h1, h2.up e⟩
      | _ => exact h
  | r f xs =>
    cases f with
    | true =>
      cases v with
      | none => exact h
      | some v => exact Dv.up (x := .list xs) h e
    | false =>
      cases v with
      | none => exact h
      | some v =>
        cases v with
        | ref a =>
          obtain ⟨vs, h1, h2⟩ := h
          exact ⟨vs, (k a (by simp [ownA])).trans h1, h2.up e⟩
        | _ => exact h
  | e c x =>
    cases v with
    | none => exact h
    | some v =>
      cases v with
      | ref a =>
        obtain ⟨dd, w, h1, h2, h3⟩ := h
        exact ⟨dd, w, h1, e _ _ h2, h3.up e⟩
      | _ => exact h
  | s ns =>
    cases v with
    | none => exact h
    | some v =>
      cases v with
      | ref a => exact Evl.ex_l e h
      | _ => exact h
theorem SR.own {G : Gi} {xa : Xa} {Hh H : Hp} {s : Sl} {v : Option V} (h : SR G xa Hh H s v) {a : Addr} (ha : a ∈ ownA s v) :
    v = some (.ref a) ∧ ∃ vs xs, H a = some (.lst vs) ∧ DvAll G.K Hh vs xs ∧ (s = .l xs ∨ s = .r false xs) := by
  unfold ownA at ha
  split at ha
  · simp at ha
    subst ha
    obtain ⟨vs, h1, h2⟩ := h
    exact ⟨rfl, vs, _, h1, h2, .inl rfl⟩
  · simp at ha
    subst ha
    obtain ⟨vs, h1, h2⟩ := h
    exact ⟨rfl, vs, _, h1, h2, .inr rfl⟩
  · simp at ha

structure ER (G : Gi) (xa : Xa) (F ex : List Addr) (σ : L2.St) (H : Hp) (E : En) : Prop where
  nd : (F ++ (ex ++ own E σ)).Nodup
  tr : ∀ a ∈ F ++ ex, H a ≠ none
  len : E.length = σ.length
  sl : ∀ (i : Nat) (s : Sl) (v : Option V), E[i]? = some s → σ[i]? = some v → SR G xa (hid (F ++ (ex ++ own E σ)) H) H s v
abbrev vis (F : List Addr) (E : En) (σ : L2.St) (H : Hp) : Hp := hid (F ++ own E σ) H
/-- a lent name stays what it is -/
def Fx (E : En) (σ : L2.St) (E' : En) (σ' : L2.St) : Prop := ∀ (i : Nat) (f : Bool) (xs : List Dt), E[i]? = some (.r f xs) → (∃ f' xs', E'[i]? = some (.r f' xs')) ∧ σ'[i]? = σ[i]?
theorem Fx.refl (E : En) (σ : L2.St) : Fx E σ E σ := fun _ _ _ h => ⟨⟨_, _, h⟩, rfl⟩
theorem Fx.trans {E E1 E2 : En} {σ σ1 σ2 : L2.St} (a : Fx E σ E1 σ1) (b : Fx E1 σ1 E2 σ2) : Fx E σ E2 σ2 := fun i f xs h => by
  obtain ⟨⟨f1, x1, h1⟩, e1⟩ := a i f xs h
  obtain ⟨h2, e2⟩ := b i f1 x1 h1
  exact ⟨h2, e2.trans e1⟩
structure Stp (F : List Addr) (E : En) (σ : L2.St) (H : Hp) (ex : List Addr) (E' : En) (σ' : L2.St) (H' : Hp) : Prop where
  fr : Ex (vis F E σ H) (hid (F ++ (ex ++ own E' σ')) H')
  kp : ∀ a ∈ F, H' a = H a
  fx : Fx E σ E' σ'
  ln : σ'.length = σ.length
theorem Stp.refl (F : List Addr) (E : En) (σ : L2.St) (H : Hp) : Stp F E σ H [] E σ H := ⟨Evl.Ex.refl _, fun _ _ => rfl, Fx.refl _ _, rfl⟩
theorem Stp.trans {F ex : List Addr} {E E1 E2 : En} {σ σ1 σ2 : L2.St} {H H1 H2 : Hp} (a : Stp F E σ H [] E1 σ1 H1) (b : Stp F E1 σ1 H1 ex E2 σ2 H2) : Stp F E σ H ex E2 σ2 H2 :=
  ⟨Evl.Ex.trans a.fr b.fr, fun x hx => (b.kp x hx).trans (a.kp x hx), a.fx.trans b.fx, b.ln.trans a.ln⟩
theorem Stp.less {F ex : List Addr} {E E1 : En} {σ σ1 : L2.St} {H H1 : Hp} (a : Stp F E σ H ex E1 σ1 H1) : Stp F E σ H [] E1 σ1 H1 :=
  ⟨Evl.Ex.trans a.fr (ex_hid fun x hx => by
    rcases List.mem_append.mp hx with h | h
    · exact List.mem_append_left _ h
    · exact List.mem_append_right _ (List.mem_append_right _ h)), a.kp, a.fx, a.ln⟩

section
variable {G : Gi} {xa : Xa} {F ex : List Addr} {σ : L2.St} {H H' : Hp} {E E' : En}
theorem ER.slot (er : ER G xa F ex σ H E) {i : Nat} {s : Sl} (h : E[i]? = some s) : ∃ v, σ[i]? = some v ∧ SR G xa (hid (F ++ (ex ++ own E σ)) H) H s v := by
  have hi : i < σ.length := by rw [← er.len]; exact (List.getElem?_eq_some_iff.mp h).1
  exact ⟨σ[i], List.getElem?_eq_getElem hi, er.sl i s _ h (List.getElem?_eq_getElem hi)⟩
theorem ER.ownT (er : ER G xa F ex σ H E) {a : Addr} (h : a ∈ own E σ) : ∃ vs, H a = some (.lst vs) := by
  obtain ⟨i, s, v, h1, h2, h3⟩ := own_mem h
  obtain ⟨_, vs, xs, h4, _⟩ := (er.sl i s v h1 h2).own h3
  exact ⟨vs, h4⟩
theorem ER.trAll (er : ER G xa F ex σ H E) {a : Addr} (h : a ∈ F ++ (ex ++ own E σ)) : H a ≠ none := by
  rcases List.mem_append.mp h with h | h
  · exact er.tr a (List.mem_append_left _ h)
  · rcases List.mem_append.mp h with h | h
    · exact er.tr a (List.mem_append_right _ h)
    · obtain ⟨vs, e⟩ := er.ownT h
      rw [e]; simp
/-- the new list given up -/
theorem ER.drop (er : ER G xa F ex σ H E) : ER G xa F [] σ H E := by
  refine ⟨?_, fun a h => er.tr a ?_, er.len, fun i s v h1 h2 => (er.sl i s v h1 h2).up (ex_hid fun x hx => ?_) fun _ _ => rfl⟩
  · refine er.nd.sublist (List.Sublist.append (List.Sublist.refl _) ?_)
    exact List.sublist_append_right _ _
  · rw [List.append_nil] at h
    exact List.mem_append_left _ h
  · rcases List.mem_append.mp hx with h | h
    · exact List.mem_append_left _ h
    · exact List.mem_append_right _ (List.mem_append_right _ h)

/-- what a rule's own new objects leave -/
structure Nw (S ex : List Addr) (H H' : Hp) : Prop where
  fr : Ex (hid S H) (hid (ex ++ S) H')
  kp : ∀ a ∈ S, H' a = H a
  nd : ex.Nodup
  ds : ∀ a ∈ ex, a ∉ S
  tr : ∀ a ∈ ex, H' a ≠ none
theorem Nw.refl (S : List Addr) (H : Hp) : Nw S [] H H := ⟨Evl.Ex.refl _, fun _ _ => rfl, List.nodup_nil, fun _ h => (by cases h), fun _ h => (by cases h)⟩
/-- a new object, seen -/
theorem Nw.newD {S : List Addr} {H : Hp} {p : Addr} {o : HO} (tr : ∀ a ∈ S, H a ≠ none) (h : H p = none) : Nw S [] H (upd H p o) := by
  have hp : p ∉ S := fun z => tr p z h
  refine ⟨?_, fun a ha => upd_ne (by rintro rfl; exact hp ha), List.nodup_nil, fun _ h => (by cases h), fun _ h => (by cases h)⟩
  show Ex (hid S H) (hid S (upd H p o))
  rw [hid_upd_out hp]
  exact Evl.Ex.new (by rw [hid_out hp]; exact h)
/-- a new object, one's own -/
theorem Nw.newO {S : List Addr} {H : Hp} {p : Addr} {o : HO} (tr : ∀ a ∈ S, H a ≠ none) (h : H p = none) : Nw S [p] H (upd H p o) := by
  have hp : p ∉ S := fun z => tr p z h
  refine ⟨?_, fun a ha => upd_ne (by rintro rfl; exact hp ha), by simp, fun a ha => ?_, fun a ha => ?_⟩
  · show Ex (hid S H) (hid (p :: S) (upd H p o))
    rw [hid_upd_cons h]
    exact Evl.Ex.refl _
  · simp at ha; subst ha; exact hp
  · simp at ha; subst ha; rw [upd_same]; simp
theorem ER.new (er : ER G xa F [] σ H E) (n : Nw (F ++ own E σ) ex H H') : ER G xa F ex σ H' E := by
  have sub : ∀ x, x ∈ F ++ (ex ++ own E σ) → x ∈ ex ++ (F ++ own E σ) := fun x hx => by
    rcases List.mem_append.mp hx with h | h
    · exact List.mem_append_right _ (List.mem_append_left _ h)
    · rcases List.mem_append.mp h with h | h
      · exact List.mem_append_left _ h
      · exact List.mem_append_right _ (List.mem_append_right _ h)
  refine ⟨?_, fun a h => ?_, er.len, fun i s v h1 h2 => (er.sl i s v h1 h2).up (Evl.Ex.trans n.fr (ex_hid sub)) fun a ha => n.kp a (List.mem_append_right _ (mem_own h1 h2 ha))⟩
  · have e0 : (F ++ own E σ).Nodup := er.nd
    rw [List.nodup_append] at e0 ⊢
    obtain ⟨n1, n2, n3⟩ := e0
    refine ⟨n1, ?_, fun a ha b hb => ?_⟩
    · rw [List.nodup_append]
      exact ⟨n.nd, n2, fun a ha b hb z => n.ds a ha (by rw [z]; exact List.mem_append_right _ hb)⟩
    · rcases List.mem_append.mp hb with hb | hb
      · intro z
        exact n.ds b hb (by rw [← z]; exact List.mem_append_left _ ha)
      · exact n3 a ha b hb
  · rcases List.mem_append.mp h with h | h
    · rw [n.kp a (List.mem_append_left _ h)]
      exact er.tr a (by rw [List.append_nil]; exact h)
    · exact n.tr a h
theorem Nw.stp (n : Nw (F ++ own E σ) ex H H') : Stp F E σ H ex E σ H' := by
  refine ⟨Evl.Ex.trans n.fr (ex_hid fun x hx => ?_), fun a ha => n.kp a (List.mem_append_left _ ha), Fx.refl _ _, rfl⟩
  rcases List.mem_append.mp hx with h | h
  · exact List.mem_append_right _ (List.mem_append_left _ h)
  · rcases List.mem_append.mp h with h | h
    · exact List.mem_append_left _ h
    · exact List.mem_append_right _ (List.mem_append_right _ h)
end

/-! ### changing an environment -/
section
variable {G : Gi} {xa : Xa} {F ex : List Addr} {σ : L2.St} {H H' : Hp} {E E' : En} {i : Nat}
theorem sub_tail {A B : List Addr} (x : List Addr) : (A ++ B).Sublist (A ++ (x ++ B)) := List.Sublist.append (List.Sublist.refl _) (List.sublist_append_right _ _)
theorem getElem?_set_cases {α : Type} {l : List α} {i j : Nat} {x y : α} (h : (l.set i x)[j]? = some y) : (j = i ∧ y = x) ∨ (j ≠ i ∧ l[j]? = some y) := by
  by_cases e : j = i
  · subst e
    by_cases hl : j < l.length
    · rw [List.getElem?_set_self hl] at h
      cases h; exact .inl ⟨rfl, rfl⟩
    · rw [List.getElem?_eq_none_iff.mpr (by rw [List.length_set]; omega)] at h
      cases h
  · rw [List.getElem?_set_ne (Ne.symm e)] at h
    exact .inr ⟨e, h⟩
theorem Fx.set {s : Sl} {v : Option V} (hs : ∀ f xs, E[i]? ≠ some (.r f xs)) : Fx E σ (E.set i s) (σ.set i v) := fun j f xs h => by
  have hj : j ≠ i := by rintro rfl; exact hs f xs h
  rw [List.getElem?_set_ne (Ne.symm hj), List.getElem?_set_ne (Ne.symm hj)]
  exact ⟨⟨_, _, h⟩, rfl⟩
/-- a slot set to something that owns nothing -/
theorem ER.setP (er : ER G xa F [] σ H E) {s0 s : Sl} {v : Option V} (h0 : E[i]? = some s0) (hn : ownA s v = [])
    (hr : SR G xa (vis F (E.set i s) (σ.set i v) H) H s v) : ER G xa F [] (σ.set i v) H (E.set i s) ∧ Ex (vis F E σ H) (vis F (E.set i s) (σ.set i v) H) := by
  obtain ⟨v0, hv0, _⟩ := er.slot h0
  obtain ⟨A, B, e1, e2⟩ := own_split h0 hv0
  have e3 := e2 s v
  rw [hn, List.nil_append] at e3
  have sb : (own (E.set i s) (σ.set i v)).Sublist (own E σ) := by
    rw [e1, e3]
    exact sub_tail _
  have ex1 : Ex (vis F E σ H) (vis F (E.set i s) (σ.set i v) H) := ex_hid fun x hx => by
    rcases List.mem_append.mp hx with h | h
    · exact List.mem_append_left _ h
    · exact List.mem_append_right _ (sb.subset h)
  refine ⟨⟨er.nd.sublist (List.Sublist.append (List.Sublist.refl _) sb), er.tr, by rw [List.length_set, List.length_set]; exact er.len, fun j s' v' h1 h2 => ?_⟩, ex1⟩
  rcases getElem?_set_cases h1 with ⟨rfl, rfl⟩ | ⟨hj, h1⟩
  · rcases getElem?_set_cases h2 with ⟨_, rfl⟩ | ⟨hj, _⟩
    · exact hr
    · exact absurd rfl hj
  · rw [List.getElem?_set_ne (Ne.symm hj)] at h2
    exact (er.sl j s' v' h1 h2).up ex1 fun _ _ => rfl
/-- a slot set to data -/
theorem ER.setD (er : ER G xa F [] σ H E) {s0 : Sl} {v : V} {x : Dt} (h0 : E[i]? = some s0) (hd : Dv G.K (vis F E σ H) v x) :
    ER G xa F [] (σ.set i (some v)) H (E.set i (.d x)) ∧ Ex (vis F E σ H) (vis F (E.set i (.d x)) (σ.set i (some v)) H) := by
  have hn : ownA (.d x) (some v) = [] := rfl
  obtain ⟨v0, hv0, _⟩ := er.slot h0
  obtain ⟨A, B, e1, e2⟩ := own_split h0 hv0
  refine er.setP h0 hn (Dv.up hd (ex_hid fun y hy => ?_))
  rcases List.mem_append.mp hy with h | h
  · exact List.mem_append_left _ h
  · refine List.mem_append_right _ ?_
    rw [e2, hn, List.nil_append] at h
    rw [e1]
    exact (sub_tail _).subset h
/-- a slot set to a new list of one's own -/
theorem ER.setL {a : Addr} (er : ER G xa F [a] σ H E) {s0 : Sl} {vs : List V} {xs : List Dt} (h0 : E[i]? = some s0) (ha : H a = some (.lst vs)) (hd : DvAll G.K (hid (F ++ ([a] ++ own E σ)) H) vs xs) :
    ER G xa F [] (σ.set i (some (.ref a))) H (E.set i (.l xs)) ∧ Ex (hid (F ++ ([a] ++ own E σ)) H) (vis F (E.set i (.l xs)) (σ.set i (some (.ref a))) H) := by
  obtain ⟨v0, hv0, _⟩ := er.slot h0
  obtain ⟨A, B, e1, e2⟩ := own_split h0 hv0
  have e3 := e2 (.l xs) (some (.ref a))
  have mem : ∀ x, x ∈ F ++ own (E.set i (.l xs)) (σ.set i (some (.ref a))) → x ∈ F ++ ([a] ++ own E σ) := fun x hx => by
    rcases List.mem_append.mp hx with h | h
    · exact List.mem_append_left _ h
    · refine List.mem_append_right _ ?_
      rw [e3] at h
      rw [e1]
      simp only [ownA, List.mem_append, List.mem_singleton] at h ⊢
      rcases h with h | h | h
      · exact .inr (.inl h)
      · exact .inl h
      · exact .inr (.inr (.inr h))
  have ex1 : Ex (hid (F ++ ([a] ++ own E σ)) H) (vis F (E.set i (.l xs)) (σ.set i (some (.ref a))) H) := ex_hid mem
  refine ⟨⟨?_, fun x hx => er.tr x ?_, by rw [List.length_set, List.length_set]; exact er.len, fun j s' v' h1 h2 => ?_⟩, ex1⟩
  · show (F ++ own (E.set i (.l xs)) (σ.set i (some (.ref a)))).Nodup
    have n := er.nd
    rw [e3]
    rw [e1] at n
    have p : (F ++ (A ++ ([a] ++ B))).Perm (F ++ ([a] ++ (A ++ B))) := List.Perm.append_left _ (by
      rw [← List.append_assoc, ← List.append_assoc]
      exact List.Perm.append_right _ List.perm_append_comm)
    refine (p.nodup_iff).mpr (n.sublist (List.Sublist.append (List.Sublist.refl _) (List.Sublist.append (List.Sublist.refl _) (sub_tail _))))
  · rw [List.append_nil] at hx
    exact List.mem_append_left _ hx
  · rcases getElem?_set_cases h1 with ⟨rfl, rfl⟩ | ⟨hj, h1⟩
    · rcases getElem?_set_cases h2 with ⟨_, rfl⟩ | ⟨hj, _⟩
      · exact ⟨vs, ha, hd.up ex1⟩
      · exact absurd rfl hj
    · rw [List.getElem?_set_ne (Ne.symm hj)] at h2
      exact (er.sl j s' v' h1 h2).up ex1 fun _ _ => rfl
/-- a list of one's own changes -/
theorem ER.mut (er : ER G xa F [] σ H E) {s0 s1 : Sl} {a : Addr} {vs : List V} {xs : List Dt} (h0 : E[i]? = some s0) (hv : σ[i]? = some (some (.ref a))) (ho : ownA s0 (some (.ref a)) = [a])
    (h1 : s1 = .l xs ∨ s1 = .r false xs) (hd : DvAll G.K (vis F E σ H) vs xs) : ER G xa F [] σ (upd H a (.lst vs)) (E.set i s1) ∧ vis F (E.set i s1) σ (upd H a (.lst vs)) = vis F E σ H := by
  obtain ⟨A, B, e1, e2⟩ := own_split h0 hv
  have hs : σ.set i (some (.ref a)) = σ := set_self hv
  have e3 := e2 s1 (some (.ref a))
  have ho1 : ownA s1 (some (.ref a)) = [a] := by
    rcases h1 with rfl | rfl <;> rfl
  rw [hs, ho1, ← ho, ← e1] at e3
  have hm : a ∈ F ++ own E σ := List.mem_append_right _ (mem_own h0 hv (by rw [ho]; simp))
  have ev : vis F (E.set i s1) σ (upd H a (.lst vs)) = vis F E σ H := by
    show hid (F ++ own (E.set i s1) σ) _ = _
    rw [e3]
    exact hid_upd_in hm
  have n0 : (F ++ own E σ).Nodup := er.nd
  have aF : a ∉ F := fun z => by
    have q := (List.nodup_append.mp n0).2.2 a z a (mem_own h0 hv (by rw [ho]; simp))
    exact q rfl
  refine ⟨⟨by show (F ++ own (E.set i s1) σ).Nodup; rw [e3]; exact n0, fun b hb => ?_, by rw [List.length_set]; exact er.len, fun j s' v' g1 g2 => ?_⟩, ev⟩
  · rw [List.append_nil] at hb
    rw [upd_ne (by rintro rfl; exact aF hb)]
    exact er.tr b (by rw [List.append_nil]; exact hb)
  · show SR G xa (vis F (E.set i s1) σ (upd H a (.lst vs))) (upd H a (.lst vs)) s' v'
    rw [ev]
    rcases getElem?_set_cases g1 with ⟨rfl, rfl⟩ | ⟨hj, g1⟩
    · rw [hv] at g2
      cases g2
      rcases h1 with rfl | rfl
      · exact ⟨vs, upd_same, hd⟩
      · exact ⟨vs, upd_same, hd⟩
    · refine (er.sl j s' v' g1 g2).up (Evl.Ex.refl _) fun b hb => upd_ne ?_
      rintro rfl
      -- the address stands once
      have n1 : (own E σ).Nodup := (List.nodup_append.mp n0).2.1
      have key : ∀ {E : En} {σ : L2.St} {i j : Nat} {s s' : Sl} {v v' : Option V} {a : Addr}, (own E σ).Nodup → E[i]? = some s → σ[i]? = some v → E[j]? = some s' → σ[j]? = some v' → a ∈ ownA s v → a ∈ ownA s' v' → i = j := by
        intro E
        induction E with
        | nil => intro σ i j s s' v v' a _ h; simp at h
        | cons t E ih =>
          intro σ i j s s' v v' a n g1 g2 g3 g4 m1 m2
          cases σ with
          | nil => simp at g2
          | cons u σ =>
            have n : (ownA t u ++ own E σ).Nodup := n
            obtain ⟨_, n2, n3⟩ := List.nodup_append.mp n
            cases i with
            | zero =>
              simp at g1 g2
              subst g1; subst g2
              cases j with
              | zero => rfl
              | succ j => exact absurd rfl (n3 a m1 a (mem_own (by simpa using g3) (by simpa using g4) m2))
            | succ i =>
              cases j with
              | zero =>
                simp at g3 g4
                subst g3; subst g4
                exact absurd rfl (n3 a m2 a (mem_own (by simpa using g1) (by simpa using g2) m1))
              | succ j => exact congrArg (· + 1) (ih n2 (by simpa using g1) (by simpa using g2) (by simpa using g3) (by simpa using g4) m1 m2)
      exact hj (key n1 g1 g2 h0 hv hb (by rw [ho]; simp))
end
end Vs
/-! # VsC -/
set_option Elab.async false
set_option linter.all false
set_option maxRecDepth 100000
set_option maxHeartbeats 2000000
/-! Vs, part C: meanings, what they ask (tE, tT, tA), expressions. -/
namespace Vs
open PySem L2
open Evl (Ex)

/-! ### meanings -/
def Rs.go {α β : Type} (m : Rs α) (k : α → M β) : Rs β := match m with
  | .ok a E => k a E
  | .ex c x E => .ex c x E
  | .no => .no
def bnd {α β : Type} (m : M α) (k : α → M β) : M β := fun E => (m E).go k
def ret {α : Type} (a : α) : M α := fun E => .ok a E
def fail {α : Type} : M α := fun _ => .no
def fz : Rv → Rv
  | .o xs => .d (.list xs)
  | r => r
def slotD : Sl → Option Dt
  | .d x => some x
  | .l xs => some (.list xs)
  | .r _ xs => some (.list xs)
  | _ => none
def peek (r : Rv) (E : En) : Option Dt := match r with
  | .d x => some x
  | .o xs => some (.list xs)
  | .v i => (E[i]?).bind slotD
def val (r : Rv) : M Dt := fun E => match peek r E with
  | some x => .ok x E
  | none => .no
def frzS : Sl → Option (Dt × Sl)
  | .d x => some (x, .d x)
  | .l xs => some (.list xs, .d (.list xs))
  | .r _ xs => some (.list xs, .r true xs)
  | _ => none
/-- the value, given away -/
def keep (r : Rv) : M Dt := fun E => match r with
  | .d x => .ok x E
  | .o xs => .ok (.list xs) E
  | .v i => match (E[i]?).bind frzS with
    | some (x, s) => .ok x (E.set i s)
    | none => .no
def opt {α : Type} (o : Option α) : M α := match o with
  | some a => ret a
  | none => fail

/-! ### how a result is told -/
def VR (G : Gi) (F : List Addr) (σ : L2.St) (H : Hp) (E : En) (ex : List Addr) : Rv → V → Prop
  | .d x, v => ex = [] ∧ Dv G.K (vis F E σ H) v x
  | .o xs, v => ∃ a vs, ex = [a] ∧ v = .ref a ∧ H a = some (.lst vs) ∧ DvAll G.K (hid (F ++ (ex ++ own E σ)) H) vs xs
  | .v i, v => ex = [] ∧ σ[i]? = some (some v)
/-- a value as an operand: seen, or a list of one's own -/
def Op (G : Gi) (S : List Addr) (H : Hp) (v : V) (x : Dt) : Prop :=
  Dv G.K (hid S H) v x ∨ ∃ a vs xs, v = .ref a ∧ x = .list xs ∧ H a = some (.lst vs) ∧ DvAll G.K (hid S H) vs xs
section
variable {G : Gi} {xa : Xa} {F ex : List Addr} {σ : L2.St} {H H' : Hp} {E E' : En} {r : Rv} {v : V} {x : Dt}
theorem Op.dp {S : List Addr} (h : Op G S H v x) : Dv G.K H v x := by
  rcases h with h | ⟨a, vs, xs, rfl, rfl, h1, h2⟩
  · exact h.up ex_hid0
  · exact .lst h1 (h2.up ex_hid0)
theorem Op.lst {S : List Addr} {xs : List Dt} (h : Op G S H v (.list xs)) : ∃ a vs, v = .ref a ∧ H a = some (.lst vs) ∧ DvAll G.K (hid S H) vs xs := by
  rcases h with h | ⟨a, vs, ys, rfl, e, h1, h2⟩
  · cases h with
    | lst hs ha => exact ⟨_, _, rfl, ex_hid0 _ _ hs, ha⟩
  · cases e
    exact ⟨a, vs, rfl, h1, h2⟩
theorem Op.tup {S : List Addr} {xs : List Dt} (h : Op G S H v (.tuple xs)) : ∃ a vs, v = .ref a ∧ SqT G.K H a vs ∧ SqT G.K (hid S H) a vs ∧ DvAll G.K (hid S H) vs xs := by
  rcases h with h | ⟨a, vs, ys, rfl, e, h1, h2⟩
  · cases h with
    | tup hs ha => exact ⟨_, _, rfl, Evl.ex_t ex_hid0 hs, hs, ha⟩
  · cases e
theorem Op.int {S : List Addr} {i : Int} (h : Op G S H v (.int i)) : v = .int i := by
  rcases h with h | ⟨a, vs, ys, rfl, e, h1, h2⟩
  · cases h; rfl
  · cases e
theorem Op.bl {S : List Addr} {b : Bool} (h : Op G S H v (.bool b)) : v = .bl b := by
  rcases h with h | ⟨a, vs, ys, rfl, e, h1, h2⟩
  · cases h; rfl
  · cases e
theorem Op.str {S : List Addr} {s : Str} (h : Op G S H v (.str s)) : v = .str s := by
  rcases h with h | ⟨a, vs, ys, rfl, e, h1, h2⟩
  · cases h; rfl
  · cases e
theorem Op.non {S : List Addr} (h : Op G S H v .none) : v = .non := by
  rcases h with h | ⟨a, vs, ys, rfl, e, h1, h2⟩
  · cases h; rfl
  · cases e
/-- a new list becomes data -/
theorem VR.fz (er : ER G xa F ex σ H E) (vr : VR G F σ H E ex r v) : ER G xa F [] σ H E ∧ VR G F σ H E [] (fz r) v := by
  cases r with
  | d x =>
    obtain ⟨rfl, h⟩ := vr
    exact ⟨er, rfl, h⟩
  | o xs =>
    obtain ⟨a, vs, rfl, rfl, h1, h2⟩ := vr
    refine ⟨er.drop, rfl, .lst ?_ (h2.up (ex_hid fun x hx => ?_))⟩
    · have n := er.nd
      rw [List.nodup_append] at n
      obtain ⟨_, n2, n3⟩ := n
      have n2 : (a :: own E σ).Nodup := n2
      show hid (F ++ own E σ) H a = _
      rw [hid_out]
      · exact h1
      · intro z
        rcases List.mem_append.mp z with z | z
        · exact n3 a z a (by simp) rfl
        · exact (List.nodup_cons.mp n2).1 z
    · rcases List.mem_append.mp hx with h | h
      · exact List.mem_append_left _ h
      · exact List.mem_append_right _ (List.mem_append_right _ h)
  | v i => exact ⟨by obtain ⟨rfl, _⟩ := vr; exact er, rfl, vr.2⟩
/-- a result of an operand that went ahead -/
theorem VR.mv {ex' : List Addr} (vr : VR G F σ H E [] (Vs.fz r) v) (st : Stp F E σ H ex' E' σ H') : VR G F σ H' E' [] (Vs.fz r) v := by
  cases r with
  | d x => exact ⟨rfl, Dv.up vr.2 st.less.fr⟩
  | o xs => exact ⟨rfl, Dv.up vr.2 st.less.fr⟩
  | v i => exact vr
theorem slot_op {s : Sl} {v : V} {x : Dt} {S : List Addr} (h : SR G xa (hid S H) H s (some v)) (e : slotD s = some x) : Op G S H v x := by
  cases s with
  | un => cases e
  | d y => cases e; exact .inl h
  | l xs =>
    cases e
    cases v with
    | ref a =>
      obtain ⟨vs, h1, h2⟩ := h
      exact .inr ⟨a, vs, xs, rfl, rfl, h1, h2⟩
    | _ => exact False.elim h
  | r f xs =>
    cases e
    cases f with
    | true => exact .inl h
    | false =>
      cases v with
      | ref a =>
        obtain ⟨vs, h1, h2⟩ := h
        exact .inr ⟨a, vs, xs, rfl, rfl, h1, h2⟩
      | _ => exact False.elim h
  | e c y => cases e
  | s ns => cases e
theorem VR.op (er : ER G xa F [] σ H E) (vr : VR G F σ H E [] (Vs.fz r) v) (e : peek (Vs.fz r) E = some x) : Op G (F ++ own E σ) H v x := by
  have key : ∀ {r : Rv}, VR G F σ H E [] r v → peek r E = some x → (∀ xs, r ≠ .o xs) → Op G (F ++ own E σ) H v x := by
    intro r vr e hn
    cases r with
    | d y => cases e; exact .inl vr.2
    | o xs => exact absurd rfl (hn xs)
    | v i =>
      cases h : E[i]? with
      | none => rw [peek, h] at e; cases e
      | some s =>
        rw [peek, h] at e
        obtain ⟨v', hv, sr⟩ := er.slot h
        rw [vr.2] at hv
        cases hv
        exact slot_op sr e
  refine key vr e ?_
  intro xs
  cases r <;> simp [Vs.fz]
end

/-! ### what a meaning asks -/
def xP (G : Gi) (xa : Xa) (W : WX) (F : List Addr) (E : En) (σ : L2.St) (H : Hp) (c : Nat) (x : Dt) (E' : En) : Prop :=
  ∀ dd w σ' H', ER G xa F [] σ' H' E' → Stp F E σ H [] E' σ' H' → vis F E' σ' H' dd = some (.xd [(G.fld c, w)]) → Dv G.K (vis F E' σ' H') w x → W (.ref (G.cls c)) (some dd) σ' H'
theorem xP.from {G : Gi} {xa : Xa} {W : WX} {F : List Addr} {E E1 E' : En} {σ σ1 : L2.St} {H H1 : Hp} {c : Nat} {x : Dt} (h : xP G xa W F E σ H c x E') (st : Stp F E σ H [] E1 σ1 H1) : xP G xa W F E1 σ1 H1 c x E' :=
  fun dd w σ' H' er s1 h1 h2 => h dd w σ' H' er (st.trans s1) h1 h2
def tE (G : Gi) (xa : Xa) (W : WX) (m : M Rv) : TE := fun σ H Q => ∃ F E, ER G xa F [] σ H E ∧ match m E with
  | .ok r E' => ∀ ex v H', ER G xa F ex σ H' E' → Stp F E σ H ex E' σ H' → VR G F σ H' E' ex r v → Q v H'
  | .ex c x E' => xP G xa W F E σ H c x E'
  | .no => False
def tT (G : Gi) (xa : Xa) (W : WX) (m : M Bool) : TT := fun σ H Q => ∃ F E, ER G xa F [] σ H E ∧ match m E with
  | .ok b E' => ∀ H', ER G xa F [] σ H' E' → Stp F E σ H [] E' σ H' → Q b H'
  | .ex c x E' => xP G xa W F E σ H c x E'
  | .no => False
/-- all the arguments, each as it stands behind the last one -/
inductive VRs (G : Gi) (F : List Addr) (σ : L2.St) (H : Hp) (E : En) : List Rv → List V → Prop
  | nil : VRs G F σ H E [] []
  | cons {r : Rv} {rs : List Rv} {v : V} {vs : List V} : VR G F σ H E [] (fz r) v → VRs G F σ H E rs vs → VRs G F σ H E (fz r :: rs) (v :: vs)
def tA (G : Gi) (xa : Xa) (W : WX) (m : M (List Rv)) : TA := fun σ H Q => ∃ F E, ER G xa F [] σ H E ∧ match m E with
  | .ok rs E' => ∀ vs H', ER G xa F [] σ H' E' → Stp F E σ H [] E' σ H' → VRs G F σ H' E' rs vs → Q vs H'
  | .ex c x E' => xP G xa W F E σ H c x E'
  | .no => False
theorem VRs.mv {G : Gi} {F ex : List Addr} {σ : L2.St} {H H' : Hp} {E E' : En} {rs : List Rv} {vs : List V} (h : VRs G F σ H E rs vs) (st : Stp F E σ H ex E' σ H') : VRs G F σ H' E' rs vs := by
  induction h with
  | nil => exact .nil
  | cons h1 _ ih => exact .cons (h1.mv st) ih

def imE {X : Cx} {e : Expr} {t t' : TE} (h : PE X e t) (i : ∀ σ H Q, t' σ H Q → t σ H Q) : PE X e t' := ⟨fun pins s σ H Q I q => h.run pins s σ H Q I (i σ H Q q)⟩
def imT {X : Cx} {e : Expr} {t t' : TT} (h : PT X e t) (i : ∀ σ H Q, t' σ H Q → t σ H Q) : PT X e t' := ⟨fun pins s σ H Q I q => h.run pins s σ H Q I (i σ H Q q)⟩
def imA {X : Cx} {es : List Expr} {t t' : TA} (h : PA X es t) (i : ∀ σ H Q, t' σ H Q → t σ H Q) : PA X es t' := ⟨fun pos pins s σ H Q I q => h.run pos pins s σ H Q I (i σ H Q q)⟩
def imS {X : Cx} {st : Stmt} {t t' : TS} (h : PS X st t) (i : ∀ D σ H, t' D σ H → t D σ H) : PS X st t' := ⟨fun pins s σ H D I q => h.run pins s σ H D I (i D σ H q)⟩
def imSs {X : Cx} {st : List Stmt} {t t' : TS} (h : PSs X st t) (i : ∀ D σ H, t' D σ H → t D σ H) : PSs X st t' := ⟨fun pins s σ H D I q => h.run pins s σ H D I (i D σ H q)⟩

section
variable {G : Gi} {xa : Xa} {W : WX}
/-- an expression's meaning, then something with its value as an operand -/
theorem tE.go {ma : M Rv} {F : List Addr} {E : En} {σ : L2.St} {H : Hp} {Q : VK} (er : ER G xa F [] σ H E)
    (h : match ma E with
      | .ok r E' => ∀ v H', ER G xa F [] σ H' E' → Stp F E σ H [] E' σ H' → VR G F σ H' E' [] (fz r) v → Q v H'
      | .ex c x E' => xP G xa W F E σ H c x E'
      | .no => False) : tE G xa W ma σ H Q := by
  refine ⟨F, E, er, ?_⟩
  cases hm : ma E with
  | ok r E' =>
    rw [hm] at h
    intro ex v H' er' st vr
    obtain ⟨er2, vr2⟩ := vr.fz er'
    exact h v H' er2 st.less vr2
  | ex c x E' => rw [hm] at h; exact h
  | no => rw [hm] at h; exact h
end

/-! ### names and constants -/
def eVar (i : Nat) : M Rv := fun E => match E[i]? with
  | some .un => .no
  | some _ => .ok (.v i) E
  | none => .no
def eC (x : Dt) : M Rv := ret (.d x)
section
variable {G : Gi} {xa : Xa} {W : WX} {X : Cx}
theorem sr_some {F : List Addr} {E : En} {σ : L2.St} {H : Hp} (er : ER G xa F [] σ H E) {i : Nat} {s : Sl} (h : E[i]? = some s) (hs : s ≠ .un) : ∃ v, σ[i]? = some (some v) := by
  obtain ⟨v, hv, sr⟩ := er.slot h
  cases v with
  | some v => exact ⟨v, hv⟩
  | none =>
    cases s with
    | un => exact absurd rfl hs
    | d x => exact False.elim sr
    | l xs => exact False.elim sr
    | r f xs => cases f <;> exact False.elim sr
    | e c x => exact False.elim sr
    | s ns => exact False.elim sr
theorem ce_var {i : Nat} {x : Str} {pos : Pos} (h : PE X (.Name x pos) (tVar i)) : PE X (.Name x pos) (tE G xa W (eVar i)) := imE h fun σ H Q => by
  rintro ⟨F, E, er, h⟩
  unfold eVar at h
  cases hs : E[i]? with
  | none => rw [hs] at h; exact h.elim
  | some s =>
    rw [hs] at h
    by_cases hu : s = .un
    · subst hu; exact h.elim
    · obtain ⟨v, hv⟩ := sr_some er hs hu
      have h' : ∀ ex v H', ER G xa F ex σ H' E → Stp F E σ H ex E σ H' → VR G F σ H' E ex (.v i) v → Q v H' := by
        cases s <;> first | exact absurd rfl hu | exact h
      exact ⟨v, hv, h' [] v H er (Stp.refl F E σ H) ⟨rfl, hv⟩⟩
theorem ce_const {e : Expr} {v : V} {x : Dt} (h : PE X e (tC v)) (hd : ∀ K H, Dv K H v x) : PE X e (tE G xa W (eC x)) := imE h fun σ H Q => by
  rintro ⟨F, E, er, h⟩
  exact h [] v H er (Stp.refl F E σ H) ⟨rfl, hd _ _⟩
theorem ce_int {i : Int} {j : Nat} {pos : Pos} : PE X (.Constant (.int i) j pos) (tE G xa W (eC (.int i))) := ce_const pe_int fun _ _ => .int i
theorem ce_bl {b : Bool} {j : Nat} {pos : Pos} : PE X (.Constant (.bool b) j pos) (tE G xa W (eC (.bool b))) := ce_const pe_bl fun _ _ => .bl b
theorem ce_non {j : Nat} {pos : Pos} : PE X (.Constant .none j pos) (tE G xa W (eC .none)) := ce_const pe_non fun _ _ => .non
theorem ce_str {s : Str} {j : Nat} {pos : Pos} : PE X (.Constant (.str s) j pos) (tE G xa W (eC (.str s))) := ce_const pe_str fun _ _ => .str s

/-! ### operators -/
/-- a rule on values, told by data: what it gives of data, and its new objects -/
def NewV (G : Gi) (S : List Addr) (H H' : Hp) (ex : List Addr) : Rv → V → Prop
  | .d z, u => Nw S ex H H' ∧ ex = [] ∧ Dv G.K (hid S H') u z
  | .o xs, u => Nw S ex H H' ∧ ∃ a vs, ex = [a] ∧ u = .ref a ∧ H' a = some (.lst vs) ∧ DvAll G.K (hid (ex ++ S) H') vs xs
  | .v _, _ => False
theorem NewV.done {F ex : List Addr} {E : En} {σ : L2.St} {H H' : Hp} {r : Rv} {u : V} (er : ER G xa F [] σ H E) (n : NewV G (F ++ own E σ) H H' ex r u) :
    ER G xa F ex σ H' E ∧ Stp F E σ H ex E σ H' ∧ VR G F σ H' E ex r u := by
  cases r with
  | d z =>
    obtain ⟨n, rfl, d⟩ := n
    exact ⟨er.new n, n.stp, rfl, d⟩
  | o xs =>
    obtain ⟨n, a, vs, rfl, rfl, h1, h2⟩ := n
    refine ⟨er.new n, n.stp, a, vs, rfl, rfl, h1, h2.up (ex_hid fun x hx => ?_)⟩
    rcases List.mem_append.mp hx with h | h
    · exact List.mem_append_right _ (List.mem_append_left _ h)
    · rcases List.mem_append.mp h with h | h
      · exact List.mem_append_left _ h
      · exact List.mem_append_right _ (List.mem_append_right _ h)
  | v i => exact n.elim
/-- nothing new: a value as it stands -/
theorem NewV.same {S : List Addr} {H : Hp} {z : Dt} {u : V} (d : Dv G.K (hid S H) u z) : NewV G S H H [] (.d z) u := ⟨Nw.refl S H, rfl, d⟩
theorem NewV.tup {S : List Addr} {H : Hp} {p : Addr} {vs : List V} {xs : List Dt} (tr : ∀ a ∈ S, H a ≠ none) (hp : H p = none) (d : DvAll G.K (hid S H) vs xs) : NewV G S H (upd H p (.tup vs)) [] (.d (.tuple xs)) (.ref p) := by
  have n := Nw.newD (o := .tup vs) tr hp
  refine ⟨n, rfl, .tup (SqT.of ?_) (d.up n.fr)⟩
  rw [hid_out (fun z => tr p z hp), upd_same]
theorem NewV.lst {S : List Addr} {H : Hp} {p : Addr} {vs : List V} {xs : List Dt} (tr : ∀ a ∈ S, H a ≠ none) (hp : H p = none) (d : DvAll G.K (hid S H) vs xs) : NewV G S H (upd H p (.lst vs)) [p] (.o xs) (.ref p) := by
  have n := Nw.newO (o := .lst vs) tr hp
  exact ⟨n, p, vs, rfl, rfl, upd_same, d.up n.fr⟩
def OpSem (G : Gi) (r : R2) (g : Dt → Dt → Option Rv) : Prop :=
  ∀ (S : List Addr) (H : Hp) (x y : Dt) (z : Rv) (v w : V) (Q : VK), (∀ a ∈ S, H a ≠ none) → Op G S H v x → Op G S H w y → g x y = some z → (∀ ex u H', NewV G S H H' ex z u → Q u H') → r v w H Q
def e2 (g : Dt → Dt → Option Rv) (ma mb : M Rv) : M Rv := bnd ma fun r1 => bnd mb fun r2 => bnd (val (fz r1)) fun x => bnd (val (fz r2)) fun y => opt (g x y)
theorem trOf {F : List Addr} {E : En} {σ : L2.St} {H : Hp} (er : ER G xa F [] σ H E) : ∀ a ∈ F ++ own E σ, H a ≠ none := fun _ h => er.trAll h
theorem op2_imp {r : R2} {g : Dt → Dt → Option Rv} (hs : OpSem G r g) {ma mb : M Rv} : ∀ σ H Q, tE G xa W (e2 g ma mb) σ H Q → tOp r (tE G xa W ma) (tE G xa W mb) σ H Q := by
  rintro σ H Q ⟨F, E, er, h⟩
  refine tE.go er ?_
  unfold e2 bnd at h
  cases hm : ma E with
  | no => rw [hm] at h; exact h
  | ex c x E' => rw [hm] at h; exact h
  | ok r1 E1 =>
    rw [hm] at h
    intro v1 H1 er1 st1 vr1
    refine tE.go er1 ?_
    simp only [Rs.go] at h
    cases hm2 : mb E1 with
    | no => rw [hm2] at h; exact h
    | ex c x E' => rw [hm2] at h; exact xP.from h st1
    | ok r2 E2 =>
      rw [hm2] at h
      intro v2 H2 er2 st2 vr2
      have vr1' := vr1.mv st2
      simp only [Rs.go, val] at h
      cases hx : peek (fz r1) E2 with
      | none => rw [hx] at h; exact h.elim
      | some x =>
        rw [hx] at h
        simp only at h
        cases hy : peek (fz r2) E2 with
        | none => rw [hy] at h; exact h.elim
        | some y =>
          rw [hy] at h
          simp only at h
          cases hg : g x y with
          | none => rw [hg] at h; exact h.elim
          | some z =>
            rw [hg] at h
            refine hs (F ++ own E2 σ) H2 x y z v1 v2 Q (trOf er2) (vr1'.op er2 hx) (vr2.op er2 hy) hg fun ex u H' n => ?_
            obtain ⟨er3, st3, vr3⟩ := n.done er2
            exact h ex u H' er3 ((st1.trans st2).trans st3) vr3
theorem ce_op {op : Operator} {r : R2} {g : Dt → Dt → Option Rv} {a b : Expr} {ma mb : M Rv} {pos : Pos} (ho : OpR X (binaryOp op) r) (hs : OpSem G r g) (ha : PE X a (tE G xa W ma)) (hb : PE X b (tE G xa W mb)) :
    PE X (.BinOp a op b pos) (tE G xa W (e2 g ma mb)) := imE (pe_op ho ha hb) (op2_imp hs)
theorem ce_cmp {op : CmpOp} {r : R2} {g : Dt → Dt → Option Rv} {a b : Expr} {ma mb : M Rv} {pos : Pos} (ho : OpR X (compareOp op) r) (hs : OpSem G r g) (ha : PE X a (tE G xa W ma)) (hb : PE X b (tE G xa W mb)) (hm : behindInMarks op b = false) :
    PE X (.Compare a [op] [b] pos) (tE G xa W (e2 g ma mb)) := imE (pe_cmpR ho ha hb hm) (op2_imp hs)
theorem ce_ix {r : R2} {g : Dt → Dt → Option Rv} {a b : Expr} {ma mb : M Rv} {pos : Pos} (hr : IxR X r) (hs : OpSem G r g) (ha : PE X a (tE G xa W ma)) (hb : PE X b (tE G xa W mb)) (hp : PlainIx b) :
    PE X (.Subscript a b pos) (tE G xa W (e2 g ma mb)) := imE (pe_ix hr ha hb hp) (op2_imp hs)
/-- one operand -/
def UnSem (G : Gi) (r : V → Hp → VK → Prop) (g : Dt → Option Rv) : Prop :=
  ∀ (S : List Addr) (H : Hp) (x : Dt) (z : Rv) (v : V) (Q : VK), (∀ a ∈ S, H a ≠ none) → Op G S H v x → g x = some z → (∀ ex u H', NewV G S H H' ex z u → Q u H') → r v H Q
def e1 (g : Dt → Option Rv) (ma : M Rv) : M Rv := bnd ma fun r1 => bnd (val (fz r1)) fun x => opt (g x)
theorem op1_imp {r : V → Hp → VK → Prop} {g : Dt → Option Rv} (hs : UnSem G r g) {ma : M Rv} : ∀ σ H Q, tE G xa W (e1 g ma) σ H Q → tUn r (tE G xa W ma) σ H Q := by
  rintro σ H Q ⟨F, E, er, h⟩
  refine tE.go er ?_
  unfold e1 bnd at h
  cases hm : ma E with
  | no => rw [hm] at h; exact h
  | ex c x E' => rw [hm] at h; exact h
  | ok r1 E1 =>
    rw [hm] at h
    intro v1 H1 er1 st1 vr1
    simp only [Rs.go, val] at h
    cases hx : peek (fz r1) E1 with
    | none => rw [hx] at h; exact h.elim
    | some x =>
      rw [hx] at h
      simp only at h
      cases hg : g x with
      | none => rw [hg] at h; exact h.elim
      | some z =>
        rw [hg] at h
        refine hs (F ++ own E1 σ) H1 x z v1 Q (trOf er1) (vr1.op er1 hx) hg fun ex u H' n => ?_
        obtain ⟨er3, st3, vr3⟩ := n.done er1
        exact h ex u H' er3 (st1.trans st3) vr3
theorem ce_un {op : UnaryOp} {r : V → Hp → VK → Prop} {g : Dt → Option Rv} {a : Expr} {ma : M Rv} {pos : Pos} (ho : UnR X (unaryOp op) r) (hs : UnSem G r g) (ha : PE X a (tE G xa W ma)) :
    PE X (.UnaryOp op a pos) (tE G xa W (e1 g ma)) := imE (pe_un ho ha) (op1_imp hs)
end
end Vs
/-! # VsD -/
set_option Elab.async false
set_option linter.all false
set_option maxRecDepth 100000
set_option maxHeartbeats 2000000
/-! Vs, part D: argument lists, displays, calls of built-ins, slices, tests, and or not, isinstance. -/
namespace Vs
open PySem L2
open Evl (Ex)

section
variable {G : Gi} {xa : Xa} {W : WX} {X : Cx}
/-! ### argument lists -/
def aNil : M (List Rv) := ret []
def aCons (ma : M Rv) (mr : M (List Rv)) : M (List Rv) := bnd ma fun r => bnd mr fun rs => ret (fz r :: rs)
theorem tA.go {ma : M (List Rv)} {F : List Addr} {E : En} {σ : L2.St} {H : Hp} {Q : List V → Hp → Prop} (er : ER G xa F [] σ H E)
    (h : match ma E with
      | .ok rs E' => ∀ vs H', ER G xa F [] σ H' E' → Stp F E σ H [] E' σ H' → VRs G F σ H' E' rs vs → Q vs H'
      | .ex c x E' => xP G xa W F E σ H c x E'
      | .no => False) : tA G xa W ma σ H Q := ⟨F, E, er, h⟩
theorem ca_nil : PA X [] (tA G xa W aNil) := imA pa_nil fun σ H Q => by
  rintro ⟨F, E, er, h⟩
  exact h [] H er (Stp.refl F E σ H) .nil
theorem ca_cons_imp {ma : M Rv} {mr : M (List Rv)} : ∀ σ H Q, tA G xa W (aCons ma mr) σ H Q → tCons (tE G xa W ma) (tA G xa W mr) σ H Q := by
  rintro σ H Q ⟨F, E, er, h⟩
  refine tE.go er ?_
  unfold aCons bnd at h
  cases hm : ma E with
  | no => rw [hm] at h; exact h
  | ex c x E' => rw [hm] at h; exact h
  | ok r1 E1 =>
    rw [hm] at h
    simp only [Rs.go] at h
    intro v1 H1 er1 st1 vr1
    refine tA.go er1 ?_
    cases hm2 : mr E1 with
    | no => rw [hm2] at h; exact h
    | ex c x E' => rw [hm2] at h; exact xP.from h st1
    | ok rs E2 =>
      rw [hm2] at h
      intro vs H2 er2 st2 vrs
      exact h (v1 :: vs) H2 er2 (st1.trans st2) (.cons (vr1.mv st2) vrs)
theorem ca_cons {e : Expr} {es : List Expr} {ma : M Rv} {mr : M (List Rv)} (ha : PE X e (tE G xa W ma)) (hr : PA X es (tA G xa W mr)) (hs : starEach (e :: es) X.env = (false, eval e X.env) :: starEach es X.env := by rfl) :
    PA X (e :: es) (tA G xa W (aCons ma mr)) := imA (pa_cons ha hr hs) ca_cons_imp
/-! ### giving away -/
theorem keepV {F : List Addr} {E E' : En} {σ : L2.St} {H : Hp} {r : Rv} {v : V} {x : Dt} (er : ER G xa F [] σ H E) (vr : VR G F σ H E [] (fz r) v) (e : keep (fz r) E = .ok x E') :
    ER G xa F [] σ H E' ∧ Stp F E σ H [] E' σ H ∧ Dv G.K (vis F E' σ H) v x := by
  have key : ∀ {r : Rv}, (∀ xs, r ≠ .o xs) → VR G F σ H E [] r v → keep r E = .ok x E' → ER G xa F [] σ H E' ∧ Stp F E σ H [] E' σ H ∧ Dv G.K (vis F E' σ H) v x := by
    intro r hn vr e
    cases r with
    | o xs => exact absurd rfl (hn xs)
    | d y =>
      cases e
      exact ⟨er, Stp.refl _ _ _ _, vr.2⟩
    | v i =>
      have hv := vr.2
      unfold keep at e
      simp only at e
      cases hs : E[i]? with
      | none => rw [hs] at e; cases e
      | some s =>
        rw [hs] at e
        obtain ⟨v', hv', sr⟩ := er.slot hs
        rw [hv] at hv'
        cases hv'
        have hset : σ.set i (some v) = σ := set_self hv
        have n0 : (F ++ own E σ).Nodup := er.nd
        -- a list of one's own is seen once the slot owns it no more
        have seen : ∀ {a : Addr} {vs : List V} {xs : List Dt} {s' : Sl}, v = .ref a → ownA s (some v) = [a] → ownA s' (some v) = [] → H a = some (.lst vs) → DvAll G.K (vis F E σ H) vs xs → Dv G.K (vis F (E.set i s') σ H) v (.list xs) := by
          intro a vs xs s' rfl' ho hn' h1 h2
          subst rfl'
          obtain ⟨A, B, e1, e2⟩ := own_split hs hv
          have e3 := e2 s' (some (.ref a))
          rw [hset, hn', List.nil_append] at e3
          rw [ho] at e1
          have na : a ∉ F ++ own (E.set i s') σ := by
            rw [e1] at n0
            rw [e3]
            intro z
            obtain ⟨n1, n2, n3⟩ := List.nodup_append.mp n0
            obtain ⟨m1, m2, m3⟩ := List.nodup_append.mp n2
            obtain ⟨k1, k2, k3⟩ := List.nodup_append.mp m2
            rcases List.mem_append.mp z with z | z
            · exact n3 a z a (by simp) rfl
            · rcases List.mem_append.mp z with z | z
              · exact m3 a z a (by simp) rfl
              · exact k3 a (by simp) a z rfl
          refine .lst ?_ (h2.up (ex_hid fun x hx => ?_))
          · show hid _ H a = _
            rw [hid_out na]; exact h1
          · rcases List.mem_append.mp hx with h | h
            · exact List.mem_append_left _ h
            · refine List.mem_append_right _ ?_
              rw [e3] at h
              rw [e1]
              exact (sub_tail _).subset h
        cases s with
        | un => cases e
        | e c y => cases e
        | s ns => cases e
        | d y =>
          cases e
          have q := er.setP (s := .d x) (v := some v) hs rfl (by rw [hset, set_self hs]; exact sr)
          rw [hset] at q
          rw [set_self hs] at q ⊢
          exact ⟨er, Stp.refl _ _ _ _, sr⟩
        | l xs =>
          cases e
          cases v with
          | ref a =>
            obtain ⟨vs, h1, h2⟩ := sr
            have d := seen (s' := .d (.list xs)) rfl rfl rfl h1 h2
            have q := er.setP (s := .d (.list xs)) (v := some (.ref a)) hs rfl (by rw [hset]; exact d)
            rw [hset] at q
            refine ⟨q.1, ⟨q.2, fun _ _ => rfl, ?_, rfl⟩, d⟩
            have f := Fx.set (E := E) (σ := σ) (i := i) (s := .d (.list xs)) (v := some (.ref a)) (by intro f ys; rw [hs]; simp)
            rw [hset] at f
            exact f
          | _ => exact False.elim sr
        | r f xs =>
          cases e
          have fx : Fx E σ (E.set i (.r true xs)) σ := fun j f' ys hj => by
            by_cases hji : j = i
            · subst hji
              exact ⟨⟨true, xs, List.getElem?_set_self (List.getElem?_eq_some_iff.mp hs).1⟩, rfl⟩
            · exact ⟨⟨f', ys, by rw [List.getElem?_set_ne (Ne.symm hji)]; exact hj⟩, rfl⟩
          cases f with
          | true =>
            have q := er.setP (s := .r true xs) (v := some v) hs (by cases v <;> rfl) (by rw [hset, set_self hs]; exact sr)
            rw [hset] at q
            refine ⟨q.1, ⟨q.2, fun _ _ => rfl, fx, rfl⟩, ?_⟩
            rw [set_self hs]
            exact sr
          | false =>
            cases v with
            | ref a =>
              obtain ⟨vs, h1, h2⟩ := sr
              have d := seen (s' := .r true xs) rfl rfl rfl h1 h2
              have q := er.setP (s := .r true xs) (v := some (.ref a)) hs rfl (by rw [hset]; exact d)
              rw [hset] at q
              exact ⟨q.1, ⟨q.2, fun _ _ => rfl, fx, rfl⟩, d⟩
            | _ => exact False.elim sr
  refine key ?_ vr e
  intro xs
  cases r <;> simp [fz]
def keeps : List Rv → M (List Dt)
  | [] => ret []
  | r :: rs => bnd (keep r) fun x => bnd (keeps rs) fun xs => ret (x :: xs)
theorem keep_ex {r : Rv} {E : En} {c : Nat} {x : Dt} {E' : En} : keep r E ≠ .ex c x E' := by
  intro e
  unfold keep at e
  cases r with
  | d y => cases e
  | o y => cases e
  | v i =>
    simp only at e
    split at e <;> cases e
theorem keeps_ex : ∀ {rs : List Rv} {E : En} {c : Nat} {x : Dt} {E' : En}, keeps rs E ≠ .ex c x E'
  | [], _, _, _, _, e => by cases e
  | r :: rs, E, c, x, E', e => by
    unfold keeps bnd at e
    cases h : keep r E with
    | no => rw [h] at e; cases e
    | ex c y E1 => exact keep_ex h
    | ok y E1 =>
      rw [h] at e
      simp only [Rs.go] at e
      cases h2 : keeps rs E1 with
      | no => rw [h2] at e; cases e
      | ex c y E1 => exact keeps_ex h2
      | ok y E1 => rw [h2] at e; cases e
theorem keepsV : ∀ {F : List Addr} {rs : List Rv} {vs : List V} {E E' : En} {σ : L2.St} {H : Hp} {xs : List Dt}, ER G xa F [] σ H E → VRs G F σ H E rs vs → keeps rs E = .ok xs E' →
    ER G xa F [] σ H E' ∧ Stp F E σ H [] E' σ H ∧ DvAll G.K (vis F E' σ H) vs xs := by
  intro F rs
  induction rs with
  | nil =>
    intro vs E E' σ H xs er vr e
    cases vr
    cases e
    exact ⟨er, Stp.refl _ _ _ _, .nil⟩
  | cons r rs ih =>
    intro vs E E' σ H xs er vr e
    cases vr with
    | @cons r0 _ v vs h1 h2 =>
      unfold keeps bnd at e
      cases h : keep (fz r0) E with
      | no => rw [h] at e; cases e
      | ex c y E1 => exact absurd h keep_ex
      | ok y E1 =>
        rw [h] at e
        simp only [Rs.go] at e
        obtain ⟨er1, st1, d1⟩ := keepV er h1 h
        cases h3 : keeps rs E1 with
        | no => rw [h3] at e; cases e
        | ex c z E2 => exact absurd h3 keeps_ex
        | ok ys E2 =>
          rw [h3] at e
          cases e
          obtain ⟨er2, st2, d2⟩ := ih er1 (h2.mv st1) h3
          exact ⟨er2, st1.trans st2, .cons (d1.up st2.fr) d2⟩
def okLen (xs : List Dt) : Bool := decide (xs.length ≤ 100000)
theorem okLen_sz {vs : List V} {xs : List Dt} {K : PySem.W.Frag} {H : Hp} (d : DvAll K H vs xs) (h : okLen xs = true) : vs.length ≤ sizeLine := by
  rw [dpa_len d]
  exact Nat.le_trans (of_decide_eq_true h) (by decide)
/-- (a, b, ..) -/
def eTup (ma : M (List Rv)) : M Rv := bnd ma fun rs => bnd (keeps rs) fun xs => if okLen xs then ret (.d (.tuple xs)) else fail
/-- [a, b, ..] -/
def eLst (ma : M (List Rv)) : M Rv := bnd ma fun rs => bnd (keeps rs) fun xs => if okLen xs then ret (.o xs) else fail
theorem ce_tup {es : List Expr} {k : Nat} {pos : Pos} {ma : M (List Rv)} (h : PA X es (tA G xa W ma)) : PE X (.Tuple es k pos) (tE G xa W (eTup ma)) := imE (pe_tup h) fun σ H Q => by
  rintro ⟨F, E, er, h⟩
  refine tA.go er ?_
  unfold eTup bnd at h
  cases hm : ma E with
  | no => rw [hm] at h; exact h
  | ex c x E' => rw [hm] at h; exact h
  | ok rs E1 =>
    rw [hm] at h
    simp only [Rs.go] at h
    intro vs H1 er1 st1 vr1
    cases hk : keeps rs E1 with
    | no => rw [hk] at h; exact h.elim
    | ex c x E' => exact absurd hk keeps_ex
    | ok xs E2 =>
      rw [hk] at h
      simp only at h
      obtain ⟨er2, st2, d⟩ := keepsV er1 vr1 hk
      by_cases hz : okLen xs = true
      · rw [if_pos hz] at h
        refine ⟨okLen_sz d hz, fun p hp => ?_⟩
        obtain ⟨er3, st3, vr3⟩ := (NewV.tup (trOf er2) hp d).done er2
        exact h [] (.ref p) _ er3 ((st1.trans st2).trans st3) vr3
      · rw [if_neg hz] at h; exact h.elim
theorem ce_lst {es : List Expr} {pos : Pos} {ma : M (List Rv)} (h : PA X es (tA G xa W ma)) : PE X (.List es pos) (tE G xa W (eLst ma)) := imE (pe_lst h) fun σ H Q => by
  rintro ⟨F, E, er, h⟩
  refine tA.go er ?_
  unfold eLst bnd at h
  cases hm : ma E with
  | no => rw [hm] at h; exact h
  | ex c x E' => rw [hm] at h; exact h
  | ok rs E1 =>
    rw [hm] at h
    simp only [Rs.go] at h
    intro vs H1 er1 st1 vr1
    cases hk : keeps rs E1 with
    | no => rw [hk] at h; exact h.elim
    | ex c x E' => exact absurd hk keeps_ex
    | ok xs E2 =>
      rw [hk] at h
      simp only at h
      obtain ⟨er2, st2, d⟩ := keepsV er1 vr1 hk
      by_cases hz : okLen xs = true
      · rw [if_pos hz] at h
        refine ⟨okLen_sz d hz, fun p hp => ?_⟩
        obtain ⟨er3, st3, vr3⟩ := (NewV.lst (trOf er2) hp d).done er2
        exact h [p] (.ref p) _ er3 ((st1.trans st2).trans st3) vr3
      · rw [if_neg hz] at h; exact h.elim

/-! ### calls of built-ins, by data -/
inductive OpAll (G : Gi) (S : List Addr) (H : Hp) : List V → List Dt → Prop
  | nil : OpAll G S H [] []
  | cons {v : V} {x : Dt} {vs : List V} {xs : List Dt} : Op G S H v x → OpAll G S H vs xs → OpAll G S H (v :: vs) (x :: xs)
def vals : List Rv → M (List Dt)
  | [] => ret []
  | r :: rs => bnd (val r) fun x => bnd (vals rs) fun xs => ret (x :: xs)
theorem valsV : ∀ {F : List Addr} {rs : List Rv} {vs : List V} {E : En} {σ : L2.St} {H : Hp}, ER G xa F [] σ H E → VRs G F σ H E rs vs →
    (∃ xs, vals rs E = .ok xs E ∧ OpAll G (F ++ own E σ) H vs xs) ∨ vals rs E = .no := by
  intro F rs
  induction rs with
  | nil =>
    intro vs E σ H er vr
    cases vr
    exact .inl ⟨[], rfl, .nil⟩
  | cons r rs ih =>
    intro vs E σ H er vr
    cases vr with
    | @cons r0 _ v vs h1 h2 =>
      unfold vals bnd val
      cases hp : peek (fz r0) E with
      | none => exact .inr rfl
      | some x =>
        simp only [Rs.go]
        rcases ih er h2 with ⟨xs, e, o⟩ | e
        · rw [e]
          exact .inl ⟨x :: xs, rfl, .cons (h1.op er hp) o⟩
        · rw [e]
          exact .inr rfl
def CallSem (G : Gi) (r : List V → Hp → VK → Prop) (g : List Dt → Option Rv) : Prop :=
  ∀ (S : List Addr) (H : Hp) (xs : List Dt) (z : Rv) (vs : List V) (Q : VK), (∀ a ∈ S, H a ≠ none) → OpAll G S H vs xs → g xs = some z → (∀ ex u H', NewV G S H H' ex z u → Q u H') → r vs H Q
def eB (g : List Dt → Option Rv) (ma : M (List Rv)) : M Rv := bnd ma fun rs => bnd (vals rs) fun xs => opt (g xs)
theorem eB_imp {r : List V → Hp → VK → Prop} {g : List Dt → Option Rv} (hs : CallSem G r g) {ma : M (List Rv)} : ∀ σ H Q, tE G xa W (eB g ma) σ H Q → tA G xa W ma σ H fun vs H1 => r vs H1 Q := by
  rintro σ H Q ⟨F, E, er, h⟩
  refine tA.go er ?_
  unfold eB bnd at h
  cases hm : ma E with
  | no => rw [hm] at h; exact h
  | ex c x E' => rw [hm] at h; exact h
  | ok rs E1 =>
    rw [hm] at h
    simp only [Rs.go] at h
    intro vs H1 er1 st1 vr1
    rcases valsV er1 vr1 with ⟨xs, e, o⟩ | e
    · rw [e] at h
      simp only at h
      cases hg : g xs with
      | none => rw [hg] at h; exact h.elim
      | some z =>
        rw [hg] at h
        refine hs (F ++ own E1 σ) H1 xs z vs Q (trOf er1) o hg fun ex u H' n => ?_
        obtain ⟨er3, st3, vr3⟩ := n.done er1
        exact h ex u H' er3 (st1.trans st3) vr3
    · rw [e] at h; exact h.elim
theorem ce_callB {id : String} {r : List V → Hp → VK → Prop} {g : List Dt → Option Rv} {ma : M (List Rv)} {x : Str} {p pos : Pos} {e : Expr} {es : List Expr} (hc : CallR X (.builtin id) r) (hs : CallSem G r g) (hg : Gl X x) (hm : X.mg x = none)
    (hv : bootBuiltins x = some (.builtin id)) (ha : PA X (e :: es) (tA G xa W ma)) (hn : x ≠ "__name__" := by decide) (hdb : (x == ("__debug__" : Str)) = false := by decide)
    (he : starEach (e :: es) X.env = (false, eval e X.env) :: starEach es X.env := by rfl) (hpl : (backTo pos (starEach es X.env)).any (·.1) = false := by rfl) : PE X (.Call (.Name x p) (e :: es) [] pos) (tE G xa W (eB g ma)) :=
  imE (pe_callB hc hg hm hv ha hn hdb he hpl) (eB_imp hs)
theorem ce_callT {T : String} {r : List V → Hp → VK → Prop} {g : List Dt → Option Rv} {ma : M (List Rv)} {x : Str} {p pos : Pos} {e : Expr} {es : List Expr} (hc : CallR X (.type T) r) (hs : CallSem G r g) (hg : Gl X x) (hm : X.mg x = none)
    (hv : bootBuiltins x = some (.type T)) (ha : PA X (e :: es) (tA G xa W ma)) (hn : x ≠ "__name__" := by decide) (hdb : (x == ("__debug__" : Str)) = false := by decide)
    (he : starEach (e :: es) X.env = (false, eval e X.env) :: starEach es X.env := by rfl) (hpl : (backTo pos (starEach es X.env)).any (·.1) = false := by rfl) : PE X (.Call (.Name x p) (e :: es) [] pos) (tE G xa W (eB g ma)) :=
  imE (pe_callTy hc hg hm hv ha hn hdb he hpl) (eB_imp hs)

/-! ### slices -/
def part : Option (M Rv) → M (Option Int)
  | none => ret none
  | some m => bnd m fun r => bnd (val (fz r)) fun x => match x with
    | .int i => ret (some i)
    | _ => fail
def tO (G : Gi) (xa : Xa) (W : WX) (m : Option (M Rv)) : TO := fun σ H Q => ∃ F E, ER G xa F [] σ H E ∧ match part m E with
  | .ok o E' => ∀ H', ER G xa F [] σ H' E' → Stp F E σ H [] E' σ H' → Q o H'
  | .ex c x E' => xP G xa W F E σ H c x E'
  | .no => False
theorem co_none : PO X none (tO G xa W none) := ⟨fun pins s σ H Q I h => by
  obtain ⟨F, E, er, h⟩ := h
  exact po_none.run pins s σ H Q I (h H er (Stp.refl _ _ _ _))⟩
theorem co_some {e : Expr} {m : M Rv} (h : PE X e (tE G xa W m)) : PO X (some e) (tO G xa W (some m)) := ⟨fun pins s σ H Q I q => (po_some h).run pins s σ H Q I (by
  obtain ⟨F, E, er, h⟩ := q
  refine tE.go er ?_
  simp only [part, bnd] at h
  cases hm : m E with
  | no => rw [hm] at h; exact h
  | ex c x E' => rw [hm] at h; exact h
  | ok r E1 =>
    rw [hm] at h
    simp only [Rs.go, val, bnd] at h
    intro v H1 er1 st1 vr1
    cases hp : peek (fz r) E1 with
    | none => rw [hp] at h; exact h.elim
    | some x =>
      rw [hp] at h
      simp only at h
      have o := vr1.op er1 hp
      cases x with
      | int i => exact ⟨i, o.int, h H1 er1 st1⟩
      | _ => exact h.elim)⟩
def SlSem (G : Gi) (r : V → Option Int → Option Int → Hp → VK → Prop) (g : Dt → Option Int → Option Int → Option Rv) : Prop :=
  ∀ (S : List Addr) (H : Hp) (x : Dt) (lo hi : Option Int) (z : Rv) (v : V) (Q : VK), (∀ a ∈ S, H a ≠ none) → Op G S H v x → g x lo hi = some z → (∀ ex u H', NewV G S H H' ex z u → Q u H') → r v lo hi H Q
def eSl (g : Dt → Option Int → Option Int → Option Rv) (ma : M Rv) (ml mh : Option (M Rv)) : M Rv := bnd ma fun r => bnd (part ml) fun l => bnd (part mh) fun h => bnd (val (fz r)) fun x => opt (g x l h)
theorem ce_slice {e : Expr} {lo hi : Option Expr} {p2 pos : Pos} {r : V → Option Int → Option Int → Hp → VK → Prop} {g : Dt → Option Int → Option Int → Option Rv} {ma : M Rv} {ml mh : Option (M Rv)} (hr : SlR X r) (hs : SlSem G r g)
    (ha : PE X e (tE G xa W ma)) (hl : PO X lo (tO G xa W ml)) (hh : PO X hi (tO G xa W mh)) : PE X (.Subscript e (.Slice lo hi none p2) pos) (tE G xa W (eSl g ma ml mh)) := imE (pe_slice hr ha hl hh) fun σ H Q => by
  rintro ⟨F, E, er, h⟩
  refine tE.go er ?_
  unfold eSl bnd at h
  cases hm : ma E with
  | no => rw [hm] at h; exact h
  | ex c x E' => rw [hm] at h; exact h
  | ok r1 E1 =>
    rw [hm] at h
    simp only [Rs.go] at h
    intro v1 H1 er1 st1 vr1
    refine ⟨F, E1, er1, ?_⟩
    cases hm2 : part ml E1 with
    | no => rw [hm2] at h; exact h
    | ex c x E' => rw [hm2] at h; exact xP.from h st1
    | ok l E2 =>
      rw [hm2] at h
      simp only at h
      intro H2 er2 st2
      refine ⟨F, E2, er2, ?_⟩
      cases hm3 : part mh E2 with
      | no => rw [hm3] at h; exact h
      | ex c x E' => rw [hm3] at h; exact xP.from h (st1.trans st2)
      | ok u E3 =>
        rw [hm3] at h
        simp only [val] at h
        intro H3 er3 st3
        have vr3 := (vr1.mv st2).mv st3
        cases hp : peek (fz r1) E3 with
        | none => rw [hp] at h; exact h.elim
        | some x =>
          rw [hp] at h
          simp only at h
          cases hg : g x l u with
          | none => rw [hg] at h; exact h.elim
          | some z =>
            rw [hg] at h
            refine hs (F ++ own E3 σ) H3 x l u z v1 Q (trOf er3) (vr3.op er3 hp) hg fun ex w H' n => ?_
            obtain ⟨er4, st4, vr4⟩ := n.done er3
            exact h ex w H' er4 (((st1.trans st2).trans st3).trans st4) vr4

/-! ### tests -/
theorem tT.go {m : M Bool} {F : List Addr} {E : En} {σ : L2.St} {H : Hp} {Q : Bool → Hp → Prop} (er : ER G xa F [] σ H E)
    (h : match m E with
      | .ok b E' => ∀ H', ER G xa F [] σ H' E' → Stp F E σ H [] E' σ H' → Q b H'
      | .ex c x E' => xP G xa W F E σ H c x E'
      | .no => False) : tT G xa W m σ H Q := ⟨F, E, er, h⟩
/-- a value that is True or False -/
def isB (r : Rv) : M Bool := bnd (val (fz r)) fun x => match x with
  | .bool b => ret b
  | _ => fail
def tB1 (ma : M Rv) : M Bool := bnd ma isB
theorem isB_cases {r : Rv} {E : En} : (∃ b, peek (fz r) E = some (.bool b) ∧ isB r E = .ok b E) ∨ isB r E = .no := by
  unfold isB bnd val
  cases hp : peek (fz r) E with
  | none => exact .inr rfl
  | some x =>
    cases x with
    | bool b => exact .inl ⟨b, rfl, rfl⟩
    | _ => exact .inr rfl
theorem ct_val {e : Expr} {ma : M Rv} (h : PE X e (tE G xa W ma)) (he : ∀ whole, isTrue e X.env whole = (do let v ← whole; standAt e.pos; holding [v] (truthy v)) := by intro _; rfl) : PT X e (tT G xa W (tB1 ma)) :=
  imT (pt_val h he) fun σ H Q => by
    rintro ⟨F, E, er, h⟩
    refine tE.go er ?_
    unfold tB1 bnd at h
    cases hm : ma E with
    | no => rw [hm] at h; exact h
    | ex c x E' => rw [hm] at h; exact h
    | ok r E1 =>
      rw [hm] at h
      simp only [Rs.go] at h
      intro v H1 er1 st1 vr1
      rcases isB_cases (r := r) (E := E1) with ⟨b, hp, e⟩ | e
      · rw [e] at h
        exact ⟨b, (vr1.op er1 hp).bl, h H1 er1 st1⟩
      · rw [e] at h; exact h.elim
/-- the truth of any value -/
def truD : Dt → Option Bool
  | .none => some false
  | .bool b => some b
  | .int i => some (i != 0)
  | .str s => if s.length ≤ 100000 then some ((s.length : Int) != 0) else none
  | .list xs => some (!xs.isEmpty)
  | .tuple xs => some (!xs.isEmpty)
  | .dict _ => none
def tTru (ma : M Rv) : M Bool := bnd ma fun r => bnd (val (fz r)) fun x => opt (truD x)
theorem emp_len {vs : List V} {xs : List Dt} {K : PySem.W.Frag} {H : Hp} (d : DvAll K H vs xs) : vs.isEmpty = xs.isEmpty := by
  cases d <;> rfl
theorem truV {S : List Addr} {H : Hp} {v : V} {x : Dt} {b : Bool} (o : Op G S H v x) (h : truD x = some b) : TruV G.K v H b := by
  cases x with
  | none => cases h; rw [o.non]; rfl
  | bool c => cases h; rw [o.bl]; exact rfl
  | int i => cases h; rw [o.int]; exact rfl
  | str s =>
    simp only [truD] at h
    by_cases hz : s.length ≤ 100000
    · rw [if_pos hz] at h
      cases h
      rw [o.str]
      exact ⟨Nat.le_trans hz (by decide), rfl⟩
    · rw [if_neg hz] at h
      cases h
  | list xs =>
    cases h
    obtain ⟨a, vs, rfl, s, d⟩ := o.lst
    exact .inl ⟨vs, SqL.of s, by rw [emp_len d]⟩
  | tuple xs =>
    cases h
    obtain ⟨a, vs, rfl, s, _, d⟩ := o.tup
    exact .inr (.inl ⟨vs, s, by rw [emp_len d]⟩)
  | dict _ => cases h
theorem ct_truth {e : Expr} {ma : M Rv} (hK : X.K = G.K) (h : PE X e (tE G xa W ma)) (he : ∀ whole, isTrue e X.env whole = (do let v ← whole; standAt e.pos; holding [v] (truthy v)) := by intro _; rfl) : PT X e (tT G xa W (tTru ma)) :=
  imT (pt_truth h he) fun σ H Q => by
    rintro ⟨F, E, er, h⟩
    refine tE.go er ?_
    unfold tTru bnd at h
    cases hm : ma E with
    | no => rw [hm] at h; exact h
    | ex c x E' => rw [hm] at h; exact h
    | ok r E1 =>
      rw [hm] at h
      simp only [Rs.go, val] at h
      intro v H1 er1 st1 vr1
      cases hp : peek (fz r) E1 with
      | none => rw [hp] at h; exact h.elim
      | some x =>
        rw [hp] at h
        simp only at h
        cases ht : truD x with
        | none => rw [ht] at h; exact h.elim
        | some b =>
          rw [ht] at h
          exact ⟨b, by rw [hK]; exact truV (vr1.op er1 hp) ht, h H1 er1 st1⟩
theorem ct_cmp {op : CmpOp} {r : R2} {g : Dt → Dt → Option Rv} {a b : Expr} {ma mb : M Rv} {pos : Pos} (ho : OpR X (compareOp op) r) (hs : OpSem G r g) (ha : PE X a (tE G xa W ma)) (hb : PE X b (tE G xa W mb)) (hm : behindInMarks op b = false) :
    PT X (.Compare a [op] [b] pos) (tT G xa W (tB1 (e2 g ma mb))) :=
  imT (pt_cmpR ho ha hb hm) fun σ H Q h => by
    refine op2_imp hs (xa := xa) (W := W) σ H _ ?_
    obtain ⟨F, E, er, h⟩ := h
    refine tE.go er ?_
    unfold tB1 bnd at h
    cases hm : e2 g ma mb E with
    | no => rw [hm] at h; exact h
    | ex c x E' => rw [hm] at h; exact h
    | ok r E1 =>
      rw [hm] at h
      simp only [Rs.go] at h
      intro v H1 er1 st1 vr1
      rcases isB_cases (r := r) (E := E1) with ⟨b, hp, e⟩ | e
      · rw [e] at h
        exact ⟨b, (vr1.op er1 hp).bl, h H1 er1 st1⟩
      · rw [e] at h; exact h.elim
def tAndM (m n : M Bool) : M Bool := bnd m fun b => if b then n else ret false
def tOrM (m n : M Bool) : M Bool := bnd m fun b => if b then ret true else n
def tNotM (m : M Bool) : M Bool := bnd m fun b => ret (!b)
theorem and_imp {m n : M Bool} : ∀ σ H Q, tT G xa W (tAndM m n) σ H Q → tAnd (tT G xa W m) (tT G xa W n) σ H Q := by
  rintro σ H Q ⟨F, E, er, h⟩
  refine tT.go er ?_
  unfold tAndM bnd at h
  cases hm : m E with
  | no => rw [hm] at h; exact h
  | ex c x E' => rw [hm] at h; exact h
  | ok b E1 =>
    rw [hm] at h
    simp only [Rs.go] at h
    intro H1 er1 st1
    cases b with
    | false => exact h H1 er1 st1
    | true =>
      rw [if_pos rfl]
      rw [if_pos rfl] at h
      refine tT.go er1 ?_
      cases hm2 : n E1 with
      | no => rw [hm2] at h; exact h
      | ex c x E' => rw [hm2] at h; exact xP.from h st1
      | ok c E2 =>
        rw [hm2] at h
        exact fun H2 er2 st2 => h H2 er2 (st1.trans st2)
theorem or_imp {m n : M Bool} : ∀ σ H Q, tT G xa W (tOrM m n) σ H Q → tOr (tT G xa W m) (tT G xa W n) σ H Q := by
  rintro σ H Q ⟨F, E, er, h⟩
  refine tT.go er ?_
  unfold tOrM bnd at h
  cases hm : m E with
  | no => rw [hm] at h; exact h
  | ex c x E' => rw [hm] at h; exact h
  | ok b E1 =>
    rw [hm] at h
    simp only [Rs.go] at h
    intro H1 er1 st1
    cases b with
    | true => exact h H1 er1 st1
    | false =>
      rw [if_neg Bool.false_ne_true]
      rw [if_neg Bool.false_ne_true] at h
      refine tT.go er1 ?_
      cases hm2 : n E1 with
      | no => rw [hm2] at h; exact h
      | ex c x E' => rw [hm2] at h; exact xP.from h st1
      | ok c E2 =>
        rw [hm2] at h
        exact fun H2 er2 st2 => h H2 er2 (st1.trans st2)
def imW {X : Cx} {e : Expr} {t t' : TT} (h : PW X e t) (i : ∀ σ H Q, t' σ H Q → t σ H Q) : PW X e t' := ⟨fun wh pins s σ H Q I q => h.run wh pins s σ H Q I (i σ H Q q)⟩
theorem cw_and1 {a : Expr} {pos : Pos} {m : M Bool} (h : PT X a (tT G xa W m)) : PW X (.BoolOp .And [a] pos) (tT G xa W m) := pw_and1 h
theorem cw_or1 {a : Expr} {pos : Pos} {m : M Bool} (h : PT X a (tT G xa W m)) : PW X (.BoolOp .Or [a] pos) (tT G xa W m) := pw_or1 h
theorem cw_and {a b : Expr} {rest : List Expr} {pos : Pos} {m n : M Bool} (h : PT X a (tT G xa W m)) (h2 : PW X (.BoolOp .And (b :: rest) pos) (tT G xa W n)) : PW X (.BoolOp .And (a :: b :: rest) pos) (tT G xa W (tAndM m n)) := imW (pw_and h h2) and_imp
theorem cw_or {a b : Expr} {rest : List Expr} {pos : Pos} {m n : M Bool} (h : PT X a (tT G xa W m)) (h2 : PW X (.BoolOp .Or (b :: rest) pos) (tT G xa W n)) : PW X (.BoolOp .Or (a :: b :: rest) pos) (tT G xa W (tOrM m n)) := imW (pw_or h h2) or_imp
theorem ct_w {e : Expr} {m : M Bool} (h : PW X e (tT G xa W m)) : PT X e (tT G xa W m) := h.pt
theorem ct_not {a : Expr} {pos : Pos} {m : M Bool} (h : PT X a (tT G xa W m)) : PT X (.UnaryOp .Not a pos) (tT G xa W (tNotM m)) := imT (pt_not h) fun σ H Q => by
  rintro ⟨F, E, er, h⟩
  refine tT.go er ?_
  unfold tNotM bnd at h
  cases hm : m E with
  | no => rw [hm] at h; exact h
  | ex c x E' => rw [hm] at h; exact h
  | ok b E1 =>
    rw [hm] at h
    exact h
/-! ### and, or, not as values -/
def eAnd (ma mb : M Rv) : M Rv := bnd ma fun r => bnd (isB r) fun b => if b then mb else ret (.d (.bool false))
def eOr (ma mb : M Rv) : M Rv := bnd ma fun r => bnd (isB r) fun b => if b then ret (.d (.bool true)) else mb
def eNot (ma : M Rv) : M Rv := bnd ma fun r => bnd (isB r) fun b => ret (.d (.bool (!b)))
theorem ce_one {op : BoolOp} {a : Expr} {pos : Pos} {m : M Rv} (h : PE X a (tE G xa W m)) : PE X (.BoolOp op [a] pos) (tE G xa W m) := pe_one h
theorem ce_and {a b : Expr} {rest : List Expr} {pos : Pos} {m n : M Rv} (h : PE X a (tE G xa W m)) (h2 : PE X (.BoolOp .And (b :: rest) pos) (tE G xa W n)) : PE X (.BoolOp .And (a :: b :: rest) pos) (tE G xa W (eAnd m n)) := imE (pe_and h h2) fun σ H Q => by
  rintro ⟨F, E, er, h⟩
  refine tE.go er ?_
  unfold eAnd bnd at h
  cases hm : m E with
  | no => rw [hm] at h; exact h
  | ex c x E' => rw [hm] at h; exact h
  | ok r E1 =>
    rw [hm] at h
    simp only [Rs.go] at h
    intro v H1 er1 st1 vr1
    rcases isB_cases (r := r) (E := E1) with ⟨b, hp, e⟩ | e
    · rw [e] at h
      simp only at h
      refine ⟨b, (vr1.op er1 hp).bl, ?_⟩
      cases b with
      | false => exact h [] (.bl false) H1 er1 st1 ⟨rfl, .bl false⟩
      | true =>
        rw [if_pos rfl]
        rw [if_pos rfl] at h
        refine ⟨F, E1, er1, ?_⟩
        cases hm2 : n E1 with
        | no => rw [hm2] at h; exact h
        | ex c x E' => rw [hm2] at h; exact xP.from h st1
        | ok c E2 =>
          rw [hm2] at h
          exact fun ex u H2 er2 st2 vr2 => h ex u H2 er2 (st1.trans st2) vr2
    · rw [e] at h; exact h.elim
theorem ce_or {a b : Expr} {rest : List Expr} {pos : Pos} {m n : M Rv} (h : PE X a (tE G xa W m)) (h2 : PE X (.BoolOp .Or (b :: rest) pos) (tE G xa W n)) : PE X (.BoolOp .Or (a :: b :: rest) pos) (tE G xa W (eOr m n)) := imE (pe_or h h2) fun σ H Q => by
  rintro ⟨F, E, er, h⟩
  refine tE.go er ?_
  unfold eOr bnd at h
  cases hm : m E with
  | no => rw [hm] at h; exact h
  | ex c x E' => rw [hm] at h; exact h
  | ok r E1 =>
    rw [hm] at h
    simp only [Rs.go] at h
    intro v H1 er1 st1 vr1
    rcases isB_cases (r := r) (E := E1) with ⟨b, hp, e⟩ | e
    · rw [e] at h
      simp only at h
      refine ⟨b, (vr1.op er1 hp).bl, ?_⟩
      cases b with
      | true => exact h [] (.bl true) H1 er1 st1 ⟨rfl, .bl true⟩
      | false =>
        rw [if_neg Bool.false_ne_true]
        rw [if_neg Bool.false_ne_true] at h
        refine ⟨F, E1, er1, ?_⟩
        cases hm2 : n E1 with
        | no => rw [hm2] at h; exact h
        | ex c x E' => rw [hm2] at h; exact xP.from h st1
        | ok c E2 =>
          rw [hm2] at h
          exact fun ex u H2 er2 st2 vr2 => h ex u H2 er2 (st1.trans st2) vr2
    · rw [e] at h; exact h.elim
theorem ce_not {a : Expr} {pos : Pos} {m : M Rv} (h : PE X a (tE G xa W m)) : PE X (.UnaryOp .Not a pos) (tE G xa W (eNot m)) := imE (pe_not h) fun σ H Q => by
  rintro ⟨F, E, er, h⟩
  refine tE.go er ?_
  unfold eNot bnd at h
  cases hm : m E with
  | no => rw [hm] at h; exact h
  | ex c x E' => rw [hm] at h; exact h
  | ok r E1 =>
    rw [hm] at h
    simp only [Rs.go] at h
    intro v H1 er1 st1 vr1
    rcases isB_cases (r := r) (E := E1) with ⟨b, hp, e⟩ | e
    · rw [e] at h
      exact ⟨b, (vr1.op er1 hp).bl, h [] (.bl (!b)) H1 er1 st1 ⟨rfl, .bl _⟩⟩
    · rw [e] at h; exact h.elim
/-- a if c else b -/
def eIf (mc : M Bool) (ma mb : M Rv) : M Rv := bnd mc fun b => if b then ma else mb
theorem ce_if {c a b : Expr} {pos : Pos} {mc : M Bool} {ma mb : M Rv} (hc : PT X c (tT G xa W mc)) (ha : PE X a (tE G xa W ma)) (hb : PE X b (tE G xa W mb)) : PE X (.IfExp c a b pos) (tE G xa W (eIf mc ma mb)) := imE (pe_ifExp hc ha hb) fun σ H Q => by
  rintro ⟨F, E, er, h⟩
  refine tT.go er ?_
  unfold eIf bnd at h
  cases hm : mc E with
  | no => rw [hm] at h; exact h
  | ex c x E' => rw [hm] at h; exact h
  | ok b E1 =>
    rw [hm] at h
    simp only [Rs.go] at h
    intro H1 er1 st1
    have go : ∀ {m : M Rv}, (match m E1 with
        | .ok r E' => ∀ ex v H', ER G xa F ex σ H' E' → Stp F E σ H ex E' σ H' → VR G F σ H' E' ex r v → Q v H'
        | .ex c x E' => xP G xa W F E σ H c x E'
        | .no => False) → tE G xa W m σ H1 Q := by
      intro m h
      refine ⟨F, E1, er1, ?_⟩
      cases hm2 : m E1 with
      | no => rw [hm2] at h; exact h
      | ex c x E' => rw [hm2] at h; exact xP.from h st1
      | ok c E2 =>
        rw [hm2] at h
        exact fun ex u H2 er2 st2 vr2 => h ex u H2 er2 (st1.trans st2) vr2
    cases b with
    | true => exact go (by rw [if_pos rfl] at h; exact h)
    | false => exact go (by rw [if_neg Bool.false_ne_true] at h; exact h)
end
end Vs
/-! # VsE -/
set_option Elab.async false
set_option linter.all false
set_option maxRecDepth 100000
set_option maxHeartbeats 2000000
/-! Vs, part E: statements: rows of them, stores, if, return, lists changed in place, while, for. -/
namespace Vs
open PySem L2
open Evl (Ex)

/-- how a statement ends -/
inductive Fl where
  | nx | rt (r : Rv) | bk | ct
def tS (G : Gi) (xa : Xa) (W : WX) (m : M Fl) : TS := fun D σ H => ∃ F E, ER G xa F [] σ H E ∧ match m E with
  | .ok .nx E' => ∀ σ' H', ER G xa F [] σ' H' E' → Stp F E σ H [] E' σ' H' → D.nx σ' H'
  | .ok .bk E' => ∀ σ' H', ER G xa F [] σ' H' E' → Stp F E σ H [] E' σ' H' → D.bk σ' H'
  | .ok .ct E' => ∀ σ' H', ER G xa F [] σ' H' E' → Stp F E σ H [] E' σ' H' → D.ct σ' H'
  | .ok (.rt r) E' => ∀ ex v σ' H', ER G xa F ex σ' H' E' → Stp F E σ H ex E' σ' H' → VR G F σ' H' E' ex r v → D.rt v H'
  | .ex c x E' => xP G xa W F E σ H c x E'
  | .no => False
/-- what is asked behind a statement, from a state further on -/
def sP (G : Gi) (xa : Xa) (W : WX) (F : List Addr) (E : En) (σ : L2.St) (H : Hp) (D : Ends) (m : Rs Fl) : Prop := match m with
  | .ok .nx E' => ∀ σ' H', ER G xa F [] σ' H' E' → Stp F E σ H [] E' σ' H' → D.nx σ' H'
  | .ok .bk E' => ∀ σ' H', ER G xa F [] σ' H' E' → Stp F E σ H [] E' σ' H' → D.bk σ' H'
  | .ok .ct E' => ∀ σ' H', ER G xa F [] σ' H' E' → Stp F E σ H [] E' σ' H' → D.ct σ' H'
  | .ok (.rt r) E' => ∀ ex v σ' H', ER G xa F ex σ' H' E' → Stp F E σ H ex E' σ' H' → VR G F σ' H' E' ex r v → D.rt v H'
  | .ex c x E' => xP G xa W F E σ H c x E'
  | .no => False
section
variable {G : Gi} {xa : Xa} {W : WX} {X : Cx} {F : List Addr} {E E1 : En} {σ σ1 : L2.St} {H H1 : Hp} {D : Ends}
theorem tS.mk {m : M Fl} (er : ER G xa F [] σ H E) (h : sP G xa W F E σ H D (m E)) : tS G xa W m D σ H := ⟨F, E, er, h⟩
theorem sP.from {r : Rs Fl} (h : sP G xa W F E σ H D r) (st : Stp F E σ H [] E1 σ1 H1) : sP G xa W F E1 σ1 H1 D r := by
  cases r with
  | no => exact h
  | ex c x E' => exact xP.from h st
  | ok f E' =>
    cases f with
    | nx => exact fun σ' H' er s1 => h σ' H' er (st.trans s1)
    | bk => exact fun σ' H' er s1 => h σ' H' er (st.trans s1)
    | ct => exact fun σ' H' er s1 => h σ' H' er (st.trans s1)
    | rt r => exact fun ex v σ' H' er s1 vr => h ex v σ' H' er (st.trans s1) vr
/-! ### rows -/
def sNil : M Fl := ret .nx
def sSeq (m n : M Fl) : M Fl := bnd m fun f => match f with
  | .nx => n
  | f => ret f
theorem seq_imp {m n : M Fl} : ∀ D σ H, tS G xa W (sSeq m n) D σ H → tSeq (tS G xa W m) (tS G xa W n) D σ H := by
  rintro D σ H ⟨F, E, er, h⟩
  refine tS.mk er ?_
  change sP G xa W F E σ H D _ at h
  unfold sSeq bnd at h
  cases hm : m E with
  | no => rw [hm] at h; exact h
  | ex c x E' => rw [hm] at h; exact h
  | ok f E1 =>
    rw [hm] at h
    simp only [Rs.go] at h
    cases f with
    | nx => exact fun σ1 H1 er1 st1 => tS.mk er1 (sP.from h st1)
    | bk => exact h
    | ct => exact h
    | rt r => exact h
theorem cs_nil : PSs X [] (tS G xa W sNil) := imSs pss_nil fun D σ H => by
  rintro ⟨F, E, er, h⟩
  exact h σ H er (Stp.refl _ _ _ _)
theorem cs_cons {st : Stmt} {rest : List Stmt} {m n : M Fl} (h1 : PS X st (tS G xa W m)) (h2 : PSs X rest (tS G xa W n)) : PSs X (st :: rest) (tS G xa W (sSeq m n)) := imSs (pss_cons h1 h2) seq_imp
theorem cs_one {st : Stmt} {m : M Fl} (h : PS X st (tS G xa W m)) : PSs X [st] (tS G xa W m) := pss_one h
def sBrk : M Fl := ret .bk
def sCnt : M Fl := ret .ct
theorem cs_pass {pos : Pos} : PS X (.Pass pos) (tS G xa W sNil) := imS ps_pass fun D σ H => by
  rintro ⟨F, E, er, h⟩
  exact h σ H er (Stp.refl _ _ _ _)
theorem cs_break {pos : Pos} : PS X (.Break pos) (tS G xa W sBrk) := imS ps_break fun D σ H => by
  rintro ⟨F, E, er, h⟩
  exact h σ H er (Stp.refl _ _ _ _)
theorem cs_cont {pos : Pos} : PS X (.Continue pos) (tS G xa W sCnt) := imS ps_continue fun D σ H => by
  rintro ⟨F, E, er, h⟩
  exact h σ H er (Stp.refl _ _ _ _)
/-! ### stores -/
def setS (i : Nat) (s : Sl) : M Fl := fun E => match E[i]? with
  | some (.r _ _) => .no
  | some _ => .ok .nx (E.set i s)
  | none => .no
theorem setS_ok {i : Nat} {s : Sl} {E E' : En} {f : Fl} (h : setS i s E = .ok f E') : f = .nx ∧ E' = E.set i s ∧ ∃ s0, E[i]? = some s0 ∧ ∀ g xs, E[i]? ≠ some (.r g xs) := by
  unfold setS at h
  cases hs : E[i]? with
  | none => rw [hs] at h; cases h
  | some s0 =>
    rw [hs] at h
    cases s0 with
    | r g xs => cases h
    | _ => cases h; exact ⟨rfl, rfl, _, rfl, fun g xs => by simp⟩
theorem setS_cases (i : Nat) (s : Sl) (E : En) : setS i s E = .ok .nx (E.set i s) ∨ setS i s E = .no := by
  unfold setS
  cases hs : E[i]? with
  | none => exact .inr rfl
  | some s0 =>
    cases s0 with
    | r g xs => exact .inr rfl
    | _ => exact .inl rfl
theorem Stp.set {v : Option V} {s : Sl} {i : Nat} {ex : List Addr} (hs : ∀ f xs, E[i]? ≠ some (.r f xs)) (fr : Ex (hid (F ++ (ex ++ own E σ)) H) (vis F (E.set i s) (σ.set i v) H)) (st : Stp F E1 σ1 H1 ex E σ H) : Stp F E1 σ1 H1 [] (E.set i s) (σ.set i v) H :=
  ⟨Evl.Ex.trans st.fr fr, st.kp, st.fx.trans (Fx.set hs), by rw [List.length_set]; exact st.ln⟩
/-- the value stored in slot i -/
def putV (i : Nat) (r : Rv) : M Fl := match r with
  | .o xs => setS i (.l xs)
  | r => bnd (keep r) fun x => setS i (.d x)
theorem putV_ok {i : Nat} {r : Rv} {v : V} {ex : List Addr} {D : Ends} (er : ER G xa F ex σ H E) (st : Stp F E1 σ1 H1 ex E σ H) (vr : VR G F σ H E ex r v) (h : sP G xa W F E1 σ1 H1 D (putV i r E)) : D.nx (σ.set i (some v)) H := by
  have viaD : ∀ {r : Rv}, (∀ xs, r ≠ .o xs) → VR G F σ H E ex r v → sP G xa W F E1 σ1 H1 D ((bnd (keep r) fun x => setS i (.d x)) E) → D.nx (σ.set i (some v)) H := by
    intro r hn vr h
    have hf : fz r = r := by cases r <;> first | rfl | exact absurd rfl (hn _)
    obtain ⟨er0, vr0⟩ := vr.fz er
    unfold bnd at h
    cases hk : keep r E with
    | no => rw [hk] at h; exact h.elim
    | ex c x E' => exact absurd hk keep_ex
    | ok x E2 =>
      rw [hk] at h
      simp only [Rs.go] at h
      obtain ⟨er2, st2, d⟩ := keepV er0 vr0 (by rw [hf]; exact hk)
      rcases setS_cases i (.d x) E2 with e | e
      · rw [e] at h
        obtain ⟨_, _, s0, h0, hne⟩ := setS_ok e
        obtain ⟨er3, fr3⟩ := er2.setD h0 d
        exact h _ _ er3 (Stp.set (ex := []) hne fr3 (st.less.trans st2))
      · rw [e] at h; exact h.elim
  cases r with
  | d x => exact viaD (by intro xs; simp) vr h
  | v j => exact viaD (by intro xs; simp) vr h
  | o xs =>
    obtain ⟨a, vs, rfl, rfl, h1, h2⟩ := vr
    rcases setS_cases i (.l xs) E with e | e
    · change sP G xa W F E1 σ1 H1 D (setS i (.l xs) E) at h
      rw [e] at h
      obtain ⟨_, _, s0, h0, hne⟩ := setS_ok e
      obtain ⟨er3, fr3⟩ := er.setL h0 h1 h2
      exact h _ _ er3 (Stp.set hne fr3 st)
    · change sP G xa W F E1 σ1 H1 D (setS i (.l xs) E) at h
      rw [e] at h; exact h.elim
/-- name = value -/
def sSet (i : Nat) (me : M Rv) : M Fl := bnd me (putV i)
theorem set_imp {i : Nat} {me : M Rv} : ∀ D σ H, tS G xa W (sSet i me) D σ H → tAsg (tE G xa W me) (gName i) D σ H := by
  rintro D σ H ⟨F, E, er, h⟩
  refine ⟨F, E, er, ?_⟩
  change sP G xa W F E σ H D _ at h
  unfold sSet bnd at h
  cases hm : me E with
  | no => rw [hm] at h; exact h
  | ex c x E' => rw [hm] at h; exact h
  | ok r E1 =>
    rw [hm] at h
    exact fun ex v H1 er1 st1 vr1 => putV_ok er1 st1 vr1 h
theorem cs_set {i : Nat} {x : Str} {e : Expr} {me : M Rv} {pos pos' : Pos} (hN : X.N.Nodup) (hi : X.N[i]? = some x) (hx : Loc X.env.scope x) (he : PE X e (tE G xa W me)) (hs : swapsWith e (some (.Name x pos')) pos.line X.env = pure false := by rfl)
    (hf : X.fn x = true ∨ X.env.scope.names.lookup x = some .local := by first | exact .inl rfl | exact .inr rfl | assumption) : PS X (.Assign [.Name x pos'] e pos) (tS G xa W (sSet i me)) := imS (ps_set hN hi hx he hs hf) set_imp
/-- a, b = value -/
def setAll : List Nat → List Dt → M Fl
  | [], [] => ret .nx
  | i :: is, x :: xs => sSeq (setS i (.d x)) (setAll is xs)
  | _, _ => fail
def gAll : List Nat → TGs
  | [] => gNil
  | i :: is => gCons (gName i) (gAll is)
theorem gAll_ok : ∀ {is : List Nat} {xs : List Dt} {vs : List V} {F : List Addr} {E E1 : En} {σ σ1 : L2.St} {H H1 : Hp} {D : Ends}, ER G xa F [] σ H E → Stp F E1 σ1 H1 [] E σ H → DvAll G.K (vis F E σ H) vs xs → sP G xa W F E1 σ1 H1 D (setAll is xs E) → gAll is vs σ H D.nx := by
  intro is
  induction is with
  | nil =>
    intro xs vs F E E1 σ σ1 H H1 D er st d h
    cases d with
    | nil => exact ⟨rfl, h σ H er st⟩
    | cons _ _ => exact h.elim
  | cons i is ih =>
    intro xs vs F E E1 σ σ1 H H1 D er st d h
    cases d with
    | nil => exact h.elim
    | @cons v vs x xs d1 d2 =>
      refine ⟨v, vs, rfl, ?_⟩
      change sP G xa W F E1 σ1 H1 D (sSeq (setS i (.d x)) (setAll is xs) E) at h
      unfold sSeq bnd at h
      rcases setS_cases i (.d x) E with e | e
      · rw [e] at h
        simp only [Rs.go] at h
        obtain ⟨_, _, s0, h0, hne⟩ := setS_ok e
        obtain ⟨er3, fr3⟩ := er.setD h0 d1
        exact ih er3 (Stp.set (ex := []) hne fr3 st) (d2.up fr3) h
      · rw [e] at h; exact h.elim
def gEither (t u : TG) : TG := fun v σ H Q => t v σ H Q ∨ u v σ H Q
theorem pg_either {e : Expr} {t u : TG} (h1 : PG X e t) (h2 : PG X e u) : PG X e (gEither t u) := ⟨fun pins s σ H v u' Q I r h => h.elim (h1.run pins s σ H v u' Q I r) (h2.run pins s σ H v u' Q I r)⟩
def unp (is : List Nat) (r : Rv) : M Fl := bnd (val (fz r)) fun x => match x with
  | .tuple xs => setAll is xs
  | .list xs => setAll is xs
  | _ => fail
def gUnp (K : PySem.W.Frag) (is : List Nat) : TG := gEither (gTup K is.length (gAll is)) (gLst K is.length (gAll is))
theorem setAll_len : ∀ {is : List Nat} {xs : List Dt} {E : En}, setAll is xs E ≠ .no → is.length = xs.length
  | [], [], _, _ => rfl
  | [], _ :: _, _, h => absurd rfl h
  | _ :: _, [], _, h => absurd rfl h
  | i :: is, x :: xs, E, h => by
    have h : sSeq (setS i (.d x)) (setAll is xs) E ≠ .no := h
    unfold sSeq bnd at h
    rcases setS_cases i (.d x) E with e | e
    · rw [e] at h
      exact congrArg (· + 1) (setAll_len h)
    · rw [e] at h; exact absurd rfl h
theorem sP_no {r : Rs Fl} (h : sP G xa W F E σ H D r) : r ≠ .no := by rintro rfl; exact h
theorem unp_ok {is : List Nat} {r : Rv} {v : V} {D : Ends} (er : ER G xa F [] σ H E) (st : Stp F E1 σ1 H1 [] E σ H) (vr : VR G F σ H E [] (fz r) v) (h : sP G xa W F E1 σ1 H1 D (unp is r E)) : gUnp G.K is v σ H D.nx := by
  unfold unp bnd val at h
  cases hp : peek (fz r) E with
  | none => rw [hp] at h; exact h.elim
  | some x =>
    rw [hp] at h
    simp only [Rs.go] at h
    have o := vr.op er hp
    cases x with
    | tuple xs =>
      obtain ⟨a, vs, rfl, s1, _, d⟩ := o.tup
      exact .inl ⟨a, vs, rfl, s1, by rw [dpa_len d, ← setAll_len (sP_no h)], gAll_ok er st d h⟩
    | list xs =>
      obtain ⟨a, vs, rfl, s1, d⟩ := o.lst
      exact .inr ⟨a, vs, rfl, SqL.of s1, by rw [dpa_len d, ← setAll_len (sP_no h)], gAll_ok er st d h⟩
    | _ => exact h.elim
def sUnp (is : List Nat) (me : M Rv) : M Fl := bnd me (unp is)
theorem cs_unp {is : List Nat} {es : List Expr} {e : Expr} {me : M Rv} {k : Nat} {tp pos : Pos} (hc : X.calm = true) (hK : X.K = G.K) (hg : PGs X es (gAll is)) (he : PE X e (tE G xa W me))
    (hn : (assignEach es X.env).length = is.length := by rfl) (hst : (assignEach es X.env).findIdx? (·.1) = none := by rfl)
    (hs : swapsWithSole [.Tuple es k tp] e pos.line X.env = pure false := by rfl) (hw : swappedStores [.Tuple es k tp] e X.env = pure none := by rfl) (h1 : (assignEach [.Tuple es k tp] X.env).map (·.2) = [assign (.Tuple es k tp) X.env] := by rfl) :
    PS X (.Assign [.Tuple es k tp] e pos) (tS G xa W (sUnp is me)) := imS (ps_asg he (pg_either (pg_tup hc hg hn hst) (pg_lst hc hg hn hst)) hs hw h1) fun D σ H => by
  rintro ⟨F, E, er, h⟩
  refine tE.go er ?_
  change sP G xa W F E σ H D _ at h
  unfold sUnp bnd at h
  cases hm : me E with
  | no => rw [hm] at h; exact h
  | ex c x E' => rw [hm] at h; exact h
  | ok r E1 =>
    rw [hm] at h
    intro v H1 er1 st1 vr1
    rw [hK]
    exact unp_ok er1 st1 vr1 h
/-- name += an int -/
def sAdd (i : Nat) (me : M Rv) : M Fl := fun E => match E[i]? with
  | some (.d (.int a)) => (bnd me fun r => bnd (val (fz r)) fun x => match x with
    | .int b => setS i (.d (.int (a + b)))
    | _ => fail) E
  | _ => .no
theorem cs_add {i : Nat} {x : Str} {e : Expr} {me : M Rv} {pos pos' : Pos} (hN : X.N.Nodup) (hi : X.N[i]? = some x) (hx : Loc X.env.scope x) (he : PE X e (tE G xa W me))
    (hf : X.fn x = true ∨ X.env.scope.names.lookup x = some .local := by first | exact .inl rfl | exact .inr rfl | assumption) : PS X (.AugAssign (.Name x pos') .Add e pos) (tS G xa W (sAdd i me)) := imS (ps_aug hN hi hx he ip_add hf) fun D σ H => by
  rintro ⟨F, E, er, h⟩
  change sP G xa W F E σ H D (sAdd i me E) at h
  unfold sAdd at h
  cases hs : E[i]? with
  | none => rw [hs] at h; exact h.elim
  | some s =>
    rw [hs] at h
    cases s with
    | d y =>
      cases y with
      | int a =>
        obtain ⟨v, hv⟩ := sr_some er hs (by simp)
        obtain ⟨v', hv', sr⟩ := er.slot hs
        rw [hv] at hv'
        cases hv'
        have ev : v = .int a := by
          have sr : Dv G.K _ v (.int a) := sr
          cases sr
          rfl
        subst ev
        refine ⟨_, hv, tE.go er ?_⟩
        simp only [bnd] at h
        cases hm : me E with
        | no => rw [hm] at h; exact h
        | ex c x E' => rw [hm] at h; exact h
        | ok r E1 =>
          rw [hm] at h
          simp only [Rs.go, val, bnd] at h
          intro w H1 er1 st1 vr1
          cases hp : peek (fz r) E1 with
          | none => rw [hp] at h; exact h.elim
          | some x =>
            rw [hp] at h
            simp only at h
            have o := vr1.op er1 hp
            cases x with
            | int b =>
              refine ⟨a, b, rfl, o.int, ?_⟩
              rcases setS_cases i (.d (.int (a + b))) E1 with e | e
              · simp only [e] at h
                obtain ⟨_, _, s0, h0, hne⟩ := setS_ok e
                obtain ⟨er3, fr3⟩ := er1.setD h0 (Dv.int (a + b))
                exact h _ _ er3 (Stp.set (ex := []) hne fr3 st1)
              · simp only [e] at h; exact h.elim
            | _ => exact h.elim
      | _ => exact h.elim
    | _ => exact h.elim
/-! ### e; return e; if -/
def sExp (me : M Rv) : M Fl := bnd me fun _ => ret .nx
theorem cs_expr {e : Expr} {me : M Rv} {pos : Pos} (he : PE X e (tE G xa W me)) (hs : swapsWith e none pos.line X.env = pure false := by rfl) : PS X (.Expr e pos) (tS G xa W (sExp me)) := imS (ps_expr he hs) fun D σ H => by
  rintro ⟨F, E, er, h⟩
  refine tE.go er ?_
  change sP G xa W F E σ H D _ at h
  unfold sExp bnd at h
  cases hm : me E with
  | no => rw [hm] at h; exact h
  | ex c x E' => rw [hm] at h; exact h
  | ok r E1 =>
    rw [hm] at h
    exact fun v H1 er1 st1 vr1 => h σ H1 er1 st1
def rtV (r : Rv) : M Fl := fun E => match r with
  | .v i => match E[i]? with
    | some (.l xs) => .ok (.rt (.o xs)) (E.set i .un)
    | some (.d x) => .ok (.rt (.d x)) E
    | some (.r _ xs) => .ok (.rt (.d (.list xs))) (E.set i (.r true xs))
    | _ => .no
  | r => .ok (.rt r) E
def sRet (me : M Rv) : M Fl := bnd me rtV
theorem rtV_ok {r : Rv} {v : V} {ex : List Addr} {D : Ends} (er : ER G xa F ex σ H E) (st : Stp F E1 σ1 H1 ex E σ H) (vr : VR G F σ H E ex r v) (h : sP G xa W F E1 σ1 H1 D (rtV r E)) : D.rt v H := by
  cases r with
  | d x => exact h ex v σ H er st vr
  | o xs => exact h ex v σ H er st vr
  | v i =>
    obtain ⟨rfl, hv⟩ := vr
    unfold rtV at h
    simp only at h
    cases hs : E[i]? with
    | none => rw [hs] at h; exact h.elim
    | some s =>
      rw [hs] at h
      cases s with
      | un => exact h.elim
      | e c x => exact h.elim
      | s ns => exact h.elim
      | d x =>
        obtain ⟨er2, st2, d⟩ := keepV (r := .v i) (x := x) (E' := E) er ⟨rfl, hv⟩ (by
          show keep (.v i) E = _
          simp only [keep, hs, Option.bind, frzS]
          rw [set_self hs])
        exact h [] v σ H er2 (st.trans st2) ⟨rfl, d⟩
      | r f xs =>
        obtain ⟨er2, st2, d⟩ := keepV (r := .v i) (x := .list xs) (E' := E.set i (.r true xs)) er ⟨rfl, hv⟩ (by
          show keep (.v i) E = _
          simp only [keep, hs, Option.bind, frzS])
        exact h [] v σ H er2 (st.trans st2) ⟨rfl, d⟩
      | l xs =>
        obtain ⟨v', hv', sr⟩ := er.slot hs
        rw [hv] at hv'
        cases hv'
        cases v with
        | ref a =>
          obtain ⟨vs, h1, h2⟩ := sr
          obtain ⟨A, B, e1, e2⟩ := own_split hs hv
          have hset : σ.set i (some (.ref a)) = σ := set_self hv
          have e3 := e2 .un (some (.ref a))
          rw [hset] at e3
          have e1 : own E σ = A ++ ([a] ++ B) := e1
          have e3 : own (E.set i .un) σ = A ++ B := e3
          have perm : (own E σ).Perm ([a] ++ own (E.set i .un) σ) := by
            rw [e1, e3, ← List.append_assoc, ← List.append_assoc]
            exact List.Perm.append_right _ List.perm_append_comm
          have same : hid (F ++ ([a] ++ own (E.set i .un) σ)) H = vis F E σ H := hid_congr fun x => by
            simp only [List.mem_append, perm.mem_iff]
          have er2 : ER G xa F [a] σ H (E.set i .un) := by
            refine ⟨((List.Perm.append_left F perm).nodup_iff).mp er.nd, fun x hx => ?_, by rw [List.length_set]; exact er.len, fun j s' v' g1 g2 => ?_⟩
            · rcases List.mem_append.mp hx with q | q
              · exact er.tr x (List.mem_append_left _ q)
              · simp at q
                subst q
                rw [h1]; simp
            · rw [same]
              rcases getElem?_set_cases g1 with ⟨rfl, rfl⟩ | ⟨hj, g1⟩
              · exact True.intro
              · exact er.sl j s' v' g1 g2
          have st2 : Stp F E σ H [a] (E.set i .un) σ H := by
            refine ⟨?_, fun _ _ => rfl, ?_, rfl⟩
            · rw [same]; exact Evl.Ex.refl _
            · have f := Fx.set (E := E) (σ := σ) (i := i) (s := .un) (v := some (.ref a)) (by intro f ys; rw [hs]; simp)
              rw [hset] at f
              exact f
          exact h [a] (.ref a) σ H er2 (st.trans st2) ⟨a, vs, rfl, rfl, h1, by rw [same]; exact h2⟩
        | _ => exact False.elim sr
theorem cs_ret {e : Expr} {me : M Rv} {pos : Pos} (he : PE X e (tE G xa W me)) : PS X (.Return (some e) pos) (tS G xa W (sRet me)) := imS (ps_ret he) fun D σ H => by
  rintro ⟨F, E, er, h⟩
  refine ⟨F, E, er, ?_⟩
  change sP G xa W F E σ H D _ at h
  unfold sRet bnd at h
  cases hm : me E with
  | no => rw [hm] at h; exact h
  | ex c x E' => rw [hm] at h; exact h
  | ok r E1 =>
    rw [hm] at h
    exact fun ex v H1 er1 st1 vr1 => rtV_ok er1 st1 vr1 h
def sRetN : M Fl := ret (.rt (.d .none))
theorem cs_retN {pos : Pos} : PS X (.Return none pos) (tS G xa W sRetN) := imS ps_retN fun D σ H => by
  rintro ⟨F, E, er, h⟩
  exact h [] .non σ H er (Stp.refl _ _ _ _) ⟨rfl, .non⟩
def sIf (mc : M Bool) (m n : M Fl) : M Fl := bnd mc fun b => if b then m else n
theorem cs_if {c : Expr} {a b : List Stmt} {pos : Pos} {mc : M Bool} {m n : M Fl} (hc : PT X c (tT G xa W mc)) (ha : PSs X a (tS G xa W m)) (hb : PSs X b (tS G xa W n)) : PS X (.If c a b pos) (tS G xa W (sIf mc m n)) := imS (ps_if hc ha hb) fun D σ H => by
  rintro ⟨F, E, er, h⟩
  refine tT.go er ?_
  change sP G xa W F E σ H D _ at h
  unfold sIf bnd at h
  cases hm : mc E with
  | no => rw [hm] at h; exact h
  | ex c x E' => rw [hm] at h; exact h
  | ok b E1 =>
    rw [hm] at h
    simp only [Rs.go] at h
    intro H1 er1 st1
    cases b with
    | true =>
      rw [if_pos rfl] at h ⊢
      exact tS.mk er1 (sP.from h st1)
    | false =>
      rw [if_neg Bool.false_ne_true] at h ⊢
      exact tS.mk er1 (sP.from h st1)
/-! ### a list of one's own changes -/
def ownL : Sl → Option (List Dt)
  | .l xs => some xs
  | .r false xs => some xs
  | _ => none
def putL : Sl → List Dt → Sl
  | .l _, ys => .l ys
  | .r f _, ys => .r f ys
  | s, _ => s
/-- the list at slot i, changed by f -/
def mutL (i : Nat) (f : List Dt → Option (List Dt)) : M Fl := fun E => match E[i]? with
  | some s => match (ownL s).bind f with
    | some ys => .ok .nx (E.set i (putL s ys))
    | none => .no
  | none => .no
theorem ownL_at {i : Nat} {s : Sl} {xs : List Dt} (er : ER G xa F [] σ H E) (hs : E[i]? = some s) (ho : ownL s = some xs) :
    ∃ a vs, σ[i]? = some (some (.ref a)) ∧ H a = some (.lst vs) ∧ DvAll G.K (vis F E σ H) vs xs ∧ ownA s (some (.ref a)) = [a] ∧ ∀ ys, putL s ys = .l ys ∨ putL s ys = .r false ys := by
  obtain ⟨v, hv, sr⟩ := er.slot hs
  cases s with
  | l zs =>
    cases ho
    cases v with
    | none => exact False.elim sr
    | some v =>
      cases v with
      | ref a =>
        obtain ⟨vs, h1, h2⟩ := sr
        exact ⟨a, vs, hv, h1, h2, rfl, fun ys => .inl rfl⟩
      | _ => exact False.elim sr
  | r f zs =>
    cases f with
    | true => cases ho
    | false =>
      cases ho
      cases v with
      | none => exact False.elim sr
      | some v =>
        cases v with
        | ref a =>
          obtain ⟨vs, h1, h2⟩ := sr
          exact ⟨a, vs, hv, h1, h2, rfl, fun ys => .inr rfl⟩
        | _ => exact False.elim sr
  | _ => cases ho
theorem Fx.mut {i : Nat} {s : Sl} {ys : List Dt} (hs : E[i]? = some s) : Fx E σ (E.set i (putL s ys)) σ := fun j f xs h => by
  by_cases hj : j = i
  · subst hj
    rw [hs] at h
    cases h
    exact ⟨⟨f, ys, List.getElem?_set_self (List.getElem?_eq_some_iff.mp hs).1⟩, rfl⟩
  · exact ⟨⟨f, xs, by rw [List.getElem?_set_ne (Ne.symm hj)]; exact h⟩, rfl⟩
/-- the list is changed: the state behind -/
theorem mutL_ok {i : Nat} {s : Sl} {a : Addr} {vs : List V} {ys : List Dt} (er : ER G xa F [] σ H E) (hs : E[i]? = some s) (hv : σ[i]? = some (some (.ref a))) (ho : ownA s (some (.ref a)) = [a]) (hp : putL s ys = .l ys ∨ putL s ys = .r false ys)
    (d : DvAll G.K (vis F E σ H) vs ys) : ER G xa F [] σ (upd H a (.lst vs)) (E.set i (putL s ys)) ∧ Stp F E σ H [] (E.set i (putL s ys)) σ (upd H a (.lst vs)) := by
  obtain ⟨er2, ev⟩ := er.mut hs hv ho hp d
  have hm : a ∈ own E σ := mem_own hs hv (by rw [ho]; simp)
  have n0 : (F ++ own E σ).Nodup := er.nd
  have aF : a ∉ F := fun z => (List.nodup_append.mp n0).2.2 a z a hm rfl
  exact ⟨er2, ⟨by show Ex _ (vis F (E.set i (putL s ys)) σ (upd H a (.lst vs))); rw [ev]; exact Evl.Ex.refl _, fun b hb => upd_ne (by rintro rfl; exact aF hb), Fx.mut hs, rfl⟩⟩
/-- x.append(e) -/
def sApp (i : Nat) (me : M Rv) : M Fl := fun E => match (E[i]?).bind ownL with
  | some _ => (bnd me fun r => bnd (keep (fz r)) fun x => mutL i fun xs => if okLen xs then some (xs ++ [x]) else none) E
  | none => .no
theorem cs_app {i : Nat} {x : Str} {e : Expr} {me : M Rv} {p apos cpos pos : Pos} (hK : X.K = G.K) (hx : PE X (.Name x p) (tVar i)) (he : PE X e (tE G xa W me))
    (hbase : attributeBase (.Name x p) "append" X.env (eval (.Name x p) X.env) = eval (.Name x p) X.env := by rfl)
    (hfew : ((backTo cpos (starEach (e :: []) X.env)).all (fun x => !x.1) && (backToKw cpos (keywordEach [] X.env)).all (fun x => x.1.isSome) && decide ((e :: []).length + ([] : List Keyword).length + (if ([] : List Keyword).isEmpty then 0 else 1) < 30)) = true := by rfl)
    (hline : (apos.endLine == cpos.line) = true := by rfl) (hs : starEach (e :: []) X.env = (false, eval e X.env) :: starEach [] X.env := by rfl) (hplain : (backTo cpos (starEach [] X.env)).any (·.1) = false := by rfl)
    (hsw : swapsWith (.Call (.Attribute (.Name x p) "append" apos) [e] [] cpos) none pos.line X.env = pure false := by rfl) :
    PS X (.Expr (.Call (.Attribute (.Name x p) "append" apos) [e] [] cpos) pos) (tS G xa W (sApp i me)) :=
  imS (ps_expr (pe_bm PySem.F.plainAttrs_list PySem.F.slot_list_append PySem.F.type_list_append mt_append hx (pa_cons he pa_nil hs) hbase hfew hline hs hplain) hsw) fun D σ H => by
    rintro ⟨F, E, er, h⟩
    change sP G xa W F E σ H D (sApp i me E) at h
    unfold sApp at h
    cases h0 : (E[i]?).bind ownL with
    | none => rw [h0] at h; exact h.elim
    | some xs0 =>
      rw [h0] at h
      cases hs0 : E[i]? with
      | none => rw [hs0] at h0; cases h0
      | some s0 =>
        rw [hs0] at h0
        obtain ⟨a, vs0, hv, ha, _, _, _⟩ := ownL_at er hs0 h0
        refine ⟨.ref a, hv, .inl ⟨rfl, vs0, SqL.of ha⟩, tE.go er ?_⟩
        simp only [bnd] at h
        cases hm : me E with
        | no => rw [hm] at h; exact h
        | ex c x E' => rw [hm] at h; exact h
        | ok r E1 =>
          rw [hm] at h
          simp only [Rs.go, bnd] at h
          intro w H1 er1 st1 vr1
          cases hk : keep (fz r) E1 with
          | no => rw [hk] at h; exact h.elim
          | ex c x E' => exact absurd hk keep_ex
          | ok y E2 =>
            rw [hk] at h
            simp only at h
            obtain ⟨er2, st2, d⟩ := keepV er1 vr1 hk
            unfold mutL at h
            cases hs2 : E2[i]? with
            | none => rw [hs2] at h; exact h.elim
            | some s2 =>
              rw [hs2] at h
              simp only at h
              cases ho2 : ownL s2 with
              | none => rw [ho2] at h; exact h.elim
              | some xs =>
                rw [ho2] at h
                simp only [Option.bind] at h
                obtain ⟨b, vs, hv2, hb, db, oa, pu⟩ := ownL_at er2 hs2 ho2
                have eb : b = a := by
                  rw [hv] at hv2
                  cases hv2
                  rfl
                subst eb
                by_cases hz : okLen xs = true
                · simp only [hz, if_true] at h
                  refine ⟨b, vs, w, rfl, rfl, hb, ?_, ?_⟩
                  · rw [dpa_len db]
                    exact Nat.lt_of_le_of_lt (of_decide_eq_true hz) (by decide)
                  · obtain ⟨er3, st3⟩ := mutL_ok er2 hs2 hv2 oa (pu (xs ++ [y])) (dpa_app db (dpa_one d))
                    exact h σ _ er3 ((st1.trans st2).trans st3)
                · simp only [hz] at h
                  exact h.elim
/-- x.extend(e), e a list of one's own -/
def sExt (i : Nat) (me : M Rv) : M Fl := fun E => match (E[i]?).bind ownL with
  | some _ => (bnd me fun r => fun E1 => match r with
    | .o ys => mutL i (fun xs => if okLen xs && okLen ys then some (xs ++ ys) else none) E1
    | .v j => match (E1[j]?).bind slotD with
      | some (.list ys) => mutL i (fun xs => if okLen xs && okLen ys then some (xs ++ ys) else none) E1
      | _ => .no
    | .d (.list ys) => mutL i (fun xs => if okLen xs && okLen ys then some (xs ++ ys) else none) E1
    | _ => .no) E
  | none => .no
theorem cs_ext {i : Nat} {x : Str} {e : Expr} {me : M Rv} {p apos cpos pos : Pos} (hK : X.K = G.K) (hx : PE X (.Name x p) (tVar i)) (he : PE X e (tE G xa W me))
    (hbase : attributeBase (.Name x p) "extend" X.env (eval (.Name x p) X.env) = eval (.Name x p) X.env := by rfl)
    (hfew : ((backTo cpos (starEach (e :: []) X.env)).all (fun x => !x.1) && (backToKw cpos (keywordEach [] X.env)).all (fun x => x.1.isSome) && decide ((e :: []).length + ([] : List Keyword).length + (if ([] : List Keyword).isEmpty then 0 else 1) < 30)) = true := by rfl)
    (hline : (apos.endLine == cpos.line) = true := by rfl) (hs : starEach (e :: []) X.env = (false, eval e X.env) :: starEach [] X.env := by rfl) (hplain : (backTo cpos (starEach [] X.env)).any (·.1) = false := by rfl)
    (hsw : swapsWith (.Call (.Attribute (.Name x p) "extend" apos) [e] [] cpos) none pos.line X.env = pure false := by rfl) :
    PS X (.Expr (.Call (.Attribute (.Name x p) "extend" apos) [e] [] cpos) pos) (tS G xa W (sExt i me)) :=
  imS (ps_expr (pe_bm PySem.F.plainAttrs_list PySem.F.slot_list_extend PySem.F.type_list_extend mt_extend hx (pa_cons he pa_nil hs) hbase hfew hline hs hplain) hsw) fun D σ H => by
    rintro ⟨F, E, er, h⟩
    change sP G xa W F E σ H D (sExt i me E) at h
    unfold sExt at h
    cases h0 : (E[i]?).bind ownL with
    | none => rw [h0] at h; exact h.elim
    | some xs0 =>
      rw [h0] at h
      cases hs0 : E[i]? with
      | none => rw [hs0] at h0; cases h0
      | some s0 =>
        rw [hs0] at h0
        obtain ⟨a, vs0, hv, ha, _, _, _⟩ := ownL_at er hs0 h0
        refine ⟨.ref a, hv, .inl ⟨rfl, vs0, SqL.of ha⟩, tE.go er ?_⟩
        simp only [bnd] at h
        cases hm : me E with
        | no => rw [hm] at h; exact h
        | ex c x E' => rw [hm] at h; exact h
        | ok r E1 =>
          rw [hm] at h
          simp only [Rs.go] at h
          intro w H1 er1 st1 vr1
          have fin : ∀ {ys : List Dt}, peek (fz r) E1 = some (.list ys) → sP G xa W F E σ H D (mutL i (fun xs => if okLen xs && okLen ys then some (xs ++ ys) else none) E1) →
              ∃ l b xs zs, V.ref a = .ref l ∧ [w] = [.ref b] ∧ H1 l = some (.lst xs) ∧ H1 b = some (.lst zs) ∧ xs.length + zs.length ≤ sizeLine ∧ D.nx σ (upd H1 l (.lst (xs ++ zs))) := by
            intro ys hp h
            obtain ⟨b, zs, rfl, hb, dz⟩ := (vr1.op er1 hp).lst
            unfold mutL at h
            cases hs2 : E1[i]? with
            | none => rw [hs2] at h; exact h.elim
            | some s2 =>
              rw [hs2] at h
              simp only at h
              cases ho2 : ownL s2 with
              | none => rw [ho2] at h; exact h.elim
              | some xs =>
                rw [ho2] at h
                simp only [Option.bind] at h
                obtain ⟨c, vs, hv2, hc, db, oa, pu⟩ := ownL_at er1 hs2 ho2
                have eb : c = a := by
                  rw [hv] at hv2
                  cases hv2
                  rfl
                subst eb
                by_cases hz : (okLen xs && okLen ys) = true
                · simp only [hz, if_true] at h
                  have hz' := hz
                  rw [Bool.and_eq_true] at hz'
                  refine ⟨c, b, vs, zs, rfl, rfl, hc, hb, ?_, ?_⟩
                  · rw [dpa_len db, dpa_len dz]
                    have z1 : xs.length ≤ 100000 := of_decide_eq_true hz'.1
                    have z2 : ys.length ≤ 100000 := of_decide_eq_true hz'.2
                    exact Nat.le_trans (Nat.add_le_add z1 z2) (by decide)
                  · obtain ⟨er3, st3⟩ := mutL_ok er1 hs2 hv2 oa (pu (xs ++ ys)) (dpa_app db dz)
                    exact h σ _ er3 (st1.trans st3)
                · simp only [hz] at h
                  exact h.elim
          cases r with
          | o ys => exact fin rfl h
          | d x =>
            cases x with
            | list ys => exact fin rfl h
            | _ => exact h.elim
          | v j =>
            simp only at h
            cases hj : (E1[j]?).bind slotD with
            | none => rw [hj] at h; exact h.elim
            | some x =>
              rw [hj] at h
              cases x with
              | list ys => exact fin hj h
              | _ => exact h.elim
/-- x[i] = e -/
def sPut (i : Nat) (mi me : M Rv) : M Fl := bnd me fun r => fun E1 => match (E1[i]?).bind ownL with
  | some _ => (bnd mi fun k => bnd (val (fz k)) fun k => bnd (keep (fz r)) fun x => match k with
    | .int k => mutL i fun xs => match ixN xs.length k with
      | some j => some (xs.set j x)
      | none => none
    | _ => fail) E1
  | none => .no
theorem dva_set_len {vs : List V} {xs : List Dt} {K : PySem.W.Frag} {H : Hp} (d : DvAll K H vs xs) : vs.length = xs.length := dpa_len d
theorem cs_put {i : Nat} {x : Str} {e k : Expr} {mi me : M Rv} {p spos pos : Pos} (hx : PE X (.Name x p) (tVar i)) (hk : PE X k (tE G xa W mi)) (he : PE X e (tE G xa W me))
    (ha : ∀ v, assign (.Subscript (.Name x p) k spos) X.env v = (do
      let ov ← holding [v] (eval (.Name x p) X.env)
      let iv ← holding [v, ov] (eval k X.env)
      standAt spos
      holding [v, ov, iv] (setItem ov iv v)
      release [v, ov, iv] []) := by intro _; rfl)
    (hs : swapsWithSole [.Subscript (.Name x p) k spos] e pos.line X.env = pure false := by rfl) (hw : swappedStores [.Subscript (.Name x p) k spos] e X.env = pure none := by rfl)
    (h1 : (assignEach [.Subscript (.Name x p) k spos] X.env).map (·.2) = [assign (.Subscript (.Name x p) k spos) X.env] := by rfl) :
    PS X (.Assign [.Subscript (.Name x p) k spos] e pos) (tS G xa W (sPut i mi me)) := imS (ps_asg he (pg_sub hx hk set_list ha) hs hw h1) fun D σ H => by
  rintro ⟨F, E, er, h⟩
  refine tE.go er ?_
  change sP G xa W F E σ H D _ at h
  unfold sPut bnd at h
  cases hm : me E with
  | no => rw [hm] at h; exact h
  | ex c x E' => rw [hm] at h; exact h
  | ok r E1 =>
    rw [hm] at h
    simp only [Rs.go] at h
    intro w H1 er1 st1 vr1
    cases h0 : (E1[i]?).bind ownL with
    | none => rw [h0] at h; exact h.elim
    | some xs0 =>
      rw [h0] at h
      cases hs0 : E1[i]? with
      | none => rw [hs0] at h0; cases h0
      | some s0 =>
        rw [hs0] at h0
        obtain ⟨a, vs0, hv, ha, _, _, _⟩ := ownL_at er1 hs0 h0
        refine ⟨.ref a, hv, tE.go er1 ?_⟩
        simp only at h
        cases hm2 : mi E1 with
        | no => rw [hm2] at h; exact h
        | ex c x E' => rw [hm2] at h; exact xP.from h st1
        | ok k E2 =>
          rw [hm2] at h
          simp only [val] at h
          intro u H2 er2 st2 vr2
          cases hp : peek (fz k) E2 with
          | none => rw [hp] at h; exact h.elim
          | some kx =>
            rw [hp] at h
            simp only at h
            have o := vr2.op er2 hp
            have vr1' := vr1.mv st2
            cases hk2 : keep (fz r) E2 with
            | no => rw [hk2] at h; exact h.elim
            | ex c x E' => exact absurd hk2 keep_ex
            | ok y E3 =>
              rw [hk2] at h
              simp only at h
              obtain ⟨er3, st3, d⟩ := keepV er2 vr1' hk2
              cases kx with
              | int k =>
                simp only at h
                unfold mutL at h
                cases hs3 : E3[i]? with
                | none => rw [hs3] at h; exact h.elim
                | some s3 =>
                  rw [hs3] at h
                  simp only at h
                  cases ho3 : ownL s3 with
                  | none => rw [ho3] at h; exact h.elim
                  | some xs =>
                    rw [ho3] at h
                    simp only [Option.bind] at h
                    obtain ⟨b, vs, hv2, hb, db, oa, pu⟩ := ownL_at er3 hs3 ho3
                    have eb : b = a := by
                      rw [hv] at hv2
                      cases hv2
                      rfl
                    subst eb
                    cases hj : ixN xs.length k with
                    | none => rw [hj] at h; exact h.elim
                    | some j =>
                      rw [hj] at h
                      simp only at h
                      refine ⟨b, vs, k, j, rfl, o.int, hb, by rw [dpa_len db]; exact hj, ?_⟩
                      obtain ⟨er4, st4⟩ := mutL_ok er3 hs3 hv2 oa (pu (xs.set j y)) (dpa_set j db d)
                      exact h σ _ er4 (((st1.trans st2).trans st3).trans st4)
              | _ => exact h.elim
end
end Vs
/-! # VsF -/
set_option Elab.async false
set_option linter.all false
set_option maxRecDepth 100000
set_option maxHeartbeats 2000000
/-! Vs, part F: while, for, list comprehensions. -/
namespace Vs
open PySem L2
open Evl (Ex)

section
variable {G : Gi} {xa : Xa} {W : WX} {X : Cx} {F : List Addr} {E E1 : En} {σ σ1 : L2.St} {H H1 : Hp} {D : Ends}
/-! ### while -/
def aft (k : M Fl) (f : Fl) : M Fl := match f with
  | .nx => k
  | .ct => k
  | .bk => ret .nx
  | .rt r => ret (.rt r)
def whileM (mc : M Bool) (mb : M Fl) : Nat → M Fl
  | 0 => fail
  | n + 1 => bnd mc fun b => if b then bnd mb (aft (whileM mc mb n)) else ret .nx
/-- behind a body: the next turn, or the loop's end -/
theorem aft_imp {k : M Fl} {m : M Fl} {N : L2.St → Hp → Prop} (er : ER G xa F [] σ H E) (st : Stp F E1 σ1 H1 [] E σ H) (h : sP G xa W F E1 σ1 H1 D ((bnd m (aft k)) E))
    (hN : ∀ E2 σ2 H2, ER G xa F [] σ2 H2 E2 → Stp F E σ H [] E2 σ2 H2 → sP G xa W F E1 σ1 H1 D (k E2) → N σ2 H2) : tS G xa W m { D with nx := N, ct := N, bk := D.nx } σ H := by
  refine tS.mk er ?_
  unfold bnd at h
  cases hm : m E with
  | no => rw [hm] at h; exact h
  | ex c x E' => rw [hm] at h; exact xP.from h st
  | ok f E2 =>
    rw [hm] at h
    simp only [Rs.go] at h
    cases f with
    | nx => exact fun σ2 H2 er2 st2 => hN E2 σ2 H2 er2 st2 h
    | ct => exact fun σ2 H2 er2 st2 => hN E2 σ2 H2 er2 st2 h
    | bk => exact fun σ2 H2 er2 st2 => h σ2 H2 er2 (st.trans st2)
    | rt r => exact fun ex v σ2 H2 er2 st2 vr => h ex v σ2 H2 er2 (st.trans st2) vr
theorem cs_while {c : Expr} {body : List Stmt} {pos : Pos} {mc : M Bool} {mb : M Fl} (N : Nat) (hp : PassesOwn (model X.prog X.w) X.A X.env X.xe) (hc : PT X c (tT G xa W mc)) (hb : PSs X body (tS G xa W mb)) :
    PS X (.While c body [] pos) (tS G xa W (whileM mc mb N)) := imS (ps_while hp hc hb) fun D σ H => by
  rintro ⟨F, E, er, h⟩
  change sP G xa W F E σ H D (whileM mc mb N E) at h
  refine ⟨fun m σ1 H1 => ∃ E1, ER G xa F [] σ1 H1 E1 ∧ Stp F E σ H [] E1 σ1 H1 ∧ sP G xa W F E σ H D (whileM mc mb m E1), ⟨N, E, er, Stp.refl _ _ _ _, h⟩, ?_⟩
  rintro m σ1 H1 ⟨E1, er1, st1, h1⟩
  refine tT.go er1 ?_
  cases m with
  | zero => exact h1.elim
  | succ n =>
    change sP G xa W F E σ H D ((bnd mc fun b => if b then bnd mb (aft (whileM mc mb n)) else ret .nx) E1) at h1
    unfold bnd at h1
    cases hm : mc E1 with
    | no => rw [hm] at h1; exact h1
    | ex c x E' => rw [hm] at h1; exact xP.from h1 st1
    | ok b E2 =>
      rw [hm] at h1
      simp only [Rs.go] at h1
      intro H2 er2 st2
      cases b with
      | false =>
        rw [if_neg Bool.false_ne_true] at h1 ⊢
        exact h1 σ1 H2 er2 (st1.trans st2)
      | true =>
        rw [if_pos rfl] at h1 ⊢
        refine ⟨fun σ3 H3 => ∃ E3, ER G xa F [] σ3 H3 E3 ∧ Stp F E σ H [] E3 σ3 H3 ∧ sP G xa W F E σ H D (whileM mc mb n E3), fun σ3 H3 hh => ⟨n, Nat.lt_succ_self _, hh⟩, ?_⟩
        exact aft_imp er2 (st1.trans st2) h1 fun E3 σ3 H3 er3 st3 h3 => ⟨E3, er3, (st1.trans st2).trans st3, h3⟩

/-! ### what is walked, told as data -/
structure ItOk (G : Gi) (F : List Addr) (E : En) (σ : L2.St) (H : Hp) (J : It) (xs : List Dt) : Prop where
  go : ∀ (i : Nat) (F' : List Addr) (E' : En) (σ' : L2.St) (H' : Hp) (x : Dt), (∀ a ∈ F' ++ own E' σ', H' a ≠ none) → Ex (vis F E σ H) (vis F' E' σ' H') → xs[i]? = some x →
    J.go i H' ∧ ∀ v H2, J.yld i H' v H2 → Nw (F' ++ own E' σ') [] H' H2 ∧ Dv G.K (vis F' E' σ' H2) v x
  stop : ∀ (i : Nat) (F' : List Addr) (E' : En) (σ' : L2.St) (H' : Hp), Ex (vis F E σ H) (vis F' E' σ' H') → xs.length ≤ i → J.stop i H'
def tI (G : Gi) (xa : Xa) (W : WX) (mi : M (List Dt)) : TI := fun σ H R => ∃ F E, ER G xa F [] σ H E ∧ match mi E with
  | .ok xs E' => ∀ J H', ER G xa F [] σ H' E' → Stp F E σ H [] E' σ H' → ItOk G F E' σ H' J xs → R J H'
  | .ex c x E' => xP G xa W F E σ H c x E'
  | .no => False
def imI {X : Cx} {tg it : Expr} {t t' : TI} (h : PI X tg it t) (i : ∀ σ H R, t' σ H R → t σ H R) : PI X tg it t' := ⟨fun pins s σ H R I q => h.run pins s σ H R I (i σ H R q)⟩
/-- a list or a tuple, given away -/
def iSeq (me : M Rv) : M (List Dt) := bnd me fun r => bnd (keep (fz r)) fun x => match x with
  | .list xs => ret xs
  | .tuple xs => ret xs
  | _ => fail
theorem pi_or {tg it : Expr} {t u : TI} (h1 : PI X tg it t) (h2 : PI X tg it u) : PI X tg it (fun σ H R => t σ H R ∨ u σ H R) := ⟨fun pins s σ H R I h => h.elim (h1.run pins s σ H R I) (h2.run pins s σ H R I)⟩
theorem itl_ok {K : PySem.W.Frag} (hK : K = G.K) {a : Addr} {vs : List V} {xs : List Dt} (h : vis F E σ H a = some (.lst vs)) (d : DvAll G.K (vis F E σ H) vs xs) : ItOk G F E σ H (Itl K a) xs := by
  subst hK
  refine ⟨fun i F' E' σ' H' x tr e hx => ?_, fun i F' E' σ' H' e hi => ⟨vs, SqL.of (ex_hid0 _ _ (e _ _ h)), by rw [dpa_len d]; exact hi⟩⟩
  obtain ⟨v, hv, dx⟩ := dpa_at d hx
  have hs : SqL G.K H' a vs := SqL.of (ex_hid0 _ _ (e _ _ h))
  refine ⟨⟨vs, v, hs, hv⟩, fun w H2 hy => ?_⟩
  obtain ⟨rfl, hw⟩ := hy
  have ew : w = v := by
    have := hw vs hs
    rw [hv] at this
    exact (Option.some.inj this).symm
  subst ew
  exact ⟨Nw.refl _ _, dx.up e⟩
theorem itt_ok {K : PySem.W.Frag} (hK : K = G.K) {a : Addr} {vs : List V} {xs : List Dt} (h : SqT G.K (vis F E σ H) a vs) (d : DvAll G.K (vis F E σ H) vs xs) : ItOk G F E σ H (Itt K a) xs := by
  subst hK
  refine ⟨fun i F' E' σ' H' x tr e hx => ?_, fun i F' E' σ' H' e hi => ⟨vs, Evl.ex_t ex_hid0 (Evl.ex_t e h), by rw [dpa_len d]; exact hi⟩⟩
  obtain ⟨v, hv, dx⟩ := dpa_at d hx
  have hs : SqT G.K H' a vs := Evl.ex_t ex_hid0 (Evl.ex_t e h)
  refine ⟨⟨vs, v, hs, hv⟩, fun w H2 hy => ?_⟩
  obtain ⟨rfl, hw⟩ := hy
  have ew : w = v := by
    have := hw vs hs
    rw [hv] at this
    exact (Option.some.inj this).symm
  subst ew
  exact ⟨Nw.refl _ _, dx.up e⟩
theorem ci_seq {tg e : Expr} {me : M Rv} (hK : X.K = G.K) (he : PE X e (tE G xa W me)) : PI X tg e (tI G xa W (iSeq me)) := imI (pi_or (pi_list he) (pi_tup he)) fun σ H R => by
  rintro ⟨F, E, er, h⟩
  unfold iSeq bnd at h
  cases hm : me E with
  | no => rw [hm] at h; exact h.elim
  | ex c x E' =>
    rw [hm] at h
    exact .inl (tE.go er (by rw [hm]; exact h))
  | ok r E1 =>
    rw [hm] at h
    simp only [Rs.go] at h
    cases hk : keep (fz r) E1 with
    | no => rw [hk] at h; exact h.elim
    | ex c x E' => exact absurd hk keep_ex
    | ok x E2 =>
      rw [hk] at h
      simp only at h
      cases x with
      | list xs =>
        refine .inl (tE.go er ?_)
        rw [hm]
        intro v H1 er1 st1 vr1
        obtain ⟨er2, st2, d⟩ := keepV er1 vr1 hk
        cases d with
        | lst hs ds => exact ⟨_, rfl, ⟨_, SqL.of (ex_hid0 _ _ hs)⟩, h _ _ er2 (st1.trans st2) (itl_ok hK hs ds)⟩
      | tuple xs =>
        refine .inr (tE.go er ?_)
        rw [hm]
        intro v H1 er1 st1 vr1
        obtain ⟨er2, st2, d⟩ := keepV er1 vr1 hk
        cases d with
        | tup hs ds => exact ⟨_, rfl, ⟨_, by rw [hK]; exact Evl.ex_t ex_hid0 hs⟩, h _ _ er2 (st1.trans st2) (itt_ok hK hs ds)⟩
      | _ => exact h.elim
def rngD (lo : Int) (n : Nat) : List Dt := (List.range n).map fun (i : Nat) => .int (lo + (i : Int))
theorem rngD_len (lo : Int) (n : Nat) : (rngD lo n).length = n := by simp [rngD]
theorem rngD_at {lo : Int} {n i : Nat} {x : Dt} (h : (rngD lo n)[i]? = some x) : i < n ∧ x = .int (lo + (i : Int)) := by
  unfold rngD at h
  rw [List.getElem?_map] at h
  by_cases hi : i < n
  · rw [List.getElem?_range hi] at h
    cases h
    exact ⟨hi, rfl⟩
  · rw [List.getElem?_eq_none (by simp; omega)] at h
    cases h
theorem itr_ok {lo : Int} {n : Nat} : ItOk G F E σ H (Itr lo n) (rngD lo n) := by
  refine ⟨fun i F' E' σ' H' x tr e hx => ?_, fun i F' E' σ' H' e hi => by rw [rngD_len] at hi; exact hi⟩
  obtain ⟨hi, rfl⟩ := rngD_at hx
  refine ⟨hi, fun v H2 hy => ?_⟩
  obtain ⟨rfl, rfl⟩ := hy
  exact ⟨Nw.refl _ _, .int _⟩
def okI (i : Int) : Bool := decide (-(2 ^ 62) ≤ i ∧ i < 2 ^ 62)
theorem okI_iff {i : Int} (h : okI i = true) : -(2 ^ 62) ≤ i ∧ i < 2 ^ 62 := of_decide_eq_true h
/-- a range: g gives its items -/
def iRng (g : List Dt → Option (List Dt)) (ma : M (List Rv)) : M (List Dt) := bnd ma fun rs => bnd (vals rs) fun xs => opt (g xs)
theorem iRng_imp {g : List Dt → Option (List Dt)} {ma : M (List Rv)} {R : It → Hp → Prop} {K : List V → Hp → Prop} (er : ER G xa F [] σ H E)
    (h : match iRng g ma E with
      | .ok xs E' => ∀ J H', ER G xa F [] σ H' E' → Stp F E σ H [] E' σ H' → ItOk G F E' σ H' J xs → R J H'
      | .ex c x E' => xP G xa W F E σ H c x E'
      | .no => False)
    (hk : ∀ vs xs H' E' ys, OpAll G (F ++ own E' σ) H' vs xs → g xs = some ys → (∀ J, ItOk G F E' σ H' J ys → R J H') → K vs H') : tA G xa W ma σ H K := by
  refine tA.go er ?_
  unfold iRng bnd at h
  cases hm : ma E with
  | no => rw [hm] at h; exact h
  | ex c x E' => rw [hm] at h; exact h
  | ok rs E1 =>
    rw [hm] at h
    simp only [Rs.go] at h
    intro vs H1 er1 st1 vr1
    rcases valsV er1 vr1 with ⟨xs, e, o⟩ | e
    · rw [e] at h
      simp only at h
      cases hi : g xs with
      | none => rw [hi] at h; exact h.elim
      | some ys =>
        rw [hi] at h
        exact hk vs xs H1 E1 ys o hi fun J ok => h J H1 er1 st1 ok
    · rw [e] at h; exact h.elim
def rng1 : List Dt → Option (List Dt)
  | [.int j] => if okI j then some (rngD 0 j.toNat) else none
  | _ => none
def rng2 : List Dt → Option (List Dt)
  | [.int i, .int j] => if okI i && okI j then some (rngD i (j - i).toNat) else none
  | _ => none
theorem ci_range1 {tg a : Expr} {ma : M (List Rv)} {p pos : Pos} (hg : Gl X "range") (hm : X.mg "range" = none) (ha : PA X [a] (tA G xa W ma)) (hs : starEach [a] X.env = [(false, eval a X.env)] := by rfl) :
    PI X tg (.Call (.Name "range" p) [a] [] pos) (tI G xa W (iRng rng1 ma)) := imI (pi_range1 hg hm ha hs) fun σ H R => by
  rintro ⟨F, E, er, h⟩
  refine iRng_imp er h fun vs xs H' E' ys o hi hR => ?_
  unfold rng1 at hi
  split at hi
  · rename_i j
    split at hi
    · rename_i hk
      cases hi
      cases o with
      | cons o1 o2 =>
        cases o2
        exact ⟨j, by rw [o1.int], (okI_iff hk).1, (okI_iff hk).2, hR _ itr_ok⟩
    · cases hi
  · cases hi
theorem ci_range2 {tg a b : Expr} {ma : M (List Rv)} {p pos : Pos} (hg : Gl X "range") (hm : X.mg "range" = none) (ha : PA X [a, b] (tA G xa W ma)) (hs : starEach [a, b] X.env = [(false, eval a X.env), (false, eval b X.env)] := by rfl)
    (hs2 : starEach [b] X.env = [(false, eval b X.env)] := by rfl) : PI X tg (.Call (.Name "range" p) [a, b] [] pos) (tI G xa W (iRng rng2 ma)) := imI (pi_range2 hg hm ha hs hs2) fun σ H R => by
  rintro ⟨F, E, er, h⟩
  refine iRng_imp er h fun vs xs H' E' ys o hi hR => ?_
  unfold rng2 at hi
  split at hi
  · rename_i i j
    split at hi
    · rename_i hk
      cases hi
      rw [Bool.and_eq_true] at hk
      cases o with
      | cons o1 o2 =>
        cases o2 with
        | cons o2 o3 =>
          cases o3
          exact ⟨i, j, by rw [o1.int, o2.int], ⟨(okI_iff hk.1).1, (okI_iff hk.1).2, (okI_iff hk.2).1, (okI_iff hk.2).2⟩, hR _ itr_ok⟩
    · cases hi
  · cases hi

/-! ### for -/
def forM (g : Dt → M Fl) (mb : M Fl) : List Dt → M Fl
  | [] => ret .nx
  | x :: xs => fun E => match g x E with
    | .ok .nx E1 => bnd mb (aft (forM g mb xs)) E1
    | _ => .no
def sFor (g : Dt → M Fl) (mi : M (List Dt)) (mb : M Fl) : M Fl := bnd mi (forM g mb)
/-- a target by data: it stores in the slots of is alone -/
def TgSem (G : Gi) (xa : Xa) (t : TG) (g : Dt → M Fl) (is : List Nat) : Prop :=
  ∀ (F : List Addr) (E E1 : En) (σ σ1 : L2.St) (H H1 : Hp) (v : V) (x : Dt) (K : L2.St → Hp → Prop), ER G xa F [] σ H E → Stp F E1 σ1 H1 [] E σ H → Dv G.K (vis F E σ H) v x →
    (∃ E2, g x E = .ok .nx E2 ∧ ∀ (σ2 : L2.St) (H2 : Hp), ER G xa F [] σ2 H2 E2 → Stp F E1 σ1 H1 [] E2 σ2 H2 → (∀ j : Nat, j ∉ is → σ2[j]? = σ[j]?) → H2 = H → K σ2 H2) → t v σ H K
def tgN (i : Nat) (x : Dt) : M Fl := setS i (.d x)
theorem tgN_ok {i : Nat} : TgSem G xa (gName i) (tgN i) [i] := by
  rintro F E E1 σ σ1 H H1 v x K er st d ⟨E2, e, h⟩
  obtain ⟨_, rfl, s0, h0, hne⟩ := setS_ok e
  obtain ⟨er3, fr3⟩ := er.setD h0 d
  exact h _ _ er3 (Stp.set (ex := []) hne fr3 st) (fun j hj => List.getElem?_set_ne (by simp at hj; exact fun z => hj z.symm)) rfl
def tgU (is : List Nat) (x : Dt) : M Fl := match x with
  | .tuple xs => setAll is xs
  | .list xs => setAll is xs
  | _ => fail
theorem gAll_sem : ∀ {is : List Nat} {xs : List Dt} {vs : List V} {F : List Addr} {E E1 E2 : En} {σ σ1 : L2.St} {H H1 : Hp} {K : L2.St → Hp → Prop}, ER G xa F [] σ H E → Stp F E1 σ1 H1 [] E σ H → DvAll G.K (vis F E σ H) vs xs → setAll is xs E = .ok .nx E2 →
    (∀ (σ2 : L2.St), ER G xa F [] σ2 H E2 → Stp F E1 σ1 H1 [] E2 σ2 H → (∀ j : Nat, j ∉ is → σ2[j]? = σ[j]?) → K σ2 H) → gAll is vs σ H K := by
  intro is
  induction is with
  | nil =>
    intro xs vs F E E1 E2 σ σ1 H H1 K er st d e h
    cases d with
    | nil =>
      cases e
      exact ⟨rfl, h σ er st fun _ _ => rfl⟩
    | cons _ _ => cases e
  | cons i is ih =>
    intro xs vs F E E1 E2 σ σ1 H H1 K er st d e h
    cases d with
    | nil => cases e
    | @cons v vs x xs d1 d2 =>
      refine ⟨v, vs, rfl, ?_⟩
      change sSeq (setS i (.d x)) (setAll is xs) E = _ at e
      unfold sSeq bnd at e
      rcases setS_cases i (.d x) E with q | q
      · rw [q] at e
        simp only [Rs.go] at e
        obtain ⟨_, _, s0, h0, hne⟩ := setS_ok q
        obtain ⟨er3, fr3⟩ := er.setD h0 d1
        refine ih er3 (Stp.set (ex := []) hne fr3 st) (d2.up fr3) e fun σ2 er2 st2 hj => h σ2 er2 st2 fun j hm => ?_
        rw [hj j (fun z => hm (List.mem_cons_of_mem _ z))]
        exact List.getElem?_set_ne (fun z => hm (by rw [z]; exact List.mem_cons_self))
      · rw [q] at e; cases e
theorem setAll_nx : ∀ {is : List Nat} {xs : List Dt} {E E2 : En} {f : Fl}, setAll is xs E = .ok f E2 → f = .nx ∧ is.length = xs.length
  | [], [], _, _, _, e => by cases e; exact ⟨rfl, rfl⟩
  | [], _ :: _, _, _, _, e => by cases e
  | _ :: _, [], _, _, _, e => by cases e
  | i :: is, x :: xs, E, E2, f, e => by
    change sSeq (setS i (.d x)) (setAll is xs) E = _ at e
    unfold sSeq bnd at e
    rcases setS_cases i (.d x) E with q | q
    · rw [q] at e
      obtain ⟨h1, h2⟩ := setAll_nx e
      exact ⟨h1, congrArg (· + 1) h2⟩
    · rw [q] at e; cases e
theorem tgU_ok {is : List Nat} {K : PySem.W.Frag} (hK : K = G.K) : TgSem G xa (gUnp K is) (tgU is) is := by
  subst hK
  rintro F E E1 σ σ1 H H1 v x K er st d ⟨E2, e, h⟩
  cases d with
  | lst hs ds =>
    refine .inr ⟨_, _, rfl, SqL.of (ex_hid0 _ _ hs), ?_, gAll_sem er st ds e fun σ2 er2 st2 hj => h σ2 _ er2 st2 hj rfl⟩
    rw [dpa_len ds, ← (setAll_nx e).2]
  | tup hs ds =>
    refine .inl ⟨_, _, rfl, Evl.ex_t ex_hid0 hs, ?_, gAll_sem er st ds e fun σ2 er2 st2 hj => h σ2 _ er2 st2 hj rfl⟩
    rw [dpa_len ds, ← (setAll_nx e).2]
  | non => cases e
  | bl b => cases e
  | int i => cases e
  | str s => cases e
  | dct _ _ => cases e
theorem tgN_nx {i : Nat} {x : Dt} {E E2 : En} {f : Fl} (e : tgN i x E = .ok f E2) : f = .nx := (setS_ok e).1
theorem tgU_nx {is : List Nat} {x : Dt} {E E2 : En} {f : Fl} (e : tgU is x E = .ok f E2) : f = .nx := by
  unfold tgU at e
  split at e
  · exact (setAll_nx e).1
  · exact (setAll_nx e).1
  · cases e
theorem setS_ex {i : Nat} {s : Sl} {E E' : En} {c : Nat} {x : Dt} : setS i s E ≠ .ex c x E' := by
  rcases setS_cases i s E with q | q <;> rw [q] <;> simp
theorem drop_get {α : Type} {l : List α} {i : Nat} {x : α} (h : l[i]? = some x) : l.drop i = x :: l.drop (i + 1) := by
  obtain ⟨hi, e⟩ := List.getElem?_eq_some_iff.mp h
  rw [List.drop_eq_getElem_cons hi, e]
theorem for_imp {t : TG} {g : Dt → M Fl} {is : List Nat} (hg : TgSem G xa t g is) {mi : M (List Dt)} {mb : M Fl} : ∀ D σ H, tS G xa W (sFor g mi mb) D σ H → tFor (tI G xa W mi) t (tS G xa W mb) D σ H := by
  rintro D σ H ⟨F, E, er, h⟩
  refine ⟨F, E, er, ?_⟩
  change sP G xa W F E σ H D _ at h
  unfold sFor bnd at h
  cases hm : mi E with
  | no => rw [hm] at h; exact h
  | ex c x E' => rw [hm] at h; exact h
  | ok xs E1 =>
    rw [hm] at h
    simp only [Rs.go] at h
    intro J H1 er1 st1 ok
    refine ⟨fun i m σ2 H2 => ∃ E2, m + i = xs.length ∧ ER G xa F [] σ2 H2 E2 ∧ Stp F E1 σ H1 [] E2 σ2 H2 ∧ sP G xa W F E σ H D (forM g mb (xs.drop i) E2), ⟨xs.length, E1, by omega, er1, Stp.refl _ _ _ _, h⟩, ?_⟩
    rintro i m σ2 H2 ⟨E2, hmi, er2, st2, h2⟩
    have st12 := st1.trans st2
    by_cases hi : i < xs.length
    · have hx : xs[i]? = some xs[i] := List.getElem?_eq_getElem hi
      obtain ⟨go, yld⟩ := ok.go i F E2 σ2 H2 _ (trOf er2) st2.fr hx
      rw [drop_get hx] at h2
      simp only [forM] at h2
      refine .inr ⟨go, fun σ3 H3 => ∃ E3, ER G xa F [] σ3 H3 E3 ∧ Stp F E1 σ H1 [] E3 σ3 H3 ∧ sP G xa W F E σ H D (forM g mb (xs.drop (i + 1)) E3), fun σ3 H3 ⟨E3, a, b, c⟩ => ⟨m - 1, by omega, E3, by omega, a, b, c⟩, fun v H3 hy => ?_⟩
      obtain ⟨nw, d⟩ := yld v H3 hy
      have er3 := er2.new nw
      have st3 : Stp F E2 σ2 H2 [] E2 σ2 H3 := nw.stp
      cases hq : g xs[i] E2 with
      | no => rw [hq] at h2; exact h2.elim
      | ex c x E' => rw [hq] at h2; exact h2.elim
      | ok f E3 =>
        rw [hq] at h2
        cases f with
        | nx =>
          simp only at h2
          refine hg F E2 E2 σ2 σ2 H3 H2 v xs[i] _ er3 st3 d ⟨E3, hq, fun σ4 H4 er4 st4 _ _ => ?_⟩
          exact aft_imp er4 (st12.trans st4) h2 fun E5 σ5 H5 er5 st5 h5 => ⟨E5, er5, (st2.trans st4).trans st5, h5⟩
        | _ => exact h2.elim
    · refine .inl ⟨ok.stop i F E2 σ2 H2 st2.fr (by omega), ?_⟩
      rw [List.drop_of_length_le (by omega)] at h2
      exact h2 σ2 H2 er2 st12
theorem cs_for {tg iter : Expr} {body : List Stmt} {t : TG} {g : Dt → M Fl} {is : List Nat} {mi : M (List Dt)} {mb : M Fl} {pos : Pos} (hp : PassesOwn (model X.prog X.w) X.A X.env X.xe) (hc : X.calm = true) (hi : PI X tg iter (tI G xa W mi)) (ht : PG X tg t) (hg : TgSem G xa t g is)
    (hb : PSs X body (tS G xa W mb)) (hs : ∀ x, foldedSetIterable iter X.env x = pure x := by intro _; rfl) : PS X (.For tg iter body [] pos) (tS G xa W (sFor g mi mb)) := imS (ps_for hp hc hi ht hb hs) (for_imp hg)

/-! ### list comprehensions -/
def nox {α : Type} (m : M α) : M α := fun E => match m E with
  | .ok a E' => .ok a E'
  | _ => .no
/-- the own names' slots, forgotten; put back -/
def wipeE (E : En) : List Nat → En
  | [] => E
  | v :: vs => (wipeE E vs).set v .un
def backE (E0 E : En) : List Nat → En
  | [] => E
  | v :: vs => match E0[v]? with
    | some s => (backE E0 E vs).set v s
    | none => backE E0 E vs
/-- the own names' slots must be free, or hold data -/
def okOwn (E : En) (vs : List Nat) : Bool := vs.all fun v => match E[v]? with
  | some .un => true
  | some (.d _) => true
  | _ => false
def lcM (vs : List Nat) (g : Dt → M Fl) (mt : M Bool) (me : M Rv) : List Dt → List Dt → M (List Dt)
  | [], acc => ret acc
  | x :: xs, acc => fun E => match g x (wipeE E vs) with
    | .ok .nx E1 => (bnd mt fun b => if b then bnd me fun r => bnd (keep (fz r)) fun y => if okLen acc then lcM vs g mt me xs (acc ++ [y]) else fail else lcM vs g mt me xs acc) E1
    | _ => .no
def eLc (vs : List Nat) (g : Dt → M Fl) (mt : M Bool) (me : M Rv) (mi : M (List Dt)) : M Rv := bnd mi fun xs => fun E => if okOwn E vs then match lcM vs g mt me xs [] E with
    | .ok ys E' => .ok (.o ys) (backE E E' vs)
    | _ => .no
  else .no
end
end Vs
/-! # VsG -/
set_option Elab.async false
set_option linter.all false
set_option maxRecDepth 100000
set_option maxHeartbeats 4000000
/-! Vs, part G: list comprehensions are sound. -/
namespace Vs
open PySem L2
open Evl (Ex)

theorem own_ext : ∀ {E E' : En} {σ σ' : L2.St}, E.length = σ.length → E'.length = σ'.length → E.length = E'.length →
    (∀ (j : Nat) (s s' : Sl) (v v' : Option V), E[j]? = some s → σ[j]? = some v → E'[j]? = some s' → σ'[j]? = some v' → ownA s v = ownA s' v') → own E σ = own E' σ'
  | [], [], [], [], _, _, _, _ => rfl
  | s :: E, s' :: E', v :: σ, v' :: σ', h1, h2, h3, h => by
    show ownA s v ++ own E σ = ownA s' v' ++ own E' σ'
    rw [h 0 s s' v v' rfl rfl rfl rfl, own_ext (by simpa using h1) (by simpa using h2) (by simpa using h3) fun j a b c d e1 e2 e3 e4 => h (j + 1) a b c d (by simpa using e1) (by simpa using e2) (by simpa using e3) (by simpa using e4)]
  | [], [], _ :: _, _, h, _, _, _ => by simp at h
  | [], [], [], _ :: _, _, h, _, _ => by simp at h
  | [], _ :: _, _, _, _, _, h, _ => by simp at h
  | _ :: _, [], _, _, _, _, h, _ => by simp at h
  | _ :: _, _ :: _, [], _, h, _, _, _ => by simp at h
  | _ :: _, _ :: _, _ :: _, [], _, h, _, _ => by simp at h
theorem wipeE_len (E : En) : ∀ vs : List Nat, (wipeE E vs).length = E.length
  | [] => rfl
  | v :: vs => by
    show ((wipeE E vs).set v .un).length = _
    rw [List.length_set, wipeE_len E vs]
theorem wipeE_out {E : En} {j : Nat} : ∀ {vs : List Nat}, j ∉ vs → (wipeE E vs)[j]? = E[j]?
  | [], _ => rfl
  | v :: vs, h => by
    show ((wipeE E vs).set v .un)[j]? = _
    rw [List.getElem?_set_ne (by rintro rfl; exact h List.mem_cons_self), wipeE_out fun z => h (List.mem_cons_of_mem _ z)]
theorem wipeE_in {E : En} {j : Nat} : ∀ {vs : List Nat}, j ∈ vs → j < E.length → (wipeE E vs)[j]? = some .un
  | [], h, _ => by cases h
  | v :: vs, h, hl => by
    show ((wipeE E vs).set v .un)[j]? = _
    by_cases e : v = j
    · subst e
      rw [List.getElem?_set_self (by rw [wipeE_len]; exact hl)]
    · rw [List.getElem?_set_ne e]
      exact wipeE_in ((List.mem_cons.mp h).resolve_left fun z => e z.symm) hl
theorem wipe_in {σ : L2.St} {j : Nat} : ∀ {vs : List Nat}, j ∈ vs → j < σ.length → (wipe σ vs)[j]? = some none
  | [], h, _ => by cases h
  | v :: vs, h, hl => by
    show ((wipe σ vs).set v none)[j]? = _
    by_cases e : v = j
    · subst e
      rw [List.getElem?_set_self (by rw [wipe_length]; exact hl)]
    · rw [List.getElem?_set_ne e]
      exact wipe_in ((List.mem_cons.mp h).resolve_left fun z => e z.symm) hl
theorem backE_len (E0 E : En) : ∀ vs : List Nat, (backE E0 E vs).length = E.length
  | [] => rfl
  | v :: vs => by
    unfold backE
    cases h : E0[v]? with
    | none => exact backE_len E0 E vs
    | some s => simp only; rw [List.length_set, backE_len E0 E vs]
theorem backE_out {E0 E : En} {j : Nat} : ∀ {vs : List Nat}, j ∉ vs → (backE E0 E vs)[j]? = E[j]?
  | [], _ => rfl
  | v :: vs, h => by
    unfold backE
    cases hs : E0[v]? with
    | none => exact backE_out fun z => h (List.mem_cons_of_mem _ z)
    | some s =>
      simp only
      rw [List.getElem?_set_ne (by rintro rfl; exact h List.mem_cons_self), backE_out fun z => h (List.mem_cons_of_mem _ z)]
theorem backE_in {E0 E : En} {j : Nat} (hl : E0.length = E.length) : ∀ {vs : List Nat}, j ∈ vs → (backE E0 E vs)[j]? = E0[j]?
  | [], h => by cases h
  | v :: vs, h => by
    unfold backE
    by_cases e : v = j
    · subst e
      cases hs : E0[v]? with
      | none =>
        simp only
        rw [List.getElem?_eq_none_iff] at hs ⊢
        rw [backE_len, ← hl]
        exact hs
      | some s =>
        simp only
        rw [List.getElem?_set_self]
        rw [backE_len, ← hl]
        exact (List.getElem?_eq_some_iff.mp hs).1
    · have hj := (List.mem_cons.mp h).resolve_left fun z => e z.symm
      cases hs : E0[v]? with
      | none => exact backE_in hl hj
      | some s =>
        simp only
        rw [List.getElem?_set_ne e]
        exact backE_in hl hj
theorem wipe_eq {σ σ' : L2.St} {vs : List Nat} (hl : σ'.length = σ.length) (h : ∀ j : Nat, j ∉ vs → σ'[j]? = σ[j]?) : wipe σ' vs = wipe σ vs := by
  apply List.ext_getElem?
  intro j
  by_cases hj : j ∈ vs
  · by_cases hb : j < σ.length
    · rw [wipe_in hj hb, wipe_in hj (by rw [hl]; exact hb)]
    · rw [List.getElem?_eq_none (by rw [wipe_length]; omega), List.getElem?_eq_none (by rw [wipe_length]; omega)]
  · rw [wipe_out hj, wipe_out hj, h j hj]

section
variable {G : Gi} {xa : Xa} {W : WX} {X : Cx} {F : List Addr} {E E1 : En} {σ σ1 : L2.St} {H H1 : Hp} {D : Ends}
theorem ER.wipe (er : ER G xa F [] σ H E) : ∀ vs : List Nat, ER G xa F [] (wipe σ vs) H (wipeE E vs) ∧ Ex (vis F E σ H) (vis F (wipeE E vs) (wipe σ vs) H)
  | [] => ⟨er, Evl.Ex.refl _⟩
  | v :: vs => by
    obtain ⟨e1, f1⟩ := ER.wipe er vs
    show ER G xa F [] ((L2.wipe σ vs).set v none) H ((wipeE E vs).set v .un) ∧ Ex _ (vis F ((wipeE E vs).set v .un) ((L2.wipe σ vs).set v none) H)
    cases hs : (wipeE E vs)[v]? with
    | none =>
      have hb := List.getElem?_eq_none_iff.mp hs
      rw [List.set_eq_of_length_le hb, List.set_eq_of_length_le (by rw [← e1.len]; exact hb)]
      exact ⟨e1, f1⟩
    | some s =>
      obtain ⟨e2, f2⟩ := e1.setP (s := .un) (v := none) hs rfl True.intro
      exact ⟨e2, Evl.Ex.trans f1 f2⟩
theorem mem_swap {A B : List Addr} {a x : Addr} : x ∈ A ++ ([a] ++ B) ↔ x ∈ (a :: A) ++ B := by
  simp only [List.mem_append, List.mem_cons, List.not_mem_nil, or_false]
  constructor
  · rintro (h | h | h)
    · exact .inl (.inr h)
    · exact .inl (.inl h)
    · exact .inr h
  · rintro ((h | h) | h)
    · exact .inr (.inl h)
    · exact .inl h
    · exact .inr (.inr h)
theorem hid_swap {A B : List Addr} {a : Addr} {H : Hp} : hid (A ++ ([a] ++ B)) H = hid ((a :: A) ++ B) H := hid_congr fun _ => mem_swap
theorem perm_swap {A B : List Addr} {a : Addr} : (A ++ ([a] ++ B)).Perm ((a :: A) ++ B) := by
  rw [← List.append_assoc]
  exact List.Perm.append_right B List.perm_append_comm
/-- a list of one's own, put aside -/
theorem ER.aside {a : Addr} (er : ER G xa F [a] σ H E) : ER G xa (a :: F) [] σ H E := by
  refine ⟨perm_swap.nodup_iff.mp er.nd, fun x hx => er.tr x ?_, er.len, fun i s v h1 h2 => ?_⟩
  · rw [List.append_nil] at hx
    rcases List.mem_cons.mp hx with rfl | h
    · exact List.mem_append_right _ (by simp)
    · exact List.mem_append_left _ h
  · have q := er.sl i s v h1 h2
    rw [hid_swap] at q
    exact q
/-- what is put aside changes -/
theorem ER.updF {a : Addr} {o : HO} (er : ER G xa F [] σ H E) (ha : a ∈ F) : ER G xa F [] σ (upd H a o) E ∧ vis F E σ (upd H a o) = vis F E σ H := by
  have ev : vis F E σ (upd H a o) = vis F E σ H := hid_upd_in (List.mem_append_left _ ha)
  refine ⟨⟨er.nd, fun x hx => ?_, er.len, fun i s v h1 h2 => ?_⟩, ev⟩
  · by_cases e : x = a
    · subst e; rw [upd_same]; simp
    · rw [upd_ne e]; exact er.tr x hx
  · show SR G xa (vis F E σ (upd H a o)) (upd H a o) s v
    rw [ev]
    refine (er.sl i s v h1 h2).up (Evl.Ex.refl _) fun b hb => upd_ne ?_
    rintro rfl
    have n0 : (F ++ own E σ).Nodup := er.nd
    exact (List.nodup_append.mp n0).2.2 b ha b (mem_own h1 h2 hb) rfl
theorem okOwn_at {vs : List Nat} (h : okOwn E vs = true) {j : Nat} (hj : j ∈ vs) : (E[j]? = some .un ∨ ∃ x, E[j]? = some (.d x)) := by
  unfold okOwn at h
  have q := List.all_eq_true.mp h j hj
  split at q
  · exact .inl ‹_›
  · exact .inr ⟨_, ‹_›⟩
  · cases q
def wF : WX := fun _ _ _ _ => False
theorem lc_imp {t : TG} {g : Dt → M Fl} {is vs : List Nat} (hg : TgSem G xa t g is) (hsub : ∀ j ∈ is, j ∈ vs) {mi : M (List Dt)} {mt : M Bool} {me : M Rv} :
    ∀ σ H Q, tE G xa W (eLc vs g mt me mi) σ H Q → tLc (tI G xa W mi) t (tT G xa wF mt) (tE G xa wF me) vs σ H Q := by
  rintro σ H Q ⟨F, E, er, h⟩
  refine ⟨F, E, er, ?_⟩
  unfold eLc bnd at h
  cases hm : mi E with
  | no => rw [hm] at h; exact h
  | ex c x E' => rw [hm] at h; exact h
  | ok xs E1 =>
    rw [hm] at h
    simp only [Rs.go] at h
    intro J H1 er1 st1 ok D hD
    by_cases ho : okOwn E1 vs = true
    rotate_left
    · rw [if_neg ho] at h; exact h.elim
    rw [if_pos ho] at h
    cases hl : lcM vs g mt me xs [] E1 with
    | no => rw [hl] at h; exact h.elim
    | ex c x E' => rw [hl] at h; exact h.elim
    | ok ys Ef =>
    rw [hl] at h
    simp only at h
    -- the loop's word
    let Lq : Nat → Hp → Prop := fun i H2 => ∃ E2 acc accV, ER G xa (D :: F) [] (wipe σ vs) H2 (wipeE E2 vs) ∧ Ex (vis F E1 σ H1) (vis (D :: F) (wipeE E2 vs) (wipe σ vs) H2) ∧ (∀ a ∈ F, H2 a = H1 a) ∧
      (∀ (j : Nat) (f : Bool) (zs : List Dt), E1[j]? = some (.r f zs) → ∃ f' zs', E2[j]? = some (.r f' zs')) ∧ H2 D = some (.lst accV) ∧ DvAll G.K (vis (D :: F) (wipeE E2 vs) (wipe σ vs) H2) accV acc ∧ lcM vs g mt me (xs.drop i) acc E2 = .ok ys Ef
    have hDS : ∀ a ∈ F ++ own E1 σ, a ≠ D := fun a ha z => by
      subst z
      exact er1.trAll ha hD
    have start : Lq 0 (upd H1 D (.lst [])) := by
      have nw := Nw.newO (o := .lst []) (trOf er1) hD
      have e2 := (er1.new nw).aside
      obtain ⟨e3, f3⟩ := e2.wipe vs
      refine ⟨E1, [], [], e3, ?_, fun a ha => upd_ne (hDS a (List.mem_append_left _ ha)), fun j f zs hj => ⟨f, zs, hj⟩, upd_same, .nil, hl⟩
      refine Evl.Ex.trans ?_ f3
      show Ex (hid (F ++ own E1 σ) H1) (hid ((D :: F) ++ own E1 σ) (upd H1 D (.lst [])))
      show Ex (hid (F ++ own E1 σ) H1) (hid (D :: (F ++ own E1 σ)) (upd H1 D (.lst [])))
      rw [hid_upd_cons hD]
      exact Evl.Ex.refl _
    refine ⟨fun i m H2 => m + i = xs.length ∧ Lq i H2, ⟨xs.length, by omega, start⟩, ?_⟩
    rintro i m H2 ⟨hmi, E2, acc, accV, er2, fr2, kp2, fx2, hDv, dA, eq⟩
    by_cases hi : i < xs.length
    · -- a turn
      have hx : xs[i]? = some xs[i] := List.getElem?_eq_getElem hi
      obtain ⟨go, yld⟩ := ok.go i (D :: F) (wipeE E2 vs) (wipe σ vs) H2 _ (trOf er2) fr2 hx
      rw [drop_get hx] at eq
      simp only [lcM] at eq
      refine .inr ⟨go, fun H3 => Lq (i + 1) H3, fun H3 hh => ⟨m - 1, by omega, by omega, hh⟩, fun v H3 hy => ?_⟩
      obtain ⟨nw, d⟩ := yld v H3 hy
      have er3 := er2.new nw
      have st3 : Stp (D :: F) (wipeE E2 vs) (wipe σ vs) H2 [] (wipeE E2 vs) (wipe σ vs) H3 := nw.stp
      cases hq : g xs[i] (wipeE E2 vs) with
      | no => rw [hq] at eq; cases eq
      | ex c x E' => rw [hq] at eq; cases eq
      | ok f E3 =>
        rw [hq] at eq
        cases f with
        | bk => cases eq
        | ct => cases eq
        | rt r => cases eq
        | nx =>
          simp only at eq
          refine hg (D :: F) (wipeE E2 vs) (wipeE E2 vs) (wipe σ vs) (wipe σ vs) H3 H2 v xs[i] _ er3 st3 d ⟨E3, hq, fun σ4 H4 er4 st4 hj _ => ?_⟩
          have hw4 : L2.wipe σ4 vs = L2.wipe σ vs := wipe_eq (by rw [st4.ln, wipe_length]) fun j hjv => by
            rw [hj j (fun z => hjv (hsub j z)), wipe_out hjv]
          -- what a turn's end gives
          have again : ∀ {E5 : En} {H5 : Hp} {acc' : List Dt} {accV' : List V}, ER G xa (D :: F) [] σ4 H5 E5 → Ex (vis (D :: F) (wipeE E2 vs) (wipe σ vs) H2) (vis (D :: F) E5 σ4 H5) → (∀ a ∈ F, H5 a = H2 a) → Fx (wipeE E2 vs) (wipe σ vs) E5 σ4 → H5 D = some (.lst accV') → DvAll G.K (vis (D :: F) E5 σ4 H5) accV' acc' →
              lcM vs g mt me (xs.drop (i + 1)) acc' E5 = .ok ys Ef → Lq (i + 1) H5 := by
            intro E5 H5 acc' accV' er5 fr5 kp5 fx5 hD5 dA5 eq5
            obtain ⟨er6, fr6⟩ := er5.wipe vs
            rw [hw4] at er6 fr6
            refine ⟨E5, acc', accV', er6, Evl.Ex.trans fr2 (Evl.Ex.trans fr5 fr6), fun a ha => (kp5 a ha).trans (kp2 a ha), fun j f zs hjr => ?_, hD5, dA5.up fr6, eq5⟩
            obtain ⟨f1, z1, h1⟩ := fx2 j f zs hjr
            have hjv : j ∉ vs := fun z => by
              rcases okOwn_at ho z with q | ⟨x, q⟩ <;> (rw [hjr] at q; cases q)
            obtain ⟨h2, _⟩ := fx5 j f1 z1 (by rw [wipeE_out hjv]; exact h1)
            exact h2
          refine ⟨hw4, tT.go er4 ?_⟩
          unfold bnd at eq
          cases ht : mt E3 with
          | no => rw [ht] at eq; cases eq
          | ex c x E' => rw [ht] at eq; cases eq
          | ok b E4 =>
            rw [ht] at eq
            simp only [Rs.go] at eq
            intro H5 er5 st5
            have st45 := st4.trans st5
            cases b with
            | false =>
              rw [if_neg Bool.false_ne_true] at eq ⊢
              exact again er5 st45.fr (fun a ha => st45.kp a (List.mem_cons_of_mem _ ha)) st45.fx ((st45.kp D List.mem_cons_self).trans hDv) (dA.up st45.fr) eq
            | true =>
              rw [if_pos rfl] at eq ⊢
              refine tE.go er5 ?_
              cases hme : me E4 with
              | no => rw [hme] at eq; cases eq
              | ex c x E' => rw [hme] at eq; cases eq
              | ok r E5 =>
                rw [hme] at eq
                simp only at eq
                intro y H6 er6 st6 vr6
                cases hk : keep (fz r) E5 with
                | no => rw [hk] at eq; cases eq
                | ex c x E' => exact absurd hk keep_ex
                | ok z E6 =>
                  rw [hk] at eq
                  simp only at eq
                  obtain ⟨er7, st7, dz⟩ := keepV er6 vr6 hk
                  have stA := (st45.trans st6).trans st7
                  have hD6 : H6 D = some (.lst accV) := (stA.kp D List.mem_cons_self).trans hDv
                  have dA6 := dA.up stA.fr
                  by_cases hz : okLen acc = true
                  · rw [if_pos hz] at eq
                    refine ⟨accV, hD6, ?_, ?_⟩
                    · rw [dpa_len dA]
                      exact Nat.lt_of_le_of_lt (of_decide_eq_true hz) (by decide)
                    · obtain ⟨er8, ev8⟩ := er7.updF (a := D) (o := .lst (accV ++ [y])) List.mem_cons_self
                      have aD : ∀ a ∈ F, a ≠ D := fun a ha => hDS a (List.mem_append_left _ ha)
                      refine again er8 (by rw [ev8]; exact stA.fr) (fun a ha => by rw [upd_ne (aD a ha)]; exact stA.kp a (List.mem_cons_of_mem _ ha)) stA.fx upd_same (by rw [ev8]; exact dpa_app dA6 (dpa_one dz)) eq
                  · rw [if_neg hz] at eq; cases eq
    · -- the end
      rw [List.drop_of_length_le (by omega)] at eq
      have eq : Rs.ok acc E2 = Rs.ok ys Ef := eq
      have ea : acc = ys := by cases eq; rfl
      have eE : E2 = Ef := by cases eq; rfl
      subst ea
      subst eE
      refine .inl ⟨ok.stop i (D :: F) (wipeE E2 vs) (wipe σ vs) H2 fr2 (by omega), ?_⟩
      have hlE : E1.length = E2.length := by
        have := er2.len
        rw [wipeE_len, wipe_length] at this
        rw [er1.len, this]
      have slotB : ∀ {j : Nat} {s : Sl}, (backE E1 E2 vs)[j]? = some s → (j ∈ vs ∧ E1[j]? = some s) ∨ (j ∉ vs ∧ (wipeE E2 vs)[j]? = some s) := fun {j s} hj => by
        by_cases hv : j ∈ vs
        · rw [backE_in hlE hv] at hj
          exact .inl ⟨hv, hj⟩
        · rw [backE_out hv] at hj
          exact .inr ⟨hv, by rw [wipeE_out hv]; exact hj⟩
      have ownB : own (backE E1 E2 vs) σ = own (wipeE E2 vs) (wipe σ vs) := by
        refine own_ext (by rw [backE_len, ← hlE]; exact er1.len) er2.len (by rw [backE_len, wipeE_len]) fun j s s' v v' e1 e2 e3 e4 => ?_
        rcases slotB e1 with ⟨hv, q⟩ | ⟨hv, q⟩
        · have hb : j < σ.length := (List.getElem?_eq_some_iff.mp e2).1
          rw [wipeE_in hv (by rw [← hlE, er1.len]; exact hb)] at e3
          cases e3
          rcases okOwn_at ho hv with w | ⟨x, w⟩
          · rw [w] at q; cases q; rfl
          · rw [w] at q; cases q; rfl
        · rw [wipe_out hv] at e4
          rw [e2] at e4
          cases e4
          rw [q] at e3
          cases e3
          rfl
      have hidB : hid (F ++ ([D] ++ own (backE E1 E2 vs) σ)) H2 = vis (D :: F) (wipeE E2 vs) (wipe σ vs) H2 := by
        rw [ownB, hid_swap]
      have erB : ER G xa F [D] σ H2 (backE E1 E2 vs) := by
        refine ⟨?_, fun a ha => ?_, by rw [backE_len, ← hlE]; exact er1.len, fun j s v e1 e2 => ?_⟩
        · rw [ownB]
          exact perm_swap.nodup_iff.mpr er2.nd
        · refine er2.tr a ?_
          rw [List.append_nil]
          rcases List.mem_append.mp ha with q | q
          · exact List.mem_cons_of_mem _ q
          · simp at q; subst q; exact List.mem_cons_self
        · rw [hidB]
          rcases slotB e1 with ⟨hv, q⟩ | ⟨hv, q⟩
          · refine (er1.sl j s v q e2).up fr2 fun a ha => ?_
            rcases okOwn_at ho hv with w | ⟨x, w⟩
            · rw [w] at q; cases q; simp [ownA] at ha
            · rw [w] at q; cases q; simp [ownA] at ha
          · exact er2.sl j s v q (by rw [wipe_out hv]; exact e2)
      have stB : Stp F E1 σ H1 [D] (backE E1 E2 vs) σ H2 := by
        refine ⟨by rw [hidB]; exact fr2, kp2, fun j f zs hj => ⟨?_, rfl⟩, rfl⟩
        have hjv : j ∉ vs := fun z => by
          rcases okOwn_at ho z with q | ⟨x, q⟩ <;> (rw [hj] at q; cases q)
        rw [backE_out hjv]
        exact fx2 j f zs hj
      exact h [D] (.ref D) H2 erB (st1.trans stB) ⟨D, accV, rfl, rfl, hDv, by rw [hidB]; exact dA⟩
end
end Vs
/-! # VsH -/
set_option Elab.async false
set_option linter.all false
set_option maxRecDepth 100000
set_option maxHeartbeats 4000000
/-! Vs, part H: comprehensions as rules; defs and their calls. -/
namespace Vs
open PySem L2 PySem.Spec PyProof.Rows
open Evl (Ex)

section
variable {G : Gi} {xa : Xa} {W : WX} {X : Cx}
theorem ct_nil : PTs X [] (tT G xa W (ret true)) := ⟨fun pins s σ H Q I h => by
  obtain ⟨F, E, er, h⟩ := h
  exact pts_nil.run pins s σ H Q I (h H er (Stp.refl _ _ _ _))⟩
theorem ct_one {c : Expr} {m : M Bool} (h : PT X c (tT G xa W m)) : PTs X [c] (tT G xa W m) := pts_one h
theorem ce_lc {elt tg iter : Expr} {ifs : List Expr} {scope : Scope} (own : List (Str × Nat)) {pos : Pos} {t : TG} {g : Dt → M Fl} {is : List Nat} {mi : M (List Dt)} {mt : M Bool} {me : M Rv} (hc : X.calm = true) (hN : X.N.Nodup) (hi : PI X tg iter (tI G xa W mi))
    (ok : BlkOk X.N X.env.scope scope own) (hg : ∀ (s : Shared) (H : Hp) (C : Addr) (cl : List (Str × Addr)) (fp : List Addr), PG (X.blk s H scope (compEnvC scope cl C X.env) fp) tg t) (hs : TgSem G xa t g is)
    (ht : ∀ (s : Shared) (H : Hp) (C : Addr) (cl : List (Str × Addr)) (fp : List Addr), PTs (X.blk s H scope (compEnvC scope cl C X.env) fp) ifs (tT G xa wF mt))
    (he : ∀ (s : Shared) (H : Hp) (C : Addr) (cl : List (Str × Addr)) (fp : List Addr), PE (X.blk s H scope (compEnvC scope cl C X.env) fp) elt (tE G xa wF me))
    (hsub : ∀ j ∈ is, j ∈ own.map (·.2) := by decide) (hf : ∀ x, foldedSetIterable iter X.env x = pure x := by intro _; rfl) : PE X (.ListComp elt [⟨tg, iter, ifs, 0⟩] scope pos) (tE G xa W (eLc (own.map (·.2)) g mt me mi)) :=
  imE (pe_lc hc hN hi ok hg ht he hf) (lc_imp hs hsub)
theorem cs_setLc {i : Nat} {y : Str} {py : Pos} {elt tg iter : Expr} {ifs : List Expr} {scope : Scope} (own : List (Str × Nat)) {pos spos : Pos} {t : TG} {g : Dt → M Fl} {is : List Nat} {mi : M (List Dt)} {mt : M Bool} {me : M Rv} (hc : X.calm = true) (hN : X.N.Nodup)
    (hy : X.N[i]? = some y) (hyl : X.env.scope.names.lookup y = some .local) (hsw : swapsWith (.ListComp elt [⟨tg, iter, ifs, 0⟩] scope pos) (some (.Name y py)) spos.line X.env = pure true) (hi : PI X tg iter (tI G xa W mi))
    (ok : BlkOk X.N X.env.scope scope own) (hg : ∀ (s : Shared) (H : Hp) (C : Addr) (cl : List (Str × Addr)) (fp : List Addr), PG (X.blk s H scope (compEnvC scope cl C X.env) fp) tg t) (hs : TgSem G xa t g is)
    (ht : ∀ (s : Shared) (H : Hp) (C : Addr) (cl : List (Str × Addr)) (fp : List Addr), PTs (X.blk s H scope (compEnvC scope cl C X.env) fp) ifs (tT G xa wF mt))
    (he : ∀ (s : Shared) (H : Hp) (C : Addr) (cl : List (Str × Addr)) (fp : List Addr), PE (X.blk s H scope (compEnvC scope cl C X.env) fp) elt (tE G xa wF me))
    (hsub : ∀ j ∈ is, j ∈ own.map (·.2) := by decide) (hf : ∀ x, foldedSetIterable iter X.env x = pure x := by intro _; rfl) : PS X (.Assign [.Name y py] (.ListComp elt [⟨tg, iter, ifs, 0⟩] scope pos) spos) (tS G xa W (sSet i (eLc (own.map (·.2)) g mt me mi))) :=
  imS (ps_setLc hc hN hy hyl hsw hi ok hg ht he hf) fun D σ H h => lc_imp hs hsub σ H _ (set_imp D σ H h)
end

/-! ### a def keeps its promise where nothing is being shown (repr's own guards are down) -/
structure FnG (P : Program) (w : World) (K : PySem.W.Frag) (mg : Str → Option Value) (base : Heap) (k : Nat) (f : Addr) (fd : FuncData) (ps : List Str) (sp : Sp) : Prop where
  len : ∀ vs H Q E, sp vs H Q E → vs.length = ps.length
  run : ∀ (A : Around) (outer : List Env) (s : Shared) (H : Hp) (args : Args) (us : List Value) (vs : List V) (Q : VK) (E : XK), A.guards = some [] → Room k A → Env0 P w K mg base A outer s H → BindsTo s fd args (ps.zip us) → Vals vs us → sp vs H Q E →
    codeAny (model P w) A (.call (.ref f) args) (CR (L2.CX P w) outer P w H s Q E) s
theorem run_g {X : Cx} {W : WX} {k : Nat} {f : Addr} {fd : FuncData} {ps : List Str} {sp : Sp} {pins : List (Addr × Obj)} {σ : L2.St} {H : Hp} {s : Shared} {Q : VK} {us : List Value} {vs : List V} (F : FnG X.prog X.w X.K X.mg X.base k f fd ps sp) (hg : X.A.guards = some []) (hr : Room k X.A)
    (hb : Binds X.K fd ps []) (tk : Takes X W) (I : Inv X pins σ H s) (r : Vals vs us) (h : sp vs H Q fun c d H' => W c d σ H') : wpAny (model X.prog X.w) X.A (call (.ref f) us) (EP X pins σ Q) X.xe s := by
  have hl : us.length = ps.length := by
    have e := F.len _ _ _ _ h
    rw [r.length] at e
    exact e
  have b := hb s us I.kIn (by rw [List.append_nil]; exact hl)
  rw [List.append_nil] at b
  refine wpAny_call (codeAny_mono (F.run X.A X.stack s H ⟨us, []⟩ us vs Q (fun c d H' => W c d σ H') hg hr I.env0 b r h) fun r s' hq => ?_)
  cases r with
  | error e => exact passAt tk σ pins H s e s' I hq
  | ok fl =>
    cases fl with
    | ret u => exact I.after hq
    | next => exact False.elim hq
    | brk => exact False.elim hq
    | cont => exact False.elim hq
theorem pe_callG {X : Cx} {W : WX} {k : Nat} {f : Addr} {fd : FuncData} {ps : List Str} {sp : Sp} {x : Str} {p pos : Pos} {e : Expr} {es : List Expr} {t : TA} (F : FnG X.prog X.w X.K X.mg X.base k f fd ps sp) (hgu : X.A.guards = some []) (hr : Room k X.A) (hg : Gl X x) (hm : X.mg x = some (.ref f))
    (hk : PySem.W.keepIn X.K (.ref f) = true) (hb : Binds X.K fd ps []) (tk : Takes X W) (ha : PA X (e :: es) t) (hdb : (x == ("__debug__" : Str)) = false := by decide)
    (he : starEach (e :: es) X.env = (false, eval e X.env) :: starEach es X.env := by rfl) (hpl : (backTo pos (starEach es X.env)).any (·.1) = false := by rfl) :
    PE X (.Call (.Name x p) (e :: es) [] pos) (fun σ H Q => t σ H fun vs H1 => sp vs H1 Q fun c d H' => W c d σ H') := by
  refine ⟨fun pins s σ H Q I h => ?_⟩
  refine wpAny_Call_Name_kw (ld_glob I hg hm ?_ hdb)
  refine PySem.W.callWith_K (h₀ := X.base) I.ok.mod.kin hk (thn (ha.run pos pins s σ H _ I h) fun us s1 hh => ?_) he hpl
  obtain ⟨vs, H1, I1, r, q⟩ := hh
  exact ⟨I1.kIn, run_g F hgu hr hb tk I1 r q⟩

/-! ### what a def is worth -/
/-- of the parameters' slots: what it gives, the parameters' slots behind it -/
abbrev Fn := M Rv
def spF (G : Gi) (n : Nat) (m : Fn) : Sp := fun vs H Q E => vs.length = n ∧ tE G none (fun c d _ H' => E c d H') m (vs.map some) H Q

/-! ### how arguments are handed on -/
abbrev Arg := Option Nat × Dt
def prep : List Bool → List Rv → M (List Arg)
  | [], [] => ret []
  | true :: fl, r :: rs => match r with
    | .v i => bnd (prep fl rs) fun l => ret ((some i, .none) :: l)
    | _ => fail
  | false :: fl, r :: rs => bnd (keep r) fun x => bnd (prep fl rs) fun l => ret ((none, x) :: l)
  | _, _ => fail
def slotOf (E : En) (a : Arg) : Option Sl := match a.1 with
  | none => some (.d a.2)
  | some i => match E[i]? with
    | some (.l xs) => some (.r false xs)
    | some (.r f xs) => some (.r f xs)
    | some (.s ns) => some (.s ns)
    | _ => none
def slotsOf (E : En) : List Arg → Option En
  | [] => some []
  | a :: l => match slotOf E a, slotsOf E l with
    | some s, some r => some (s :: r)
    | _, _ => none
def unref (s0 s : Sl) : Option Sl := match s0, s with
  | .l _, .r false xs => some (.l xs)
  | .l _, .r true xs => some (.d (.list xs))
  | .r _ _, .r f xs => some (.r f xs)
  | .s ns, .un => some (.s ns)
  | _, _ => none
def backs : List Arg → En → En → Option En
  | [], [], E => some E
  | (none, _) :: l, .un :: P, E => backs l P E
  | (some i, _) :: l, s :: P, E => match (E[i]?).bind fun s0 => unref s0 s with
    | some s1 => backs l P (E.set i s1)
    | none => none
  | _, _, _ => none
def refsOf (l : List Arg) : List Nat := l.filterMap (·.1)
def goBack (l : List Arg) (E2 : En) (r : Rs Rv) : Rs Rv := match r with
  | .ok (.v _) _ => .no
  | .ok r P => match backs l P E2 with
    | some E3 => .ok r E3
    | none => .no
  | .ex c x P => match backs l P E2 with
    | some E3 => .ex c x E3
    | none => .no
  | .no => .no
def callM (f : Fn) (fl : List Bool) (rs : List Rv) : M Rv := bnd (prep fl rs) fun l => fun E2 => if (refsOf l).Nodup then match slotsOf E2 l with
    | some S => goBack l E2 (f S)
    | none => .no
  else .no
def eCall (f : Fn) (fl : List Bool) (ma : M (List Rv)) : M Rv := bnd ma (callM f fl)

/-- where an argument stands behind the preparation -/
def ArgR (G : Gi) (F : List Addr) (E : En) (σ : L2.St) (H : Hp) (a : Arg) (v : V) : Prop := match a.1 with
  | none => Dv G.K (vis F E σ H) v a.2
  | some i => σ[i]? = some (some v)
section
variable {G : Gi} {F : List Addr} {σ : L2.St} {H : Hp}
theorem prepV : ∀ {fl : List Bool} {rs : List Rv} {vs : List V} {E E' : En} {l : List Arg}, ER G none F [] σ H E → VRs G F σ H E rs vs → prep fl rs E = .ok l E' →
    ER G none F [] σ H E' ∧ Stp F E σ H [] E' σ H ∧ l.length = vs.length ∧ ∀ (p : Nat) (a : Arg) (v : V), l[p]? = some a → vs[p]? = some v → ArgR G F E' σ H a v := by
  intro fl
  induction fl with
  | nil =>
    intro rs vs E E' l er vr e
    cases vr with
    | nil =>
      cases e
      exact ⟨er, Stp.refl _ _ _ _, rfl, fun p a v h => by simp at h⟩
    | cons _ _ => cases e
  | cons b fl ih =>
    intro rs vs E E' l er vr e
    cases vr with
    | nil => cases b <;> cases e
    | @cons r rs v vs h1 h2 =>
      cases b with
      | true =>
        cases hr : fz r with
        | d x => rw [hr] at e; cases e
        | o x => rw [hr] at e; cases e
        | v i =>
          rw [hr] at e h1
          simp only [prep, bnd] at e
          cases hp : prep fl rs E with
          | no => rw [hp] at e; cases e
          | ex c x E1 => rw [hp] at e; cases e
          | ok l1 E1 =>
            rw [hp] at e
            cases e
            obtain ⟨er1, st1, hl, har⟩ := ih er h2 hp
            refine ⟨er1, st1, congrArg (· + 1) hl, fun p a w e1 e2 => ?_⟩
            cases p with
            | zero =>
              simp at e1 e2
              subst e1; subst e2
              exact h1.2
            | succ p => exact har p a w (by simpa using e1) (by simpa using e2)
      | false =>
        simp only [prep, bnd] at e
        cases hk : keep (fz r) E with
        | no => rw [hk] at e; cases e
        | ex c x E1 => exact absurd hk keep_ex
        | ok x E1 =>
          rw [hk] at e
          simp only [Rs.go, bnd] at e
          obtain ⟨er1, st1, d⟩ := keepV er h1 hk
          cases hp : prep fl rs E1 with
          | no => rw [hp] at e; cases e
          | ex c x E1 => rw [hp] at e; cases e
          | ok l1 E2 =>
            rw [hp] at e
            cases e
            obtain ⟨er2, st2, hl, har⟩ := ih er1 (h2.mv st1) hp
            refine ⟨er2, st1.trans st2, congrArg (· + 1) hl, fun p a w e1 e2 => ?_⟩
            cases p with
            | zero =>
              simp at e1 e2
              subst e1; subst e2
              exact Dv.up d st2.fr
            | succ p => exact har p a w (by simpa using e1) (by simpa using e2)
theorem prep_ex : ∀ {fl : List Bool} {rs : List Rv} {E : En} {c : Nat} {x : Dt} {E' : En}, prep fl rs E ≠ .ex c x E' := by
  intro fl
  induction fl with
  | nil => intro rs E c x E' e; cases rs <;> cases e
  | cons b fl ih =>
    intro rs E c x E' e
    cases rs with
    | nil => cases b <;> cases e
    | cons r rs =>
      cases b with
      | true =>
        cases r with
        | v i =>
          simp only [prep, bnd] at e
          cases hp : prep fl rs E with
          | no => rw [hp] at e; cases e
          | ex c x E1 => exact ih hp
          | ok l1 E1 => rw [hp] at e; cases e
        | d x => cases e
        | o x => cases e
      | false =>
        simp only [prep, bnd] at e
        cases hk : keep r E with
        | no => rw [hk] at e; cases e
        | ex c x E1 => exact keep_ex hk
        | ok x E1 =>
          rw [hk] at e
          simp only [Rs.go, bnd] at e
          cases hp : prep fl rs E1 with
          | no => rw [hp] at e; cases e
          | ex c x E1 => exact ih hp
          | ok l1 E1 => rw [hp] at e; cases e
theorem slotsOf_at {E : En} : ∀ {l : List Arg} {S : En}, slotsOf E l = some S → S.length = l.length ∧ ∀ (p : Nat) (a : Arg) (s : Sl), l[p]? = some a → S[p]? = some s → slotOf E a = some s
  | [], S, h => by cases h; exact ⟨rfl, fun p a s h => by simp at h⟩
  | a :: l, S, h => by
    unfold slotsOf at h
    cases h1 : slotOf E a with
    | none => rw [h1] at h; cases h
    | some s =>
      cases h2 : slotsOf E l with
      | none => rw [h1, h2] at h; cases h
      | some r =>
        rw [h1, h2] at h
        cases h
        obtain ⟨e1, e2⟩ := slotsOf_at h2
        refine ⟨congrArg (· + 1) e1, fun p b t g1 g2 => ?_⟩
        cases p with
        | zero =>
          simp at g1 g2
          subst g1; subst g2
          exact h1
        | succ p => exact e2 p b t (by simpa using g1) (by simpa using g2)
theorem mem_refs {l : List Arg} {i : Nat} : i ∈ refsOf l ↔ ∃ (p : Nat) (x : Dt), l[p]? = some (some i, x) := by
  unfold refsOf
  rw [List.mem_filterMap]
  constructor
  · rintro ⟨⟨o, x⟩, h, e⟩
    obtain ⟨p, hp⟩ := List.mem_iff_getElem?.mp h
    have e : o = some i := e
    subst e
    exact ⟨p, x, hp⟩
  · rintro ⟨p, x, h⟩
    exact ⟨(some i, x), List.mem_iff_getElem?.mpr ⟨p, h⟩, rfl⟩
theorem backs_spec : ∀ {l : List Arg} {P E E3 : En}, (refsOf l).Nodup → backs l P E = some E3 → E3.length = E.length ∧ l.length = P.length ∧ (∀ j : Nat, j ∉ refsOf l → E3[j]? = E[j]?) ∧
    (∀ (p i : Nat) (x : Dt) (s : Sl), l[p]? = some (some i, x) → P[p]? = some s → ∃ s0 s1, E[i]? = some s0 ∧ unref s0 s = some s1 ∧ E3[i]? = some s1) ∧
    ∀ (p : Nat) (x : Dt) (s : Sl), l[p]? = some (none, x) → P[p]? = some s → s = .un := by
  intro l
  induction l with
  | nil =>
    intro P E E3 n h
    cases P with
    | nil => cases h; exact ⟨rfl, rfl, fun _ _ => rfl, fun p i x s h => by simp at h, fun p x s h => by simp at h⟩
    | cons _ _ => cases h
  | cons a l ih =>
    intro P E E3 n h
    obtain ⟨o, x⟩ := a
    cases P with
    | nil => cases o <;> cases h
    | cons s P =>
      cases o with
      | none =>
        cases s with
        | un =>
          obtain ⟨h1, h2, h3, h4, h5⟩ := ih n h
          refine ⟨h1, congrArg (· + 1) h2, h3, fun p i y t g1 g2 => ?_, fun p y t g1 g2 => ?_⟩
          · cases p with
            | zero => simp at g1
            | succ p => exact h4 p i y t (by simpa using g1) (by simpa using g2)
          · cases p with
            | zero =>
              simp at g2
              exact g2.symm
            | succ p => exact h5 p y t (by simpa using g1) (by simpa using g2)
        | _ => cases h
      | some i =>
        have n : (i :: refsOf l).Nodup := n
        obtain ⟨n1, n2⟩ := List.nodup_cons.mp n
        simp only [backs] at h
        cases hb : (E[i]?).bind fun s0 => unref s0 s with
        | none => rw [hb] at h; cases h
        | some s1 =>
          rw [hb] at h
          obtain ⟨h1, h2, h3, h4, h5⟩ := ih n2 h
          cases h0 : E[i]? with
          | none => rw [h0] at hb; cases hb
          | some s0 =>
            rw [h0] at hb
            have hb : unref s0 s = some s1 := hb
            have hi : i < E.length := (List.getElem?_eq_some_iff.mp h0).1
            refine ⟨by rw [h1, List.length_set], congrArg (· + 1) h2, fun j hj => ?_, fun p i' y t g1 g2 => ?_, fun p y t g1 g2 => by
              cases p with
              | zero => simp at g1
              | succ p => exact h5 p y t (by simpa using g1) (by simpa using g2)⟩
            · have hj : j ∉ i :: refsOf l := hj
              rw [h3 j (fun z => hj (List.mem_cons_of_mem _ z)), List.getElem?_set_ne (by rintro rfl; exact hj List.mem_cons_self)]
            · cases p with
              | zero =>
                simp at g1 g2
                obtain ⟨rfl, rfl⟩ := g1
                subst g2
                exact ⟨s0, s1, h0, hb, by rw [h3 i n1, List.getElem?_set_self hi]⟩
              | succ p =>
                have g1' : l[p]? = some (some i', y) := by simpa using g1
                obtain ⟨t0, t1, q1, q2, q3⟩ := h4 p i' y t g1' (by simpa using g2)
                have hne : i ≠ i' := by
                  rintro rfl
                  exact n1 (mem_refs.mpr ⟨p, y, g1'⟩)
                rw [List.getElem?_set_ne hne] at q1
                exact ⟨t0, t1, q1, q2, q3⟩
/-- an address is owned by one slot alone -/
theorem own_inj : ∀ {E : En} {σ : L2.St} {i j : Nat} {s s' : Sl} {v v' : Option V} {a : Addr}, (own E σ).Nodup → E[i]? = some s → σ[i]? = some v → E[j]? = some s' → σ[j]? = some v' → a ∈ ownA s v → a ∈ ownA s' v' → i = j := by
  intro E
  induction E with
  | nil => intro σ i j s s' v v' a _ h; simp at h
  | cons t E ih =>
    intro σ i j s s' v v' a n g1 g2 g3 g4 m1 m2
    cases σ with
    | nil => simp at g2
    | cons u σ =>
      have n : (ownA t u ++ own E σ).Nodup := n
      obtain ⟨_, n2, n3⟩ := List.nodup_append.mp n
      cases i with
      | zero =>
        simp at g1 g2
        subst g1; subst g2
        cases j with
        | zero => rfl
        | succ j => exact absurd rfl (n3 a m1 a (mem_own (by simpa using g3) (by simpa using g4) m2))
      | succ i =>
        cases j with
        | zero =>
          simp at g3 g4
          subst g3; subst g4
          exact absurd rfl (n3 a m2 a (mem_own (by simpa using g1) (by simpa using g2) m1))
        | succ j => exact congrArg (· + 1) (ih n2 (by simpa using g1) (by simpa using g2) (by simpa using g3) (by simpa using g4) m1 m2)
theorem own_sub : ∀ {E E' : En} {σ : L2.St}, E'.length = E.length → (∀ (j : Nat) (s s' : Sl) (v : Option V), E[j]? = some s → E'[j]? = some s' → σ[j]? = some v → ownA s' v = [] ∨ ownA s' v = ownA s v) → (own E' σ).Sublist (own E σ)
  | [], [], σ, _, _ => by cases σ <;> exact List.Sublist.refl _
  | [], _ :: _, _, h, _ => by simp at h
  | _ :: _, [], _, h, _ => by simp at h
  | s :: E, s' :: E', [], _, _ => List.Sublist.refl _
  | s :: E, s' :: E', v :: σ, h, k => by
    show (ownA s' v ++ own E' σ).Sublist (ownA s v ++ own E σ)
    have ih := own_sub (E := E) (E' := E') (σ := σ) (by simpa using h) fun j a b c e1 e2 e3 => k (j + 1) a b c (by simpa using e1) (by simpa using e2) (by simpa using e3)
    rcases k 0 s s' v rfl rfl rfl with q | q
    · rw [q]
      exact ih.trans (List.sublist_append_right _ _)
    · rw [q]
      exact List.Sublist.append (List.Sublist.refl _) ih
theorem own_one {E : En} {σ : L2.St} (h : ∀ (i j : Nat) (s s' : Sl) (v v' : Option V) (a : Addr), E[i]? = some s → σ[i]? = some v → E[j]? = some s' → σ[j]? = some v' → a ∈ ownA s v → a ∈ ownA s' v' → i = j) : (own E σ).Nodup := by
  induction E generalizing σ with
  | nil => cases σ <;> exact List.nodup_nil
  | cons t E ih =>
    cases σ with
    | nil => exact List.nodup_nil
    | cons u σ =>
      show (ownA t u ++ own E σ).Nodup
      rw [List.nodup_append]
      refine ⟨?_, ih fun i j s s' v v' a g1 g2 g3 g4 m1 m2 => ?_, fun a ha b hb z => ?_⟩
      · unfold ownA
        split <;> simp
      · have := h (i + 1) (j + 1) s s' v v' a (by simpa using g1) (by simpa using g2) (by simpa using g3) (by simpa using g4) m1 m2
        omega
      · subst z
        obtain ⟨j, s', v', g3, g4, m2⟩ := own_mem hb
        have := h 0 (j + 1) t s' u v' a rfl rfl (by simpa using g3) (by simpa using g4) ha m2
        omega
end
end Vs
/-! # VsI -/
set_option Elab.async false
set_option linter.all false
set_option maxRecDepth 100000
set_option maxHeartbeats 4000000
/-! Vs, part I: a call's soundness. -/
namespace Vs
open PySem L2 PySem.Spec PyProof.Rows
open Evl (Ex)
section
variable {G : Gi} {F : List Addr} {σ : L2.St} {H : Hp}
theorem refs_inj : ∀ {l : List Arg} {p q i : Nat} {x y : Dt}, (refsOf l).Nodup → l[p]? = some (some i, x) → l[q]? = some (some i, y) → p = q := by
  intro l
  induction l with
  | nil => intro p q i x y _ h; simp at h
  | cons a l ih =>
    intro p q i x y n g1 g2
    obtain ⟨o, z⟩ := a
    have key : ∀ {k : Nat} {w : Dt}, o = some i → l[k]? = some (some i, w) → False := by
      intro k w ho hk
      subst ho
      have n : (i :: refsOf l).Nodup := n
      exact (List.nodup_cons.mp n).1 (mem_refs.mpr ⟨k, w, hk⟩)
    have nt : (refsOf l).Nodup := by
      cases o with
      | none => exact n
      | some j =>
        have n : (j :: refsOf l).Nodup := n
        exact (List.nodup_cons.mp n).2
    cases p with
    | zero =>
      simp at g1
      cases q with
      | zero => rfl
      | succ q => exact (key g1.1 (by simpa using g2)).elim
    | succ p =>
      cases q with
      | zero =>
        simp at g2
        exact (key g2.1 (by simpa using g1)).elim
      | succ q => exact congrArg (· + 1) (ih nt (by simpa using g1) (by simpa using g2))
theorem prep_len : ∀ {fl : List Bool} {rs : List Rv} {E E' : En} {l : List Arg}, prep fl rs E = .ok l E' → l.length = fl.length := by
  intro fl
  induction fl with
  | nil => intro rs E E' l e; cases rs <;> cases e; rfl
  | cons b fl ih =>
    intro rs E E' l e
    cases rs with
    | nil => cases b <;> cases e
    | cons r rs =>
      cases b with
      | true =>
        cases r with
        | v i =>
          simp only [prep, bnd] at e
          cases hp : prep fl rs E with
          | no => rw [hp] at e; cases e
          | ex c x E1 => rw [hp] at e; cases e
          | ok l1 E1 => rw [hp] at e; cases e; exact congrArg (· + 1) (ih hp)
        | d x => cases e
        | o x => cases e
      | false =>
        simp only [prep, bnd] at e
        cases hk : keep r E with
        | no => rw [hk] at e; cases e
        | ex c x E1 => rw [hk] at e; cases e
        | ok x E1 =>
          rw [hk] at e
          simp only [Rs.go, bnd] at e
          cases hp : prep fl rs E1 with
          | no => rw [hp] at e; cases e
          | ex c x E1 => rw [hp] at e; cases e
          | ok l1 E1 => rw [hp] at e; cases e; exact congrArg (· + 1) (ih hp)
def cutF (F : List Addr) (E : En) (σ : L2.St) (S : En) (vs : List V) : List Addr := (F ++ own E σ).filter fun a => decide (a ∉ own S (vs.map some))
theorem mem_cut {E S : En} {vs : List V} {a : Addr} : a ∈ cutF F E σ S vs ↔ (a ∈ F ++ own E σ) ∧ a ∉ own S (vs.map some) := by
  unfold cutF
  rw [List.mem_filter]
  simp

section
variable {E2 S : En} {l : List Arg} {vs : List V}
/-- what the callee owns the caller's lent names own -/
theorem lent (har : ∀ (p : Nat) (a : Arg) (v : V), l[p]? = some a → vs[p]? = some v → ArgR G F E2 σ H a v) (hl : l.length = vs.length) (hS : slotsOf E2 l = some S) {a : Addr} {p : Nat} {s : Sl} {w : Option V} (h1 : S[p]? = some s) (h2 : (vs.map some)[p]? = some w) (ha : a ∈ ownA s w) :
    ∃ i x s0 v, l[p]? = some (some i, x) ∧ E2[i]? = some s0 ∧ vs[p]? = some v ∧ σ[i]? = some (some v) ∧ a ∈ ownA s0 (some v) ∧ v = .ref a := by
  obtain ⟨hSl, hat⟩ := slotsOf_at hS
  have hp : p < l.length := by rw [← hSl]; exact (List.getElem?_eq_some_iff.mp h1).1
  obtain ⟨b, hb⟩ : ∃ b, l[p]? = some b := ⟨_, List.getElem?_eq_getElem hp⟩
  obtain ⟨v, hv⟩ : ∃ v, vs[p]? = some v := ⟨_, List.getElem?_eq_getElem (by rw [← hl]; exact hp)⟩
  rw [List.getElem?_map, hv] at h2
  cases h2
  have sl := hat p b s hb h1
  have ar := har p b v hb hv
  obtain ⟨o, x⟩ := b
  cases o with
  | none =>
    cases sl
    cases v <;> simp [ownA] at ha
  | some i =>
    have ar : σ[i]? = some (some v) := ar
    unfold slotOf at sl
    simp only at sl
    cases hE : E2[i]? with
    | none => rw [hE] at sl; cases sl
    | some s0 =>
      rw [hE] at sl
      refine ⟨i, x, s0, v, hb, hE, hv, ar, ?_⟩
      cases s0 with
      | l xs => cases sl; cases v <;> simp [ownA] at ha ⊢; exact ⟨ha, by rw [ha]⟩
      | r f xs =>
        cases sl
        cases f <;> cases v <;> simp [ownA] at ha ⊢; exact ⟨ha, by rw [ha]⟩
      | s ns => cases sl; cases v <;> simp [ownA] at ha
      | un => cases sl
      | d y => cases sl
      | e c y => cases sl
theorem lend (har : ∀ (p : Nat) (a : Arg) (v : V), l[p]? = some a → vs[p]? = some v → ArgR G F E2 σ H a v) (hl : l.length = vs.length) (hS : slotsOf E2 l = some S) {a : Addr} {p i : Nat} {x : Dt} {s0 : Sl} {w : Option V} (hp : l[p]? = some (some i, x)) (h1 : E2[i]? = some s0) (h2 : σ[i]? = some w) (ha : a ∈ ownA s0 w) :
    a ∈ own S (vs.map some) := by
  obtain ⟨hSl, hat⟩ := slotsOf_at hS
  have hpl := (List.getElem?_eq_some_iff.mp hp).1
  obtain ⟨v, hv⟩ : ∃ v, vs[p]? = some v := ⟨_, List.getElem?_eq_getElem (by rw [← hl]; exact hpl)⟩
  obtain ⟨s, hs⟩ : ∃ s, S[p]? = some s := ⟨_, List.getElem?_eq_getElem (by rw [hSl]; exact hpl)⟩
  have ar : σ[i]? = some (some v) := har p _ v hp hv
  rw [ar] at h2
  cases h2
  have sl := hat p _ s hp hs
  unfold slotOf at sl
  simp only [h1] at sl
  refine mem_own hs (v := some v) (by rw [List.getElem?_map, hv]; rfl) ?_
  cases s0 with
  | l xs => cases sl; cases v <;> exact ha
  | r f xs => cases sl; exact ha
  | s ns => cases sl; exact ha
  | un => cases sl
  | d y => cases sl
  | e c y => cases sl
theorem callER (er : ER G none F [] σ H E2) (har : ∀ (p : Nat) (a : Arg) (v : V), l[p]? = some a → vs[p]? = some v → ArgR G F E2 σ H a v) (hl : l.length = vs.length) (n : (refsOf l).Nodup) (hS : slotsOf E2 l = some S) :
    (∀ a, a ∈ cutF F E2 σ S vs ++ ([] ++ own S (vs.map some)) ↔ a ∈ F ++ own E2 σ) ∧ ER G none (cutF F E2 σ S vs) [] (vs.map some) H S := by
  obtain ⟨hSl, hat⟩ := slotsOf_at hS
  have sub : ∀ a, a ∈ own S (vs.map some) → a ∈ own E2 σ := fun a ha => by
    obtain ⟨p, s, w, h1, h2, h3⟩ := own_mem ha
    obtain ⟨i, x, s0, v, _, g2, _, g4, g5, _⟩ := lent har hl hS h1 h2 h3
    exact mem_own g2 g4 g5
  have seq : ∀ a, a ∈ cutF F E2 σ S vs ++ ([] ++ own S (vs.map some)) ↔ a ∈ F ++ own E2 σ := fun a => by
    rw [List.mem_append, mem_cut]
    constructor
    · rintro (h | h)
      · exact h.1
      · exact List.mem_append_right _ (sub a h)
    · intro h
      by_cases hc : a ∈ own S (vs.map some)
      · exact .inr hc
      · exact .inl ⟨h, hc⟩
  have n0 : (F ++ own E2 σ).Nodup := er.nd
  have no := (List.nodup_append.mp n0).2.1
  refine ⟨seq, ⟨?_, fun a ha => ?_, by rw [List.length_map, hSl, hl], fun p s w h1 h2 => ?_⟩⟩
  · show (cutF F E2 σ S vs ++ own S (vs.map some)).Nodup
    rw [List.nodup_append]
    refine ⟨n0.sublist List.filter_sublist, own_one fun p q s s' v v' a h1 h2 h3 h4 h5 h6 => ?_, fun a ha b hb z => ?_⟩
    · obtain ⟨i, x, s0, w, g1, g2, _, g4, g5, _⟩ := lent har hl hS h1 h2 h5
      obtain ⟨j, y, t0, u, k1, k2, _, k4, k5, _⟩ := lent har hl hS h3 h4 h6
      have := own_inj no g2 g4 k2 k4 g5 k5
      subst this
      exact refs_inj n g1 k1
    · subst z
      exact (mem_cut.mp ha).2 hb
  · rw [List.append_nil] at ha
    exact er.trAll (show a ∈ F ++ ([] ++ own E2 σ) from (mem_cut.mp ha).1)
  · rw [hid_congr seq]
    have hp : p < l.length := by rw [← hSl]; exact (List.getElem?_eq_some_iff.mp h1).1
    obtain ⟨b, hb⟩ : ∃ b, l[p]? = some b := ⟨_, List.getElem?_eq_getElem hp⟩
    obtain ⟨v, hv⟩ : ∃ v, vs[p]? = some v := ⟨_, List.getElem?_eq_getElem (by rw [← hl]; exact hp)⟩
    rw [List.getElem?_map, hv] at h2
    cases h2
    have sl := hat p b s hb h1
    have ar := har p b v hb hv
    obtain ⟨o, x⟩ := b
    cases o with
    | none =>
      cases sl
      exact ar
    | some i =>
      have ar : σ[i]? = some (some v) := ar
      unfold slotOf at sl
      simp only at sl
      cases hE : E2[i]? with
      | none => rw [hE] at sl; cases sl
      | some s0 =>
        rw [hE] at sl
        have sr : SR G none (hid (F ++ own E2 σ) H) H s0 (some v) := er.sl i s0 _ hE ar
        cases s0 with
        | l xs =>
          cases sl
          cases v <;> exact sr
        | r f xs => cases sl; exact sr
        | s ns => cases sl; exact sr
        | un => cases sl
        | d y => cases sl
        | e c y => cases sl
theorem backER {ex : List Addr} {P E3 : En} {σ' : L2.St} {H' : Hp} (er : ER G none F [] σ H E2) (har : ∀ (p : Nat) (a : Arg) (v : V), l[p]? = some a → vs[p]? = some v → ArgR G F E2 σ H a v) (hl : l.length = vs.length) (n : (refsOf l).Nodup) (hS : slotsOf E2 l = some S)
    (er' : ER G none (cutF F E2 σ S vs) ex σ' H' P) (st : Stp (cutF F E2 σ S vs) S (vs.map some) H ex P σ' H') (hb : backs l P E2 = some E3) :
    ER G none F ex σ H' E3 ∧ Stp F E2 σ H ex E3 σ H' ∧ hid (cutF F E2 σ S vs ++ (ex ++ own P σ')) H' = hid (F ++ (ex ++ own E3 σ)) H' := by
  obtain ⟨seq, erS⟩ := callER er har hl n hS
  obtain ⟨hSl, hat⟩ := slotsOf_at hS
  obtain ⟨b1, b2, b3, b4, b5⟩ := backs_spec n hb
  have n0 : (F ++ own E2 σ).Nodup := er.nd
  have no := (List.nodup_append.mp n0).2.1
  have nS : (cutF F E2 σ S vs ++ own S (vs.map some)).Nodup := erS.nd
  have nP := er'.nd
  have noP := (List.nodup_append.mp (List.nodup_append.mp nP).2.1).2.1
  -- position p: the callee's slot behind the run
  have atP : ∀ {p i : Nat} {x : Dt}, l[p]? = some (some i, x) → ∃ v s0 s s1, vs[p]? = some v ∧ σ[i]? = some (some v) ∧ E2[i]? = some s0 ∧ P[p]? = some s ∧ unref s0 s = some s1 ∧ E3[i]? = some s1 := fun {p i x} hp => by
    have hpl := (List.getElem?_eq_some_iff.mp hp).1
    obtain ⟨v, hv⟩ : ∃ v, vs[p]? = some v := ⟨_, List.getElem?_eq_getElem (by rw [← hl]; exact hpl)⟩
    obtain ⟨s, hs⟩ : ∃ s, P[p]? = some s := ⟨_, List.getElem?_eq_getElem (by rw [← b2]; exact hpl)⟩
    obtain ⟨s0, s1, g1, g2, g3⟩ := b4 p i x s hp hs
    exact ⟨v, s0, s, s1, hv, har p _ v hp hv, g1, hs, g2, g3⟩
  have lentR : ∀ {p i : Nat} {x : Dt} {s0 : Sl}, l[p]? = some (some i, x) → E2[i]? = some s0 → (∃ xs, s0 = .l xs) ∨ (∃ f xs, s0 = .r f xs) → σ'[p]? = (vs.map some)[p]? := fun {p i x s0} hp hE hs => by
    have hpl := (List.getElem?_eq_some_iff.mp hp).1
    obtain ⟨s, hs1⟩ : ∃ s, S[p]? = some s := ⟨_, List.getElem?_eq_getElem (by rw [hSl]; exact hpl)⟩
    have sl := hat p _ s hp hs1
    unfold slotOf at sl
    simp only [hE] at sl
    rcases hs with ⟨xs, rfl⟩ | ⟨f, xs, rfl⟩
    · cases sl; exact (st.fx p _ _ hs1).2
    · cases sl; exact (st.fx p _ _ hs1).2
  -- what P owns E3 owns, at the lent name
  have ownP : ∀ {a : Addr} {p : Nat} {s : Sl} {w : Option V}, P[p]? = some s → σ'[p]? = some w → a ∈ ownA s w → ∃ i x s1 v, l[p]? = some (some i, x) ∧ E3[i]? = some s1 ∧ σ[i]? = some (some v) ∧ a ∈ ownA s1 (some v) := fun {a p s w} h1 h2 ha => by
    have hpl : p < l.length := by rw [b2]; exact (List.getElem?_eq_some_iff.mp h1).1
    obtain ⟨⟨o, x⟩, hb⟩ : ∃ b, l[p]? = some b := ⟨_, List.getElem?_eq_getElem hpl⟩
    cases o with
    | none =>
      have := b5 p x s hb h1
      subst this
      simp [ownA] at ha
    | some i =>
      obtain ⟨v, s0, s', s1, g1, g2, g3, g4, g5, g6⟩ := atP hb
      rw [h1] at g4
      cases g4
      refine ⟨i, x, s1, v, hb, g6, g2, ?_⟩
      cases s0 with
      | l xs =>
        have q := lentR hb g3 (.inl ⟨_, rfl⟩)
        rw [List.getElem?_map, g1, h2] at q
        cases q
        cases s with
        | r f ys =>
          cases f with
          | false => cases g5; cases v <;> exact ha
          | true => simp [ownA] at ha
        | _ => cases g5
      | r f xs =>
        have q := lentR hb g3 (.inr ⟨_, _, rfl⟩)
        rw [List.getElem?_map, g1, h2] at q
        cases q
        cases s with
        | r f ys => cases g5; exact ha
        | _ => cases g5
      | s ns =>
        cases s with
        | un => simp [ownA] at ha
        | _ => cases g5
      | un => cases g5
      | d y => cases g5
      | e c y => cases g5
  have ownE : ∀ {a : Addr} {p i : Nat} {x : Dt} {s1 : Sl} {w : Option V}, l[p]? = some (some i, x) → E3[i]? = some s1 → σ[i]? = some w → a ∈ ownA s1 w → ∃ s, P[p]? = some s ∧ σ'[p]? = some w ∧ a ∈ ownA s w := fun {a p i x s1 w} hp h1 h2 ha => by
    obtain ⟨v, s0, s, s1', g1, g2, g3, g4, g5, g6⟩ := atP hp
    rw [h1] at g6
    cases g6
    rw [h2] at g2
    cases g2
    refine ⟨s, g4, ?_⟩
    cases s0 with
    | l xs =>
      have q := lentR hp g3 (.inl ⟨_, rfl⟩)
      rw [List.getElem?_map, g1] at q
      refine ⟨q, ?_⟩
      cases s with
      | r f ys =>
        cases f with
        | false => cases g5; cases v <;> exact ha
        | true => cases g5; simp [ownA] at ha
      | _ => cases g5
    | r f xs =>
      have q := lentR hp g3 (.inr ⟨_, _, rfl⟩)
      rw [List.getElem?_map, g1] at q
      refine ⟨q, ?_⟩
      cases s with
      | r f ys => cases g5; exact ha
      | _ => cases g5
    | s ns =>
      cases s with
      | un => cases g5; simp [ownA] at ha
      | _ => cases g5
    | un => cases g5
    | d y => cases g5
    | e c y => cases g5
  have keepE : ∀ {a : Addr} {j : Nat} {s : Sl} {w : Option V}, j ∉ refsOf l → E2[j]? = some s → σ[j]? = some w → a ∈ ownA s w → a ∈ cutF F E2 σ S vs := fun {a j s w} hj h1 h2 ha => by
    refine mem_cut.mpr ⟨List.mem_append_right _ (mem_own h1 h2 ha), fun hc => ?_⟩
    obtain ⟨p, t, u, k1, k2, k3⟩ := own_mem hc
    obtain ⟨i, x, s0, v, g1, g2, _, g4, g5, _⟩ := lent har hl hS k1 k2 k3
    have := own_inj no g2 g4 h1 h2 g5 ha
    subst this
    exact hj (mem_refs.mpr ⟨p, x, g1⟩)
  have FF : ∀ a, a ∈ F → a ∈ cutF F E2 σ S vs := fun a ha => by
    refine mem_cut.mpr ⟨List.mem_append_left _ ha, fun hc => ?_⟩
    obtain ⟨p, t, u, k1, k2, k3⟩ := own_mem hc
    obtain ⟨i, x, s0, v, g1, g2, _, g4, g5, _⟩ := lent har hl hS k1 k2 k3
    exact (List.nodup_append.mp n0).2.2 a ha a (mem_own g2 g4 g5) rfl
  -- where an address of E3 stands
  have inE : ∀ {a : Addr}, a ∈ own E3 σ → (∃ j s w, j ∉ refsOf l ∧ E2[j]? = some s ∧ σ[j]? = some w ∧ a ∈ ownA s w) ∨ a ∈ own P σ' := fun {a} h => by
    obtain ⟨j, s, w, h1, h2, h3⟩ := own_mem h
    by_cases hj : j ∈ refsOf l
    · obtain ⟨p, x, hp⟩ := mem_refs.mp hj
      obtain ⟨t, g1, g2, g3⟩ := ownE hp h1 h2 h3
      exact .inr (mem_own g1 g2 g3)
    · rw [b3 j hj] at h1
      exact .inl ⟨j, s, w, hj, h1, h2, h3⟩
  have seqP : ∀ a, a ∈ cutF F E2 σ S vs ++ (ex ++ own P σ') ↔ a ∈ F ++ (ex ++ own E3 σ) := fun a => by
    constructor
    · intro h
      rcases List.mem_append.mp h with h | h
      · obtain ⟨h1, h2⟩ := mem_cut.mp h
        rcases List.mem_append.mp h1 with h1 | h1
        · exact List.mem_append_left _ h1
        · obtain ⟨j, s, w, k1, k2, k3⟩ := own_mem h1
          by_cases hj : j ∈ refsOf l
          · obtain ⟨p, x, hp⟩ := mem_refs.mp hj
            exact absurd (lend har hl hS hp k1 k2 k3) h2
          · exact List.mem_append_right _ (List.mem_append_right _ (mem_own (by rw [b3 j hj]; exact k1) k2 k3))
      · rcases List.mem_append.mp h with h | h
        · exact List.mem_append_right _ (List.mem_append_left _ h)
        · obtain ⟨p, s, w, k1, k2, k3⟩ := own_mem h
          obtain ⟨i, x, s1, v, g1, g2, g3, g4⟩ := ownP k1 k2 k3
          exact List.mem_append_right _ (List.mem_append_right _ (mem_own g2 g3 g4))
    · intro h
      rcases List.mem_append.mp h with h | h
      · exact List.mem_append_left _ (FF a h)
      · rcases List.mem_append.mp h with h | h
        · exact List.mem_append_right _ (List.mem_append_left _ h)
        · rcases inE h with ⟨j, s, w, k0, k1, k2, k3⟩ | h
          · exact List.mem_append_left _ (keepE k0 k1 k2 k3)
          · exact List.mem_append_right _ (List.mem_append_right _ h)
  have hh : hid (cutF F E2 σ S vs ++ (ex ++ own P σ')) H' = hid (F ++ (ex ++ own E3 σ)) H' := hid_congr seqP
  have fr : Ex (hid (F ++ own E2 σ) H) (hid (F ++ (ex ++ own E3 σ)) H') := by
    rw [← hh, ← hid_congr seq]
    exact st.fr
  obtain ⟨m1, m2, m3⟩ := List.nodup_append.mp nP
  obtain ⟨m4, m5, m6⟩ := List.nodup_append.mp m2
  refine ⟨⟨?_, fun a ha => ?_, b1.trans er.len, fun j s w h1 h2 => ?_⟩, ⟨fr, fun a ha => st.kp a (FF a ha), fun j f xs h1 => ?_, rfl⟩, hh⟩
  · rw [List.nodup_append]
    refine ⟨(List.nodup_append.mp n0).1, ?_, fun a ha b hb z => ?_⟩
    · rw [List.nodup_append]
      refine ⟨m4, own_one fun i j s s' v v' a h1 h2 h3 h4 h5 h6 => ?_, fun a ha b hb z => ?_⟩
      · by_cases hi : i ∈ refsOf l
        · obtain ⟨p, x, hp⟩ := mem_refs.mp hi
          obtain ⟨t, g1, g2, g3⟩ := ownE hp h1 h2 h5
          by_cases hj : j ∈ refsOf l
          · obtain ⟨q, y, hq⟩ := mem_refs.mp hj
            obtain ⟨t', k1, k2, k3⟩ := ownE hq h3 h4 h6
            have := own_inj noP g1 g2 k1 k2 g3 k3
            subst this
            rw [hp] at hq
            cases hq
            rfl
          · rw [b3 j hj] at h3
            exact absurd rfl (m3 a (keepE hj h3 h4 h6) a (List.mem_append_right _ (mem_own g1 g2 g3)))
        · rw [b3 i hi] at h1
          by_cases hj : j ∈ refsOf l
          · obtain ⟨q, y, hq⟩ := mem_refs.mp hj
            obtain ⟨t', k1, k2, k3⟩ := ownE hq h3 h4 h6
            exact absurd rfl (m3 a (keepE hi h1 h2 h5) a (List.mem_append_right _ (mem_own k1 k2 k3)))
          · rw [b3 j hj] at h3
            exact own_inj no h1 h2 h3 h4 h5 h6
      · subst z
        rcases inE hb with ⟨j, s, w, k0, k1, k2, k3⟩ | h
        · exact m3 a (keepE k0 k1 k2 k3) a (List.mem_append_left _ ha) rfl
        · exact m6 a ha a h rfl
    · subst z
      rcases List.mem_append.mp hb with hb | hb
      · exact m3 a (FF a ha) a (List.mem_append_left _ hb) rfl
      · rcases inE hb with ⟨j, s, w, k0, k1, k2, k3⟩ | h
        · exact (List.nodup_append.mp n0).2.2 a ha a (mem_own k1 k2 k3) rfl
        · exact m3 a (FF a ha) a (List.mem_append_right _ h) rfl
  · rcases List.mem_append.mp ha with ha | ha
    · exact er'.tr a (List.mem_append_left _ (FF a ha))
    · exact er'.tr a (List.mem_append_right _ ha)
  · by_cases hj : j ∈ refsOf l
    · obtain ⟨p, x, hp⟩ := mem_refs.mp hj
      obtain ⟨v, s0, t, s1, g1, g2, g3, g4, g5, g6⟩ := atP hp
      rw [h1] at g6
      cases g6
      rw [h2] at g2
      cases g2
      rw [← hh]
      cases s0 with
      | l xs =>
        have q := lentR hp g3 (.inl ⟨_, rfl⟩)
        rw [List.getElem?_map, g1] at q
        have sr := er'.sl p t _ g4 q
        cases t with
        | r f ys =>
          cases f with
          | false => cases g5; cases v <;> exact sr
          | true => cases g5; exact sr
        | _ => cases g5
      | r f xs =>
        have q := lentR hp g3 (.inr ⟨_, _, rfl⟩)
        rw [List.getElem?_map, g1] at q
        have sr := er'.sl p t _ g4 q
        cases t with
        | r f ys => cases g5; exact sr
        | _ => cases g5
      | s ns =>
        cases t with
        | un =>
          cases g5
          rw [hh]
          refine (er.sl j (.s ns) _ g3 h2).up fr fun a ha => ?_
          simp [ownA] at ha
        | _ => cases g5
      | un => cases g5
      | d y => cases g5
      | e c y => cases g5
    · rw [b3 j hj] at h1
      exact (er.sl j s w h1 h2).up fr fun a ha => st.kp a (keepE hj h1 h2 ha)
  · by_cases hj : j ∈ refsOf l
    · obtain ⟨p, x, hp⟩ := mem_refs.mp hj
      obtain ⟨v, s0, t, s1, g1, g2, g3, g4, g5, g6⟩ := atP hp
      rw [h1] at g3
      cases g3
      cases t with
      | r f' ys => cases g5; exact ⟨⟨_, _, g6⟩, rfl⟩
      | _ => cases g5
    · rw [b3 j hj]
      exact ⟨⟨_, _, h1⟩, rfl⟩
end
end

section
variable {G : Gi} {W : WX} {X : Cx}
theorem ce_call {k n : Nat} {f : Addr} {fd : FuncData} {ps : List Str} {x : Str} {p pos : Pos} {e : Expr} {es : List Expr} {m : Fn} {fl : List Bool} {ma : M (List Rv)} (Ff : FnG X.prog X.w X.K X.mg X.base k f fd ps (spF G n m)) (hgu : X.A.guards = some []) (hr : Room k X.A) (hg : Gl X x) (hm : X.mg x = some (.ref f))
    (hk : PySem.W.keepIn X.K (.ref f) = true) (hb : Binds X.K fd ps []) (tk : Takes X W) (ha : PA X (e :: es) (tA G none W ma)) (hn : fl.length = n) (hdb : (x == ("__debug__" : Str)) = false := by decide)
    (he : starEach (e :: es) X.env = (false, eval e X.env) :: starEach es X.env := by rfl) (hpl : (backTo pos (starEach es X.env)).any (·.1) = false := by rfl) :
    PE X (.Call (.Name x p) (e :: es) [] pos) (tE G none W (eCall m fl ma)) := imE (pe_callG Ff hgu hr hg hm hk hb tk ha hdb he hpl) fun σ H Q => by
  rintro ⟨F, E, er, h⟩
  refine ⟨F, E, er, ?_⟩
  unfold eCall bnd at h
  cases hma : ma E with
  | no => rw [hma] at h; exact h.elim
  | ex c x E' => rw [hma] at h; exact h
  | ok rs E1 =>
    rw [hma] at h
    intro vs H1 er1 st1 vr
    simp only [Rs.go, callM, bnd] at h
    cases hp : prep fl rs E1 with
    | no => rw [hp] at h; exact h.elim
    | ex c x E' => exact absurd hp prep_ex
    | ok l E2 =>
      rw [hp] at h
      simp only [Rs.go] at h
      obtain ⟨er2, st2, hl, har⟩ := prepV er1 vr hp
      by_cases hnd : (refsOf l).Nodup
      · rw [if_pos hnd] at h
        cases hS : slotsOf E2 l with
        | none => rw [hS] at h; exact h.elim
        | some S =>
          rw [hS] at h
          dsimp only at h
          obtain ⟨seq, erS⟩ := callER er2 har hl hnd hS
          refine ⟨by rw [← hl, prep_len hp, hn], cutF F E2 σ S vs, S, erS, ?_⟩
          cases hm : m S with
          | no => rw [hm] at h; exact h.elim
          | ok r P =>
            rw [hm] at h
            show ∀ ex v H', _ → _ → _ → _
            intro ex v H' er' st' vr'
            cases r with
            | v i => exact h.elim
            | d y =>
              simp only [goBack] at h
              cases hbk : backs l P E2 with
              | none => rw [hbk] at h; exact h.elim
              | some E3 =>
                rw [hbk] at h
                obtain ⟨er3, st3, hh⟩ := backER er2 har hl hnd hS er' st' hbk
                obtain ⟨rfl, d⟩ := vr'
                refine h [] v H' er3 (st1.trans (st2.trans st3)) ⟨rfl, ?_⟩
                have hh : hid (cutF F E2 σ S vs ++ own P (vs.map some)) H' = hid (F ++ own E3 σ) H' := hh
                have d : Dv G.K (hid (cutF F E2 σ S vs ++ own P (vs.map some)) H') v y := d
                rw [hh] at d
                exact d
            | o ys =>
              simp only [goBack] at h
              cases hbk : backs l P E2 with
              | none => rw [hbk] at h; exact h.elim
              | some E3 =>
                rw [hbk] at h
                obtain ⟨er3, st3, hh⟩ := backER er2 har hl hnd hS er' st' hbk
                obtain ⟨a, us, e1, e2, e3, d⟩ := vr'
                refine h ex v H' er3 (st1.trans (st2.trans st3)) ⟨a, us, e1, e2, e3, ?_⟩
                rw [← hh]
                exact d
          | ex c y P =>
            rw [hm] at h
            intro dd w σ' H' er' st' hx d
            simp only [goBack] at h
            cases hbk : backs l P E2 with
            | none => rw [hbk] at h; exact h.elim
            | some E3 =>
              rw [hbk] at h
              obtain ⟨er3, st3, hh⟩ := backER er2 har hl hnd hS er' st' hbk
              have hh : hid (cutF F E2 σ S vs ++ own P σ') H' = hid (F ++ own E3 σ) H' := hh
              refine h dd w σ H' er3 (st1.trans (st2.trans st3)) ?_ ?_
              · have hx : hid (cutF F E2 σ S vs ++ own P σ') H' dd = _ := hx
                rw [hh] at hx
                exact hx
              · have d : Dv G.K (hid (cutF F E2 σ S vs ++ own P σ') H') w y := d
                rw [hh] at d
                exact d
      · rw [if_neg hnd] at h
        exact h.elim
end
end Vs
/-! # VsJ -/
set_option Elab.async false
set_option linter.all false
set_option maxRecDepth 100000
set_option maxHeartbeats 4000000
/-! Vs, part J: a def by its body's meaning. -/
namespace Vs
open PySem L2 PySem.Spec PyProof.Rows
open Evl (Ex)
def cut1 : Sl → Sl → Sl
  | .r _ _, .r f xs => .r f xs
  | _, _ => .un
def cutR (S E : En) : En := List.zipWith cut1 S E
def endF (S : En) (r : Rs Fl) : Rs Rv := match r with
  | .ok .nx E' => .ok (.d .none) (cutR S E')
  | .ok (.rt (.d x)) E' => .ok (.d x) (cutR S E')
  | .ok (.rt (.o xs)) E' => .ok (.o xs) (cutR S E')
  | .ex c x E' => .ex c x (cutR S E')
  | _ => .no
/-- a def of n parameters, N names -/
def mkFn (n N : Nat) (m : M Fl) : Fn := fun S => if S.length = n then endF S (m (S ++ List.replicate (N - n) .un)) else .no
section
variable {G : Gi} {F ex : List Addr} {H H' : Hp} {S E' : En} {σ0 σ' : L2.St} {n N : Nat}
theorem own_app : ∀ {E : En} {σ : L2.St} {E1 : En} {σ1 : L2.St}, E.length = σ.length → own (E ++ E1) (σ ++ σ1) = own E σ ++ own E1 σ1
  | [], [], _, _, _ => rfl
  | [], _ :: _, _, _, h => by simp at h
  | _ :: _, [], _, _, h => by simp at h
  | s :: E, v :: σ, E1, σ1, h => by
    show ownA s v ++ own (E ++ E1) (σ ++ σ1) = (ownA s v ++ own E σ) ++ own E1 σ1
    rw [own_app (by simpa using h), List.append_assoc]
theorem own_uns : ∀ (k : Nat) (σ : L2.St), own (List.replicate k .un) σ = []
  | 0, σ => by cases σ <;> rfl
  | k + 1, [] => rfl
  | k + 1, v :: σ => by
    show ownA .un v ++ own (List.replicate k .un) σ = []
    rw [own_uns k σ]
    rfl
theorem startER {vs : List V} (er : ER G none F [] (vs.map some) H S) (Nm : List Str) (hn : S.length = n) (hN : Nm.length = N) (hle : n ≤ N) :
    own (S ++ List.replicate (N - n) .un) (L2.start Nm vs) = own S (vs.map some) ∧ ER G none F [] (L2.start Nm vs) H (S ++ List.replicate (N - n) .un) := by
  have hl : S.length = (vs.map some).length := er.len
  have hv : vs.length = n := by rw [List.length_map] at hl; omega
  have ho : own (S ++ List.replicate (N - n) .un) (L2.start Nm vs) = own S (vs.map some) := by
    unfold L2.start
    rw [own_app hl, own_uns, List.append_nil]
  refine ⟨ho, ⟨by rw [ho]; exact er.nd, er.tr, ?_, fun i s v h1 h2 => ?_⟩⟩
  · unfold L2.start
    rw [List.length_append, List.length_append, List.length_replicate, List.length_replicate, hl, hN, hv]
  · rw [ho]
    by_cases hi : i < S.length
    · rw [List.getElem?_append_left hi] at h1
      unfold L2.start at h2
      rw [List.getElem?_append_left (by rw [← hl]; exact hi)] at h2
      exact er.sl i s v h1 h2
    · rw [List.getElem?_append_right (by omega), List.getElem?_replicate] at h1
      split at h1
      · cases h1; exact True.intro
      · cases h1
theorem cut_at {i : Nat} {s : Sl} (h : (cutR S E')[i]? = some s) : s = .un ∨ ∃ f xs f' xs', s = .r f xs ∧ i < S.length ∧ E'[i]? = some (.r f xs) ∧ S[i]? = some (.r f' xs') := by
  unfold cutR at h
  rw [List.getElem?_zipWith] at h
  cases e0 : S[i]? with
  | none => rw [e0] at h; cases h
  | some s0 =>
    cases e1 : E'[i]? with
    | none => rw [e0, e1] at h; cases h
    | some s1 =>
      rw [e0, e1] at h
      have h : cut1 s0 s1 = s := by simpa using h
      subst h
      have hi := (List.getElem?_eq_some_iff.mp e0).1
      cases s0 <;> cases s1 <;> first | exact .inl rfl | exact .inr ⟨_, _, _, _, rfl, hi, rfl, rfl⟩
theorem cutER {vs : List V} {Nm : List Str} (er0 : ER G none F [] (vs.map some) H S) (hn : S.length = n) (hN : Nm.length = N) (hle : n ≤ N)
    (er : ER G none F ex σ' H' E') (st : Stp F (S ++ List.replicate (N - n) .un) (L2.start Nm vs) H ex E' σ' H') :
    ER G none F ex (vs.map some) H' (cutR S E') ∧ Stp F S (vs.map some) H ex (cutR S E') (vs.map some) H' ∧ Ex (hid (F ++ (ex ++ own E' σ')) H') (hid (F ++ (ex ++ own (cutR S E') (vs.map some))) H') := by
  obtain ⟨ho, erS⟩ := startER er0 Nm hn hN hle
  have hl : S.length = (vs.map some).length := er0.len
  have hlE : E'.length = N := by
    have h1 := er.len
    rw [st.ln] at h1
    rw [h1]
    have h2 := erS.len
    rw [← h2, List.length_append, List.length_replicate, hn]
    omega
  -- a lent name's value
  have hval : ∀ {i : Nat} {f : Bool} {xs : List Dt} {v : Option V}, S[i]? = some (.r f xs) → (vs.map some)[i]? = some v → σ'[i]? = some v := fun {i f xs v} h3 h2 => by
    have hi := (List.getElem?_eq_some_iff.mp h3).1
    have q := st.fx i f xs (by rw [List.getElem?_append_left hi]; exact h3)
    rw [q.2]
    unfold L2.start
    rw [List.getElem?_append_left (by rw [← hl]; exact hi)]
    exact h2
  have inj : ∀ {i : Nat} {s : Sl} {v : Option V} {a : Addr}, (cutR S E')[i]? = some s → (vs.map some)[i]? = some v → a ∈ ownA s v → E'[i]? = some s ∧ σ'[i]? = some v := fun {i s v a} h1 h2 h3 => by
    rcases cut_at h1 with rfl | ⟨f, xs, f', xs', rfl, hi, h4, h5⟩
    · simp [ownA] at h3
    · exact ⟨h4, hval h5 h2⟩
  have sub : ∀ a, a ∈ own (cutR S E') (vs.map some) → a ∈ own E' σ' := fun a ha => by
    obtain ⟨i, s, v, h1, h2, h3⟩ := own_mem ha
    obtain ⟨h4, h5⟩ := inj h1 h2 h3
    exact mem_own h4 h5 h3
  have nd' := er.nd
  obtain ⟨m1, m2, m3⟩ := List.nodup_append.mp nd'
  obtain ⟨m4, m5, m6⟩ := List.nodup_append.mp m2
  have ex1 : Ex (hid (F ++ (ex ++ own E' σ')) H') (hid (F ++ (ex ++ own (cutR S E') (vs.map some))) H') := ex_hid fun a ha => by
    rcases List.mem_append.mp ha with h | h
    · exact List.mem_append_left _ h
    · refine List.mem_append_right _ ?_
      rcases List.mem_append.mp h with h | h
      · exact List.mem_append_left _ h
      · exact List.mem_append_right _ (sub a h)
  refine ⟨⟨?_, er.tr, ?_, fun i s v h1 h2 => ?_⟩, ⟨?_, st.kp, fun i f xs h => ?_, rfl⟩, ex1⟩
  · rw [List.nodup_append]
    refine ⟨m1, ?_, fun a ha b hb z => ?_⟩
    · rw [List.nodup_append]
      refine ⟨m4, own_one fun i j s s' v v' a h1 h2 h3 h4 h5 h6 => ?_, fun a ha b hb z => m6 a ha b (sub b hb) z⟩
      obtain ⟨k1, k2⟩ := inj h1 h2 h5
      obtain ⟨k3, k4⟩ := inj h3 h4 h6
      exact own_inj m5 k1 k2 k3 k4 h5 h6
    · rcases List.mem_append.mp hb with hb | hb
      · exact m3 a ha b (List.mem_append_left _ hb) z
      · exact m3 a ha b (List.mem_append_right _ (sub b hb)) z
  · show (List.zipWith cut1 S E').length = _
    rw [List.length_zipWith, ← hl, hlE, hn]
    omega
  · rcases cut_at h1 with rfl | ⟨f, xs, f', xs', rfl, hi, h4, h5⟩
    · exact True.intro
    · exact (er.sl i _ v h4 (hval h5 h2)).up ex1 fun _ _ => rfl
  · have e0 : vis F (S ++ List.replicate (N - n) .un) (L2.start Nm vs) H = vis F S (vs.map some) H := by
      show hid (F ++ own _ _) H = _
      rw [ho]
    have q := st.fr
    rw [e0] at q
    exact Evl.Ex.trans q ex1
  · have hi : i < S.length := (List.getElem?_eq_some_iff.mp h).1
    obtain ⟨⟨f', xs', q⟩, _⟩ := st.fx i f xs (by rw [List.getElem?_append_left hi]; exact h)
    refine ⟨⟨f', xs', ?_⟩, rfl⟩
    unfold cutR
    rw [List.getElem?_zipWith, h, q]
    rfl

/-- the body's meaning gives the def's -/
theorem fn_imp {vs : List V} {Nm : List Str} {m : M Fl} {E0 : XK} {Q : VK} (hN : Nm.length = N) (hle : n ≤ N) (hv : vs.length = n)
    (h : tE G none (fun c d _ H' => E0 c d H') (mkFn n N m) (vs.map some) H Q) : tS G none (fun c d _ H' => E0 c d H') m { nx := fun _ H' => Q .non H', rt := Q } (L2.start Nm vs) H := by
  obtain ⟨F, S, er, h⟩ := h
  have hn : S.length = n := by rw [er.len, List.length_map, hv]
  unfold mkFn at h
  rw [if_pos hn] at h
  obtain ⟨ho, erS⟩ := startER er Nm hn hN hle
  refine ⟨F, _, erS, ?_⟩
  cases hm : m (S ++ List.replicate (N - n) .un) with
  | no => rw [hm] at h; exact h.elim
  | ex c x E' =>
    rw [hm] at h
    intro dd w σ' H' er' st hx hd
    obtain ⟨er2, st2, ex1⟩ := cutER er hn hN hle er' st
    exact h dd w _ H' er2 st2 (ex1 _ _ hx) (Dv.up hd ex1)
  | ok f E' =>
    rw [hm] at h
    cases f with
    | bk => exact h.elim
    | ct => exact h.elim
    | nx =>
      intro σ' H' er' st
      obtain ⟨er2, st2, ex1⟩ := cutER er hn hN hle er' st
      exact h [] .non H' er2 st2 ⟨rfl, .non⟩
    | rt r =>
      intro ex v σ' H' er' st vr
      obtain ⟨er2, st2, ex1⟩ := cutER er hn hN hle er' st
      cases r with
      | v i => exact h.elim
      | d x =>
        obtain ⟨rfl, hd⟩ := vr
        exact h [] v H' er2 st2 ⟨rfl, Dv.up hd ex1⟩
      | o xs =>
        obtain ⟨a, us, e1, e2, e3, hd⟩ := vr
        exact h ex v H' er2 st2 ⟨a, us, e1, e2, e3, hd.up ex1⟩
end

/-- what a body's context is known to have -/
structure CtxOk (G : Gi) (k : Nat) (W : WX) (P : Program) (w : World) (K : PySem.W.Frag) (mg : Str → Option Value) (base : Heap) (N : List Str) (scope : Scope) (X : Cx) : Prop where
  calm : X.calm = true
  gu : X.A.guards = some []
  rm : Room k X.A
  tk : Takes X W
  ow : PassesOwn (model X.prog X.w) X.A X.env X.xe
  eN : X.N = N
  eS : X.env.scope = scope
  eP : X.prog = P
  ew : X.w = w
  eK : X.K = K
  em : X.mg = mg
  eb : X.base = base
theorem fnG_of {G : Gi} {P : Program} {w : World} {K : PySem.W.Frag} {mg : Str → Option Value} {base : Heap} {k n n2 : Nat} {f : Addr} {name qual : Str} {params : Arguments} {body : List Stmt} {scope : Scope} {dV kV doc pm cdv ct oc : Value} {an od : Option Addr}
    {osl : Array (Option Value)} {N ps : List Str} {m : M Fl} (lk : K.lookup f = some ⟨oc, od, .func (PySem.W.fnOf name qual params body scope dV kV doc pm an cdv ct), osl⟩) (hcd : PySem.W.codeIn K cdv qual = true) (S : FnScope N ps scope) (hn : ps.length = n) (hN : N.length = n2) (hle : n ≤ n2)
    (hbody : ∀ (A : Around) (outer : List Env) (s : Shared) (H : Hp) (E : XK), A.guards = some [] → Room k (A.deeper (envOfC qual scope s.heap.objs.size f cdv)) →
      PSs (cxOf (L2.CX P w) P w K mg base N qual scope f cdv A outer s H E) body (tS G none (fun c d _ H' => E c d H') m)) :
    FnG P w K mg base (k + 1) f (PySem.W.fnOf name qual params body scope dV kV doc pm an cdv ct) ps (spF G n (mkFn n n2 m)) := by
  have len : ∀ vs H Q E, spF G n (mkFn n n2 m) vs H Q E → vs.length = ps.length := fun vs H Q E h => by rw [hn]; exact h.1
  refine ⟨len, fun A outer s H args us vs Q E hgu hr e0 hb r hsp => ?_⟩
  have hl := len _ _ _ _ hsp
  have KX : K.In s.heap := e0.mod.kin.keeps fun b o e => (e0.bs b o e).1
  have lim : s.heap.NoLimit := e0.mod.nolimit.keeps fun b o e => (e0.bs b o e).1
  have hkind : ∀ y ∈ ps.zip us, scope.names.lookup y.1 = some .local ∨ (scope.names.lookup y.1 = some .cell ∧ ((cellsFrom (s.heap.objs.size + 1) scope.names []).lookup y.1).isSome = true) := fun ⟨n, v⟩ hy => by
    rcases S.par n (List.of_mem_zip hy).1 with q | q
    · exact .inl q
    · exact .inr ⟨q, PySem.W.cellsFrom_some _ _ _ (.inl q)⟩
  refine codeAny_call_function hr.depth (KX _ _ lk) rfl S.co S.gen rfl (PySem.W.codeRec_of KX hcd) (hb _ _ _ _ ?_)
  refine wpAny_newFunctionEnv_cells S.kind hkind fun env he s1 x => ?_
  subst he
  refine ⟨lim.keeps x.toInCall.keep, codeAny_func ?_⟩
  have ht := hbody A outer s H E hgu (hr.deeper _)
  have hq : tS G none (fun c d _ H' => E c d H') m { nx := fun _ H' => Q .non H', rt := Q } (L2.start N vs) H := fn_imp hN hle hsp.1 hsp.2
  have I : Inv (cxOf (L2.CX P w) P w K mg base N qual scope f cdv A outer s H E) [] (L2.start N vs) H s1 := inv_start S hr.hd e0 hl r x
  refine wpAny_mono (ht.run [] s1 (L2.start N vs) H _ I hq) (fun fl s' hs => ?_) fun e s' hs => hs
  have fin : ∀ {σ' : L2.St} {H' : Hp} {v : V} {u : Value}, Inv (cxOf (L2.CX P w) P w K mg base N qual scope f cdv A outer s H E) [] σ' H' s' → RelV v u → Q v H' → CE outer P w H s Q u s' :=
    fun {σ' H' v u} J rv q => ⟨v, H', J.os, J.bare, J.base, J.hok, rv, q⟩
  cases fl with
  | ret u =>
    obtain ⟨v, σ', H', J, rv, q⟩ := hs
    exact fin J rv q
  | next =>
    obtain ⟨σ', H', J, q⟩ := hs
    exact fin (v := V.non) (u := Value.none) J rfl q
  | brk =>
    obtain ⟨_, _, _, q⟩ := hs
    exact False.elim q
  | cont =>
    obtain ⟨_, _, _, q⟩ := hs
    exact False.elim q
theorem gu_deeper {A : Around} {qual : Str} {scope : Scope} {n : Nat} {f : Addr} {cd : Value} (h : A.guards = some []) : (A.deeper (envOfC qual scope n f cd)).guards = some [] := by
  have e : (A.deeper (envOfC qual scope n f cd)).guards = A.guards := by first | rfl | simp [Around.deeper]
  rw [e, h]
theorem ctx_of {G : Gi} {P : Program} {w : World} {K : PySem.W.Frag} {mg : Str → Option Value} {base : Heap} {N : List Str} {qual : Str} {scope : Scope} {f : Addr} {cd : Value} {A : Around} {outer : List Env} {s : Shared} {H : Hp} {E : XK} {k : Nat} (hgu : A.guards = some []) (hr : Room k (A.deeper (envOfC qual scope s.heap.objs.size f cd))) :
    CtxOk G k (fun c d _ H' => E c d H') P w K mg base N scope (cxOf (L2.CX P w) P w K mg base N qual scope f cd A outer s H E) :=
  ⟨rfl, gu_deeper hgu, hr, takes_of rfl rfl rfl rfl, passes_of (K := fun e s'' => L2.CX P w outer H s E e s'') rfl, rfl, rfl, rfl, rfl, rfl, rfl, rfl⟩
end Vs
/-! # VsK -/
set_option Elab.async false
set_option linter.all false
set_option maxRecDepth 100000
set_option maxHeartbeats 4000000
/-! Vs, part K: operators on data. -/
namespace Vs
open PySem L2 PySem.Spec PyProof.Rows
open Evl (Ex)
section
variable {G : Gi} {X : Cx} {S : List Addr} {H : Hp} {v w : V}
/-! ### arithmetic -/
def gAdd : Dt → Dt → Option Rv
  | .int i, .int j => some (.d (.int (i + j)))
  | .str a, .str b => if a.length + b.length ≤ 1000000 then some (.d (.str (a ++ b))) else none
  | .tuple xs, .tuple ys => if xs.length + ys.length ≤ 1000000 then some (.d (.tuple (xs ++ ys))) else none
  | .list xs, .list ys => if xs.length + ys.length ≤ 1000000 then some (.o (xs ++ ys)) else none
  | _, _ => none
def rAdd4 (K : PySem.W.Frag) : R2 := fun x y H Q => rI0 (fun i j => .int (i + j)) x y H Q ∨ (∃ i j, x = .str i ∧ y = .str j ∧ i.length + j.length ≤ sizeLine ∧ Q (.str (i ++ j)) H) ∨ rCatA K x y H Q ∨ rCat x y H Q
theorem o_add : OpR X (binaryOp .Add) (rAdd4 X.K) := op_add.or (op_add_str.or (op_catA.or op_cat))
theorem s_add : OpSem G (rAdd4 G.K) gAdd := by
  intro S H x y z v w Q tr ov ow hg k
  unfold gAdd at hg
  split at hg
  · cases hg
    exact .inl ⟨_, _, ov.int, ow.int, k [] _ H (NewV.same (.int _))⟩
  · split at hg
    · cases hg
      exact .inr (.inl ⟨_, _, ov.str, ow.str, Nat.le_trans ‹_› (by decide), k [] _ H (NewV.same (.str _))⟩)
    · cases hg
  · rename_i xs ys
    split at hg
    · cases hg
      obtain ⟨a, us, rfl, h1, h2, d1⟩ := ov.tup
      obtain ⟨b, ws, rfl, h3, h4, d2⟩ := ow.tup
      have l1 := dpa_len d1
      have l2 := dpa_len d2
      refine .inr (.inr (.inl ⟨a, b, us, ws, rfl, rfl, h1, h3, ?_, fun e => ?_, fun e1 e2 => ?_, fun e1 e2 p hp => ?_⟩))
      · rw [l1, l2]; exact Nat.le_trans ‹_› (by decide)
      · subst e
        have : xs = [] := List.eq_nil_of_length_eq_zero l1.symm
        subst this
        exact k [] _ H (NewV.same (.tup h4 d2))
      · subst e2
        have : ys = [] := List.eq_nil_of_length_eq_zero l2.symm
        subst this
        rw [List.append_nil] at k
        exact k [] _ H (NewV.same (.tup h2 d1))
      · exact k [] _ _ (NewV.tup tr hp (dpa_app d1 d2))
    · cases hg
  · split at hg
    · cases hg
      obtain ⟨a, us, rfl, h1, d1⟩ := ov.lst
      obtain ⟨b, ws, rfl, h2, d2⟩ := ow.lst
      refine .inr (.inr (.inr ⟨a, b, us, ws, rfl, rfl, h1, h2, ?_, fun p hp => ?_⟩))
      · rw [dpa_len d1, dpa_len d2]; exact Nat.le_trans ‹_› (by decide)
      · exact k _ _ _ (NewV.lst tr hp (dpa_app d1 d2))
    · cases hg
  · cases hg
def gSub : Dt → Dt → Option Rv
  | .int i, .int j => some (.d (.int (i - j)))
  | _, _ => none
theorem s_sub : OpSem G (rI0 fun i j => .int (i - j)) gSub := by
  intro S H x y z v w Q tr ov ow hg k
  unfold gSub at hg
  split at hg
  · cases hg
    exact ⟨_, _, ov.int, ow.int, k [] _ H (NewV.same (.int _))⟩
  · cases hg
def mulOk (i j : Int) : Bool := decide (-(2 ^ 64) < i ∧ i < 2 ^ 64) || decide (-(2 ^ 64) < j ∧ j < 2 ^ 64) || decide (i.natAbs.log2 + j.natAbs.log2 < 1000000)
def rep (k : Nat) (xs : List Dt) : List Dt := (List.replicate k xs).flatten
def gMul : Dt → Dt → Option Rv
  | .int i, .int j => if mulOk i j then some (.d (.int (i * j))) else none
  | .list xs, .int k => if -(2 ^ 62) ≤ k ∧ k < 2 ^ 62 ∧ xs.length * k.toNat ≤ 1000000 then some (.o (rep k.toNat xs)) else none
  | .tuple xs, .int k => if xs ≠ [] ∧ 2 ≤ k ∧ k ≤ 1000 ∧ xs.length ≤ 1000 then some (.d (.tuple (rep k.toNat xs))) else none
  | _, _ => none
def rMul5 (K : PySem.W.Frag) : R2 := fun x y H Q => rI CMul (fun i j => .int (i * j)) x y H Q ∨ rI CMulW (fun i j => .int (i * j)) x y H Q ∨ rRep x y H Q ∨ rRepT K x y H Q
theorem o_mul : OpR X (binaryOp .Mult) (rMul5 X.K) := op_mul.or (op_mulW.or (op_rep.or op_repT))
theorem dpa_rep {K : PySem.W.Frag} {vs : List V} {xs : List Dt} (d : DvAll K H vs xs) : ∀ k : Nat, DvAll K H (List.replicate k vs).flatten (rep k xs)
  | 0 => by simp [rep]; exact .nil
  | k + 1 => by
    have e1 : (List.replicate (k + 1) vs).flatten = vs ++ (List.replicate k vs).flatten := by rw [List.replicate_succ, List.flatten_cons]
    have e2 : rep (k + 1) xs = xs ++ rep k xs := by unfold rep; rw [List.replicate_succ, List.flatten_cons]
    rw [e1, e2]
    exact dpa_app d (dpa_rep d k)
theorem s_mul : OpSem G (rMul5 G.K) gMul := by
  intro S H x y z v w Q tr ov ow hg k
  unfold gMul at hg
  split at hg
  · split at hg
    · cases hg
      rename_i hm
      unfold mulOk at hm
      rw [Bool.or_eq_true, Bool.or_eq_true] at hm
      rcases hm with (hm | hm) | hm
      · exact .inl ⟨_, _, ov.int, ow.int, .inl (of_decide_eq_true hm), k [] _ H (NewV.same (.int _))⟩
      · exact .inl ⟨_, _, ov.int, ow.int, .inr (of_decide_eq_true hm), k [] _ H (NewV.same (.int _))⟩
      · rename_i i j
        have hm2 : i.natAbs.log2 + j.natAbs.log2 < 1000000 := of_decide_eq_true hm
        exact .inr (.inl ⟨i, j, ov.int, ow.int, hm2, k [] _ H (NewV.same (.int _))⟩)
    · cases hg
  · split at hg
    · cases hg
      rename_i hm
      obtain ⟨a, us, rfl, h1, d1⟩ := ov.lst
      have l1 := dpa_len d1
      refine .inr (.inr (.inl ⟨a, _, us, rfl, ow.int, h1, by omega, by omega, ?_, fun p hp => k _ _ _ (NewV.lst tr hp (dpa_rep d1 _))⟩))
      rw [l1]
      exact Nat.le_trans hm.2.2 (by decide)
    · cases hg
  · split at hg
    · cases hg
      rename_i hm
      obtain ⟨a, us, rfl, h1, h2, d1⟩ := ov.tup
      have l1 := dpa_len d1
      refine .inr (.inr (.inr ⟨a, _, us, rfl, ow.int, h1, ?_, hm.2.1, hm.2.2.1, by rw [l1]; exact hm.2.2.2, fun p hp => k [] _ _ (NewV.tup tr hp (dpa_rep d1 _))⟩))
      rintro rfl
      exact hm.1 (List.eq_nil_of_length_eq_zero l1.symm)
    · cases hg
  · cases hg
def gDiv : Dt → Dt → Option Rv
  | .int i, .int j => if 0 < j ∧ j.natAbs.log2 < 9000 then some (.d (.int (i / j))) else none
  | _, _ => none
theorem s_div : OpSem G (rI CDivW fun i j => .int (i / j)) gDiv := by
  intro S H x y z v w Q tr ov ow hg k
  unfold gDiv at hg
  split at hg
  · split at hg
    · cases hg
      exact ⟨_, _, ov.int, ow.int, ‹_›, k [] _ H (NewV.same (.int _))⟩
    · cases hg
  · cases hg
def gMod : Dt → Dt → Option Rv
  | .int i, .int j => if 0 < j then some (.d (.int (i % j))) else none
  | _, _ => none
theorem s_mod : OpSem G (rI (fun _ j => 0 < j) fun i j => .int (i % j)) gMod := by
  intro S H x y z v w Q tr ov ow hg k
  unfold gMod at hg
  split at hg
  · split at hg
    · cases hg
      exact ⟨_, _, ov.int, ow.int, ‹_›, k [] _ H (NewV.same (.int _))⟩
    · cases hg
  · cases hg
def gPow : Dt → Dt → Option Rv
  | .int i, .int j => if 0 ≤ j ∧ j ≤ 1000000 ∧ i.natAbs < 2 ^ 64 then some (.d (.int (i ^ j.toNat))) else none
  | _, _ => none
theorem s_pow : OpSem G (rI CPow fun i j => .int (i ^ j.toNat)) gPow := by
  intro S H x y z v w Q tr ov ow hg k
  unfold gPow at hg
  split at hg
  · split at hg
    · cases hg
      exact ⟨_, _, ov.int, ow.int, ‹_›, k [] _ H (NewV.same (.int _))⟩
    · cases hg
  · cases hg
def gNeg : Dt → Option Rv
  | .int i => some (.d (.int (-i)))
  | _ => none
theorem s_neg : UnSem G (rU fun i => .int (-i)) gNeg := by
  intro S H x z v Q tr ov hg k
  unfold gNeg at hg
  split at hg
  · cases hg
    exact ⟨_, ov.int, k [] _ H (NewV.same (.int _))⟩
  · cases hg
/-! ### comparisons -/
def gCmp (p : Int → Int → Bool) : Dt → Dt → Option Rv
  | .int i, .int j => some (.d (.bool (p i j)))
  | _, _ => none
theorem s_cmp {p : Int → Int → Bool} : OpSem G (rI0 fun i j => .bl (p i j)) (gCmp p) := by
  intro S H x y z v w Q tr ov ow hg k
  unfold gCmp at hg
  split at hg
  · cases hg
    exact ⟨_, _, ov.int, ow.int, k [] _ H (NewV.same (.bl _))⟩
  · cases hg
def gLt := gCmp fun i j => decide (i < j)
def gLe := gCmp fun i j => decide (i ≤ j)
def gGt := gCmp fun i j => decide (j < i)
def gGe := gCmp fun i j => decide (j ≤ i)
/-! the data behind a value, as HandS tells it -/
mutual
theorem dv_dp {K : PySem.W.Frag} {H : Hp} : ∀ {x : Dt} {v : V}, Dv K H v x → x.canLay0 = true → L2.Dp K H v x
  | _, _, .non, _ => .non
  | _, _, .bl b, _ => .bl b
  | _, _, .int i, _ => .int i
  | _, _, .str s, _ => .str s
  | _, _, .lst h d, e => .lst (SqL.of h) (dva_dp d (by simpa [PyData.canLay0] using e))
  | _, _, .tup h d, e => .tup h (dva_dp d (by simpa [PyData.canLay0] using e))
  | _, _, .dct h d, e => by simp [PyData.canLay0] at e
theorem dva_dp {K : PySem.W.Frag} {H : Hp} : ∀ {xs : List Dt} {vs : List V}, DvAll K H vs xs → PyData.canLayAll0 xs = true → L2.DpAll K H vs xs
  | _, _, .nil, _ => .nil
  | _, _, .cons h t, e => by
    rw [PyData.canLayAll0, Bool.and_eq_true] at e
    exact .cons (dv_dp h e.1) (dva_dp t e.2)
end
theorem lay_of {x : Dt} (h : SeqAt.shaped x = true) : x.canLay0 = true := (Bool.and_eq_true_iff.mp h).1
def eqD : Dt → Dt → Option Bool
  | .str a, .str b => some (decide (a = b))
  | .int i, .int j => some (decide (i = j))
  | x, y => if SeqAt.shaped x = true ∧ SeqAt.shaped y = true then some (PyData.eqv x y) else none
def gEq (x y : Dt) : Option Rv := (eqD x y).map fun b => .d (.bool b)
def gNe (x y : Dt) : Option Rv := (eqD x y).map fun b => .d (.bool (!b))
def rEq2 (K : PySem.W.Frag) : R2 := fun x y H Q => rEq x y H Q ∨ rEqD K x y H Q
def rNe2 (K : PySem.W.Frag) : R2 := fun x y H Q => rNe x y H Q ∨ rNeD K x y H Q
theorem o_eq (hu : X.A.units + 64 < cLine) : OpR X (compareOp .Eq) (rEq2 X.K) := op_eq.or (op_eqD hu)
theorem o_ne (hu : X.A.units + 64 < cLine) : OpR X (compareOp .NotEq) (rNe2 X.K) := op_ne.or (op_neD hu)
theorem s_eq : OpSem G (rEq2 G.K) gEq := by
  intro S H x y z v w Q tr ov ow hg k
  unfold gEq at hg
  unfold eqD at hg
  split at hg
  · cases hg
    have e1 := ov.str
    have e2 := ow.str
    subst e1; subst e2
    refine .inl ⟨rfl, ?_⟩
    simp only [V.str.injEq]
    exact k [] _ H (NewV.same (.bl _))
  · cases hg
    have e1 := ov.int
    have e2 := ow.int
    subst e1; subst e2
    refine .inl ⟨rfl, ?_⟩
    simp only [V.int.injEq]
    exact k [] _ H (NewV.same (.bl _))
  · split at hg
    · cases hg
      rename_i h
      exact .inr ⟨_, _, dv_dp ov.dp (lay_of h.1), dv_dp ow.dp (lay_of h.2), h.1, h.2, k [] _ H (NewV.same (.bl _))⟩
    · cases hg
theorem s_ne : OpSem G (rNe2 G.K) gNe := by
  intro S H x y z v w Q tr ov ow hg k
  unfold gNe at hg
  unfold eqD at hg
  split at hg
  · cases hg
    have e1 := ov.str
    have e2 := ow.str
    subst e1; subst e2
    refine .inl ⟨rfl, ?_⟩
    simp only [V.str.injEq]
    exact k [] _ H (NewV.same (.bl _))
  · cases hg
    have e1 := ov.int
    have e2 := ow.int
    subst e1; subst e2
    refine .inl ⟨rfl, ?_⟩
    simp only [V.int.injEq]
    exact k [] _ H (NewV.same (.bl _))
  · split at hg
    · cases hg
      rename_i h
      exact .inr ⟨_, _, dv_dp ov.dp (lay_of h.1), dv_dp ow.dp (lay_of h.2), h.1, h.2, k [] _ H (NewV.same (.bl _))⟩
    · cases hg
/-! ### x in xs -/
def rInT (K : PySem.W.Frag) (neg : Bool) : R2 := fun x y H Q => ∃ d ds, Dp K H x d ∧ Dp K H y (.tuple ds) ∧ SeqAt.shaped d = true ∧ SeqAt.shaped (.tuple ds) = true ∧ Q (.bl (if neg then !(ds.any fun z => PyData.eqv z d) else ds.any fun z => PyData.eqv z d)) H
theorem canLay_tup {ds : List Dt} (h : SeqAt.shaped (.tuple ds) = true) : PyData.canLayAll0 ds = true := by
  have := SeqAt.canLay_of_shaped h
  simpa [PyData.canLay0] using this
theorem room_in {A : Around} {xs : List Dt} {d : Dt} (hd : SeqAt.shaped d = true) (hu : A.units + 65 < cLine) : A.units + 1 + min (PyData.depthAll xs) d.depth < cLine := by
  have h1 := SeqAt.depth_of_shaped hd
  have h2 : min (PyData.depthAll xs) d.depth ≤ d.depth := Nat.min_le_right _ _
  omega
theorem op_inT (hu : X.A.units + 65 < cLine) : OpR X (compareOp .In) (rInT X.K false) := by
  intro pins s σ H x y v u Q I rx ry h
  obtain ⟨d, ds, hd, he, sd, se, q⟩ := h
  obtain ⟨as, r1⟩ := Dp.reads I d x v hd rx
  obtain ⟨bs, r2⟩ := Dp.reads I (.tuple ds) y u he ry
  exact SeqAt.in_tuple_reads r2 r1 (canLay_tup se) (SeqAt.canLay_of_shaped sd) (Vs.room_in sd hu) ⟨.bl _, H, I, rfl, q⟩
theorem op_notInT (hu : X.A.units + 65 < cLine) : OpR X (compareOp .NotIn) (rInT X.K true) := by
  intro pins s σ H x y v u Q I rx ry h
  obtain ⟨d, ds, hd, he, sd, se, q⟩ := h
  obtain ⟨as, r1⟩ := Dp.reads I d x v hd rx
  obtain ⟨bs, r2⟩ := Dp.reads I (.tuple ds) y u he ry
  exact SeqAt.notIn_tuple_reads r2 r1 (canLay_tup se) (SeqAt.canLay_of_shaped sd) (Vs.room_in sd hu) ⟨.bl _, H, I, rfl, q⟩
def chr1 (a : Str) : Option Nat := match a.cps.toList with
  | [c] => some c
  | _ => none
def inD : Dt → Dt → Option Bool
  | .str a, .str b => (chr1 a).map fun c => decide (c ∈ b.cps.toList)
  | x, .list ys => if SeqAt.shaped x = true ∧ SeqAt.shaped (.list ys) = true then some (ys.any fun z => PyData.eqv z x) else none
  | x, .tuple ys => if SeqAt.shaped x = true ∧ SeqAt.shaped (.tuple ys) = true then some (ys.any fun z => PyData.eqv z x) else none
  | _, _ => none
theorem chr1_eq {a : Str} {c : Nat} (h : chr1 a = some c) : a = ⟨#[c]⟩ := by
  unfold chr1 at h
  split at h
  · rename_i c' e
    cases h
    obtain ⟨cps⟩ := a
    obtain ⟨l⟩ := cps
    simp at e
    subst e
    rfl
  · cases h
def gIn (x y : Dt) : Option Rv := (inD x y).map fun b => .d (.bool b)
def gNotIn (x y : Dt) : Option Rv := (inD x y).map fun b => .d (.bool (!b))
def rIn3 (K : PySem.W.Frag) : R2 := fun x y H Q => (∃ (c : Nat) (z : Str), x = .str ⟨#[c]⟩ ∧ y = .str z ∧ Q (.bl (decide (c ∈ z.cps.toList))) H) ∨ rInD K x y H Q ∨ rInT K false x y H Q
def rNotIn3 (K : PySem.W.Frag) : R2 := fun x y H Q => (∃ (c : Nat) (z : Str), x = .str ⟨#[c]⟩ ∧ y = .str z ∧ Q (.bl (!decide (c ∈ z.cps.toList))) H) ∨ rNotInD K x y H Q ∨ rInT K true x y H Q
theorem o_in (hu : X.A.units + 65 < cLine) : OpR X (compareOp .In) (rIn3 X.K) := op_in_sign.or ((op_inD hu).or (op_inT hu))
theorem o_notIn (hu : X.A.units + 65 < cLine) : OpR X (compareOp .NotIn) (rNotIn3 X.K) := op_notIn_sign.or ((op_notInD hu).or (op_notInT hu))
theorem s_in : OpSem G (rIn3 G.K) gIn := by
  intro S H x y z v w Q tr ov ow hg k
  unfold gIn inD at hg
  split at hg
  · rename_i a b
    cases hc : chr1 a with
    | none => rw [hc] at hg; cases hg
    | some c =>
      rw [hc] at hg
      cases hg
      have e := chr1_eq hc
      subst e
      exact .inl ⟨c, b, ov.str, ow.str, k [] _ H (NewV.same (.bl _))⟩
  · split at hg
    · cases hg
      rename_i h
      exact .inr (.inl ⟨_, _, dv_dp ov.dp (lay_of h.1), dv_dp ow.dp (lay_of h.2), h.1, h.2, k [] _ H (NewV.same (.bl _))⟩)
    · cases hg
  · split at hg
    · cases hg
      rename_i h
      exact .inr (.inr ⟨_, _, dv_dp ov.dp (lay_of h.1), dv_dp ow.dp (lay_of h.2), h.1, h.2, k [] _ H (NewV.same (.bl _))⟩)
    · cases hg
  · cases hg
theorem s_notIn : OpSem G (rNotIn3 G.K) gNotIn := by
  intro S H x y z v w Q tr ov ow hg k
  unfold gNotIn inD at hg
  split at hg
  · rename_i a b
    cases hc : chr1 a with
    | none => rw [hc] at hg; cases hg
    | some c =>
      rw [hc] at hg
      cases hg
      have e := chr1_eq hc
      subst e
      exact .inl ⟨c, b, ov.str, ow.str, k [] _ H (NewV.same (.bl _))⟩
  · split at hg
    · cases hg
      rename_i h
      exact .inr (.inl ⟨_, _, dv_dp ov.dp (lay_of h.1), dv_dp ow.dp (lay_of h.2), h.1, h.2, k [] _ H (NewV.same (.bl _))⟩)
    · cases hg
  · split at hg
    · cases hg
      rename_i h
      exact .inr (.inr ⟨_, _, dv_dp ov.dp (lay_of h.1), dv_dp ow.dp (lay_of h.2), h.1, h.2, k [] _ H (NewV.same (.bl _))⟩)
    · cases hg
  · cases hg
/-! ### is None -/
def isNone : Dt → Bool
  | .none => true
  | _ => false
def gIsN : Dt → Dt → Option Rv
  | x, .none => some (.d (.bool (isNone x)))
  | _, _ => none
def gNotN : Dt → Dt → Option Rv
  | x, .none => some (.d (.bool (!isNone x)))
  | _, _ => none
theorem op_nonV {x : Dt} (o : Op G S H v x) : decide (v = .non) = isNone x := by
  cases x with
  | none => rw [o.non]; rfl
  | bool b => rw [o.bl]; rfl
  | int b => rw [o.int]; rfl
  | str b => rw [o.str]; rfl
  | list xs => obtain ⟨a, vs, rfl, _⟩ := o.lst; rfl
  | tuple xs => obtain ⟨a, vs, rfl, _⟩ := o.tup; rfl
  | dict kvs =>
    rcases o with h | ⟨a, vs, xs, rfl, e, _⟩
    · cases h; rfl
    · cases e
theorem s_isN : OpSem G (fun x y H Q => y = .non ∧ Q (.bl (decide (x = .non))) H) gIsN := by
  intro S H x y z v w Q tr ov ow hg k
  unfold gIsN at hg
  split at hg
  · cases hg
    exact ⟨ow.non, by rw [op_nonV ov]; exact k [] _ H (NewV.same (.bl _))⟩
  · cases hg
theorem s_notN : OpSem G (fun x y H Q => y = .non ∧ Q (.bl (!decide (x = .non))) H) gNotN := by
  intro S H x y z v w Q tr ov ow hg k
  unfold gNotN at hg
  split at hg
  · cases hg
    exact ⟨ow.non, by rw [op_nonV ov]; exact k [] _ H (NewV.same (.bl _))⟩
  · cases hg
/-! ### xs[i], xs[lo:hi] -/
def okS (z : Str) : Bool := decide (z.length ≤ 1000000)
theorem okS_le {z : Str} (h : okS z = true) : z.length ≤ sizeLine := Nat.le_trans (of_decide_eq_true h) (by decide)
def gIx : Dt → Dt → Option Rv
  | .list xs, .int i => (atI xs i).map .d
  | .tuple xs, .int i => (atI xs i).map .d
  | .str z, .int i => if okS z then (atI z.cps.toList i).map fun c => .d (.str ⟨#[c]⟩) else none
  | _, _ => none
theorem atI_dpa {K : PySem.W.Frag} {vs : List V} {xs : List Dt} {i : Int} {x : Dt} (d : DvAll K H vs xs) (e : atI xs i = some x) : ∃ v, atI vs i = some v ∧ Dv K H v x := by
  unfold atI at e ⊢
  rw [dpa_len d]
  cases h : ixN xs.length i with
  | none => rw [h] at e; cases e
  | some j =>
    rw [h] at e
    exact dpa_at d e
theorem s_ix : OpSem G (rIx G.K) gIx := by
  intro S H x y z v w Q tr ov ow hg k
  unfold gIx at hg
  split at hg
  · rename_i xs i
    cases e : atI xs i with
    | none => rw [e] at hg; cases hg
    | some x =>
      rw [e] at hg
      cases hg
      obtain ⟨a, vs, rfl, h1, d1⟩ := ov.lst
      obtain ⟨u, hu, du⟩ := atI_dpa d1 e
      exact .inl ⟨a, vs, i, u, rfl, ow.int, SqL.of h1, hu, k [] _ H (NewV.same du)⟩
  · rename_i xs i
    cases e : atI xs i with
    | none => rw [e] at hg; cases hg
    | some x =>
      rw [e] at hg
      cases hg
      obtain ⟨a, vs, rfl, h1, h2, d1⟩ := ov.tup
      obtain ⟨u, hu, du⟩ := atI_dpa d1 e
      exact .inr (.inl ⟨a, vs, i, u, rfl, ow.int, h1, hu, k [] _ H (NewV.same du)⟩)
  · rename_i zz i
    split at hg
    · cases e : atI zz.cps.toList i with
      | none => rw [e] at hg; cases hg
      | some c =>
        rw [e] at hg
        cases hg
        exact .inr (.inr ⟨zz, i, c, ov.str, ow.int, okS_le ‹_›, e, k [] _ H (NewV.same (.str _))⟩)
    · cases hg
  · cases hg
def cutD (xs : List Dt) (lo hi : Option Int) : List Dt := (xs.drop (HT.sIx xs.length 0 lo)).take (HT.sIx xs.length xs.length hi - HT.sIx xs.length 0 lo)
def gSl : Dt → Option Int → Option Int → Option Rv
  | .list xs, lo, hi => some (.o (cutD xs lo hi))
  | .tuple xs, lo, hi => some (.d (.tuple (cutD xs lo hi)))
  | .str z, lo, hi => if okS z then some (.d (.str (cutS z lo hi))) else none
  | _, _, _ => none
def rSl3 (K : PySem.W.Frag) : V → Option Int → Option Int → Hp → VK → Prop := fun x lo hi H Q => rSlL K x lo hi H Q ∨ rSlA K x lo hi H Q ∨ rSlS x lo hi H Q
theorem o_sl : SlR X (rSl3 X.K) := sl_list.or (sl_tupA.or sl_str)
theorem dpa_cut {K : PySem.W.Frag} {vs : List V} {xs : List Dt} (d : DvAll K H vs xs) (lo hi : Option Int) : DvAll K H (cutV vs lo hi) (cutD xs lo hi) := by
  unfold cutV cutD
  rw [dpa_len d]
  exact dpa_take _ (dpa_drop _ d)
theorem s_sl : SlSem G (rSl3 G.K) gSl := by
  intro S H x lo hi z v Q tr ov hg k
  unfold gSl at hg
  split at hg
  · cases hg
    obtain ⟨a, vs, rfl, h1, d1⟩ := ov.lst
    exact .inl ⟨a, vs, rfl, SqL.of h1, fun p hp => k _ _ _ (NewV.lst tr hp (dpa_cut d1 _ _))⟩
  · cases hg
    obtain ⟨a, vs, rfl, h1, h2, d1⟩ := ov.tup
    refine .inr (.inl ⟨a, vs, rfl, h1, fun hw => ?_, fun hw p hp => k [] _ _ (NewV.tup tr hp (dpa_cut d1 _ _))⟩)
    rename_i xs
    rw [dpa_len d1] at hw
    have e : cutD xs lo hi = xs := by
      unfold cutD
      rw [hw.1, hw.2, List.drop_zero, Nat.sub_zero, List.take_length]
    rw [e] at k
    exact k [] _ H (NewV.same (.tup h2 d1))
  · split at hg
    · cases hg
      exact .inr (.inr ⟨_, ov.str, okS_le ‹_›, k [] _ H (NewV.same (.str _))⟩)
    · cases hg
  · cases hg
end
end Vs
/-! # VsL -/
set_option Elab.async false
set_option linter.all false
set_option maxRecDepth 100000
set_option maxHeartbeats 4000000
/-! Vs, part L: built-in functions on data. -/
namespace Vs
open PySem L2 PySem.Spec PyProof.Rows
open Evl (Ex)
section
variable {G : Gi} {xa : Xa} {W : WX} {X : Cx} {S : List Addr} {H : Hp} {v w : V}
theorem OpAll.one {vs : List V} {x : Dt} (o : OpAll G S H vs [x]) : ∃ v, vs = [v] ∧ Op G S H v x := by
  cases o with
  | cons o1 o2 =>
    cases o2
    exact ⟨_, rfl, o1⟩
theorem OpAll.two {vs : List V} {x y : Dt} (o : OpAll G S H vs [x, y]) : ∃ v w, vs = [v, w] ∧ Op G S H v x ∧ Op G S H w y := by
  cases o with
  | cons o1 o2 =>
    cases o2 with
    | cons o2 o3 =>
      cases o3
      exact ⟨_, _, rfl, o1, o2⟩
def gLen : List Dt → Option Rv
  | [.list xs] => some (.d (.int xs.length))
  | [.tuple xs] => some (.d (.int xs.length))
  | [.str z] => if okS z then some (.d (.int z.length)) else none
  | _ => none
theorem s_len : CallSem G (fun xs H Q => ∃ x n, xs = [x] ∧ LenV G.K x H n ∧ Q (.int n) H) gLen := by
  intro S H xs z vs Q tr o hg k
  unfold gLen at hg
  split at hg
  · cases hg
    obtain ⟨v, rfl, ov⟩ := o.one
    obtain ⟨a, us, rfl, h1, d1⟩ := ov.lst
    exact ⟨_, _, rfl, .inl ⟨us, SqL.of h1, (dpa_len d1).symm⟩, k [] _ H (NewV.same (.int _))⟩
  · cases hg
    obtain ⟨v, rfl, ov⟩ := o.one
    obtain ⟨a, us, rfl, h1, h2, d1⟩ := ov.tup
    exact ⟨_, _, rfl, .inr ⟨us, h1, (dpa_len d1).symm⟩, k [] _ H (NewV.same (.int _))⟩
  · split at hg
    · cases hg
      obtain ⟨v, rfl, ov⟩ := o.one
      rw [ov.str]
      exact ⟨_, _, rfl, ⟨okS_le ‹_›, rfl⟩, k [] _ H (NewV.same (.int _))⟩
    · cases hg
  · cases hg
def gList : List Dt → Option Rv
  | [.list xs] => some (.o xs)
  | [.tuple xs] => some (.o xs)
  | _ => none
theorem s_list : CallSem G (fun xs H Q => ∃ p ys, xs = [.ref p] ∧ (SqL G.K H p ys ∨ SqT G.K H p ys) ∧ ∀ l, H l = none → Q (.ref l) (upd H l (.lst ys))) gList := by
  intro S H xs z vs Q tr o hg k
  unfold gList at hg
  split at hg
  · cases hg
    obtain ⟨v, rfl, ov⟩ := o.one
    obtain ⟨a, us, rfl, h1, d1⟩ := ov.lst
    exact ⟨_, _, rfl, .inl (SqL.of h1), fun p hp => k _ _ _ (NewV.lst tr hp d1)⟩
  · cases hg
    obtain ⟨v, rfl, ov⟩ := o.one
    obtain ⟨a, us, rfl, h1, h2, d1⟩ := ov.tup
    exact ⟨_, _, rfl, .inr h1, fun p hp => k _ _ _ (NewV.lst tr hp d1)⟩
  · cases hg
def gTuple : List Dt → Option Rv
  | [.list xs] => some (.d (.tuple xs))
  | [.tuple xs] => some (.d (.tuple xs))
  | _ => none
theorem s_tuple : CallSem G (fun xs H Q => ∃ p ys, xs = [.ref p] ∧ ((SqL G.K H p ys ∧ ∀ l, H l = none → Q (.ref l) (upd H l (.tup ys))) ∨ (SqT G.K H p ys ∧ Q (.ref p) H))) gTuple := by
  intro S H xs z vs Q tr o hg k
  unfold gTuple at hg
  split at hg
  · cases hg
    obtain ⟨v, rfl, ov⟩ := o.one
    obtain ⟨a, us, rfl, h1, d1⟩ := ov.lst
    exact ⟨_, _, rfl, .inl ⟨SqL.of h1, fun p hp => k _ _ _ (NewV.tup tr hp d1)⟩⟩
  · cases hg
    obtain ⟨v, rfl, ov⟩ := o.one
    obtain ⟨a, us, rfl, h1, h2, d1⟩ := ov.tup
    exact ⟨_, _, rfl, .inr ⟨h1, k [] _ H (NewV.same (.tup h2 d1))⟩⟩
  · cases hg
/-- all bools -/
def bools : List Dt → Option (List Bool)
  | [] => some []
  | .bool b :: r => (bools r).map (b :: ·)
  | _ => none
theorem bools_vs {K : PySem.W.Frag} : ∀ {vs : List V} {xs : List Dt} {bs : List Bool}, DvAll K H vs xs → bools xs = some bs → vs = bs.map V.bl
  | _, _, bs, .nil, e => by cases e; rfl
  | _, _, bs, .cons h t, e => by
    cases h with
    | bl b =>
      unfold bools at e
      rename_i xs
      cases hb : bools xs with
      | none => rw [hb] at e; cases e
      | some cs =>
        rw [hb] at e
        cases e
        rw [bools_vs t hb]
        rfl
    | _ => cases e
def gAllB : List Dt → Option Rv
  | [.list xs] => (bools xs).map fun bs => .d (.bool (bs.all id))
  | _ => none
def gAnyB : List Dt → Option Rv
  | [.list xs] => (bools xs).map fun bs => .d (.bool (bs.any id))
  | _ => none
theorem s_all : CallSem G (rAll G.K) gAllB := by
  intro S H xs z vs Q tr o hg k
  unfold gAllB at hg
  split at hg
  · rename_i ys
    cases hb : bools ys with
    | none => rw [hb] at hg; cases hg
    | some bs =>
      rw [hb] at hg
      cases hg
      obtain ⟨v, rfl, ov⟩ := o.one
      obtain ⟨a, us, rfl, h1, d1⟩ := ov.lst
      have e := bools_vs d1 hb
      subst e
      exact ⟨a, bs, rfl, SqL.of h1, k [] _ H (NewV.same (.bl _))⟩
  · cases hg
theorem s_any : CallSem G (rAny G.K) gAnyB := by
  intro S H xs z vs Q tr o hg k
  unfold gAnyB at hg
  split at hg
  · rename_i ys
    cases hb : bools ys with
    | none => rw [hb] at hg; cases hg
    | some bs =>
      rw [hb] at hg
      cases hg
      obtain ⟨v, rfl, ov⟩ := o.one
      obtain ⟨a, us, rfl, h1, d1⟩ := ov.lst
      have e := bools_vs d1 hb
      subst e
      exact ⟨a, bs, rfl, SqL.of h1, k [] _ H (NewV.same (.bl _))⟩
  · cases hg
def gMin : List Dt → Option Rv
  | [.int i, .int j] => some (.d (.int (if j < i then j else i)))
  | _ => none
def gMax : List Dt → Option Rv
  | [.int i, .int j] => some (.d (.int (if j > i then j else i)))
  | _ => none
theorem s_min : CallSem G (fun xs H Q => ∃ i j, xs = [.int i, .int j] ∧ Q (.int (if j < i then j else i)) H) gMin := by
  intro S H xs z vs Q tr o hg k
  unfold gMin at hg
  split at hg
  · cases hg
    obtain ⟨v, w, rfl, ov, ow⟩ := o.two
    rw [ov.int, ow.int]
    exact ⟨_, _, rfl, k [] _ H (NewV.same (.int _))⟩
  · cases hg
theorem s_max : CallSem G (fun xs H Q => ∃ i j, xs = [.int i, .int j] ∧ Q (.int (if j > i then j else i)) H) gMax := by
  intro S H xs z vs Q tr o hg k
  unfold gMax at hg
  split at hg
  · cases hg
    obtain ⟨v, w, rfl, ov, ow⟩ := o.two
    rw [ov.int, ow.int]
    exact ⟨_, _, rfl, k [] _ H (NewV.same (.int _))⟩
  · cases hg
def gInt : List Dt → Option Rv
  | [.int i] => some (.d (.int i))
  | [.bool b] => some (.d (.int (if b then 1 else 0)))
  | _ => none
theorem s_int : CallSem G (fun xs H Q => (∃ i, xs = [.int i] ∧ Q (.int i) H) ∨ ∃ k, xs = [.bl k] ∧ Q (.int (if k then 1 else 0)) H) gInt := by
  intro S H xs z vs Q tr o hg k
  unfold gInt at hg
  split at hg
  · cases hg
    obtain ⟨v, rfl, ov⟩ := o.one
    rw [ov.int]
    exact .inl ⟨_, rfl, k [] _ H (NewV.same (.int _))⟩
  · cases hg
    obtain ⟨v, rfl, ov⟩ := o.one
    rw [ov.bl]
    exact .inr ⟨_, rfl, k [] _ H (NewV.same (.int _))⟩
  · cases hg
def gAbs : List Dt → Option Rv
  | [.int i] => some (.d (.int (if i < 0 then -i else i)))
  | _ => none
theorem s_abs : CallSem G (fun xs H Q => ∃ i, xs = [.int i] ∧ Q (.int (if i < 0 then -i else i)) H) gAbs := by
  intro S H xs z vs Q tr o hg k
  unfold gAbs at hg
  split at hg
  · cases hg
    obtain ⟨v, rfl, ov⟩ := o.one
    rw [ov.int]
    exact ⟨_, rfl, k [] _ H (NewV.same (.int _))⟩
  · cases hg

/-! ### repr of data -/
mutual
theorem dv_reads {pins : List (Addr × Obj)} {σ : L2.St} {s : Shared} (I : Inv X pins σ H s) (hsm : H sysModules = none) : ∀ {x : Dt} {v : V} {u : Value}, Dv X.K H v x → RelV v u → ∃ as, Reads s.heap u x as ∧ sysModules ∉ as
  | _, _, _, .non, r => by cases r; exact ⟨_, Reads.none, by simp⟩
  | _, _, _, .bl b, r => by cases r; exact ⟨_, Reads.bool b, by simp⟩
  | _, _, _, .int i, r => by obtain ⟨t, rfl⟩ := r; exact ⟨_, Reads.int i t, by simp⟩
  | _, _, _, .str z, r => by obtain ⟨t, rfl⟩ := r; exact ⟨_, Reads.str z t, by simp⟩
  | _, _, _, .lst (a := a) h d, r => by
    cases r
    obtain ⟨its, rv, ⟨o, n, ho, hc, _, hd⟩, _⟩ := I.list (SqL.of h)
    obtain ⟨as, hr, hn⟩ := dva_reads I hsm d rv
    refine ⟨_, Reads.list ho hc hd hr, fun m => ?_⟩
    rcases List.mem_cons.mp m with e | m
    · rw [← e, hsm] at h; cases h
    · exact hn m
  | _, _, _, .tup h d, r => by
    cases r
    obtain ⟨its, rv, ⟨o, ho, hc, n, hd⟩, _⟩ := I.tuple h
    obtain ⟨as, hr, hn⟩ := dva_reads I hsm d rv
    exact ⟨_, Reads.tuple ho hc hd hr, hn⟩
  | _, _, _, .dct (a := a) (s := z) (v := v) (x := x) h d, r => by
    cases r
    obtain ⟨_, hsy, vs, kv, o, es, ep, ho, hx, hdt, hk, hp, _⟩ := dk_of I.hok h
    cases kv with
    | @cons p q ps qs e t =>
      cases t
      obtain ⟨e1, e2⟩ := e
      obtain ⟨as, hr, hn⟩ := dv_reads I hsm d e2
      obtain ⟨es⟩ := es
      cases hp with
      | @cons en _ es' _ k1 k2 k3 =>
        cases k3
        have hks : ∃ t, en.key = .str z t := by
          have hi : keyIs q.1 en.key = true := k1
          rw [← e1] at hi
          rcases keyIs_shape hi with ⟨i, t, e, _⟩ | ⟨y, t, e, e'⟩
          · cases e
          · cases e
            exact ⟨t, e'⟩
        obtain ⟨tk, ek⟩ := hks
        have hv : en.val = q.2 := k2
        refine ⟨_, Reads.dict (as := []) (bs := as) ho hx.1 hdt ?_ ?_, fun m => ?_⟩
        · show ReadsAll s.heap [en.key] [.str z] []
          rw [ek]
          exact ReadsAll.cons (Reads.str z tk) ReadsAll.nil
        · show ReadsAll s.heap [en.val] [x] as
          rw [hv]
          have := ReadsAll.cons hr ReadsAll.nil
          rw [List.append_nil] at this
          exact this
        · rcases List.mem_cons.mp m with e | m
          · rw [← e, hsm] at h; cases h
          · exact hn (by simpa using m)
theorem dva_reads {pins : List (Addr × Obj)} {σ : L2.St} {s : Shared} (I : Inv X pins σ H s) (hsm : H sysModules = none) : ∀ {xs : List Dt} {vs : List V} {us : List Value}, DvAll X.K H vs xs → Vals vs us → ∃ as, ReadsAll s.heap us xs as ∧ sysModules ∉ as
  | _, _, _, .nil, r => by cases r; exact ⟨_, ReadsAll.nil, by simp⟩
  | _, _, _, .cons h t, r => by
    cases r with
    | cons r1 r2 =>
      obtain ⟨as, q1, n1⟩ := dv_reads I hsm h r1
      obtain ⟨bs, q2, n2⟩ := dva_reads I hsm t r2
      refine ⟨_, ReadsAll.cons q1 q2, fun m => ?_⟩
      rcases List.mem_append.mp m with m | m
      · exact n1 m
      · exact n2 m
end
def okRepr (x : Dt) : Bool := x.showable && decide (x.depth ≤ 60) && decide (x.shown.length ≤ 16000000)
def rRepr (K : PySem.W.Frag) : List V → Hp → VK → Prop := fun vs H Q => ∃ v x, vs = [v] ∧ Dv K H v x ∧ okRepr x = true ∧ Q (.str x.shown) H
theorem cr_repr (hgu : X.A.guards = some []) (hu : X.A.units + 64 < cLine) (hb : ∃ o, X.base.get? sysModules = some o) : CallR X (.builtin "repr") (rRepr X.K) := by
  intro pins s σ H vs us Q I r h
  obtain ⟨v, x, rfl, d, hk, q⟩ := h
  obtain ⟨u, rfl, rx⟩ := vals1 r
  obtain ⟨ob, hb⟩ := hb
  have hsm : H sysModules = none := (I.bs _ _ hb).2
  unfold okRepr at hk
  rw [Bool.and_eq_true, Bool.and_eq_true] at hk
  obtain ⟨⟨h1, h2⟩, h3⟩ := hk
  have h2 := of_decide_eq_true h2
  have h3 := of_decide_eq_true h3
  obtain ⟨as, hr, hn⟩ := dv_reads I hsm d rx
  have hz : x.shown.length ≤ sizeLine := Nat.le_trans h3 (by decide)
  have ref : ∀ {a : Addr}, u = .ref a → wpAny (model X.prog X.w) X.A (call (.builtin "repr") [u]) (EP X pins σ Q) X.xe s := fun {a} e => by
    subst e
    exact repr_of_reads' hr h1 (fun _ => hn) hgu (by omega) (fun _ _ z => z) (fun h' u' tk hk => ⟨.str x.shown, H, I.kept (t' := tk) hk, ⟨_, rfl⟩, q⟩) hz
  cases d with
  | non => cases rx; exact PySem.P.repr_of_none ⟨.str _, H, I.tok _, ⟨_, rfl⟩, q⟩
  | bl b => cases rx; exact PySem.P.repr_of_bool ⟨.str _, H, I.tok _, ⟨_, rfl⟩, q⟩
  | int i => obtain ⟨t, rfl⟩ := rx; exact PySem.P.repr_of_int (by simpa [PyData.showable] using h1) ⟨.str _, H, I.tok _, ⟨_, rfl⟩, q⟩
  | str z => obtain ⟨t, rfl⟩ := rx; exact PySem.P.repr_of_str ⟨.str _, H, I.tok _, ⟨_, rfl⟩, q⟩ hz
  | lst h d => exact ref rx
  | tup h d => exact ref rx
  | dct h d => exact ref rx
def gRepr : List Dt → Option Rv
  | [x] => if okRepr x then some (.d (.str x.shown)) else none
  | _ => none
theorem s_repr : CallSem G (rRepr G.K) gRepr := by
  intro S H xs z vs Q tr o hg k
  unfold gRepr at hg
  split at hg
  · split at hg
    · cases hg
      obtain ⟨v, rfl, ov⟩ := o.one
      exact ⟨v, _, rfl, ov.dp, ‹_›, k [] _ H (NewV.same (.str _))⟩
    · cases hg
  · cases hg
end
end Vs
/-! # VsM -/
set_option Elab.async false
set_option linter.all false
set_option maxRecDepth 100000
set_option maxHeartbeats 4000000
/-! Vs, part M: isinstance, further iterators, dict displays, methods, the script. -/
namespace Vs
open PySem L2 PySem.Spec PyProof.Rows
open Evl (Ex)
/-! ### isinstance -/
def tyN : Dt → String
  | .none => "NoneType"
  | .bool _ => "bool"
  | .int _ => "int"
  | .str _ => "str"
  | .list _ => "list"
  | .tuple _ => "tuple"
  | .dict _ => "dict"
def isN (c t : String) : Bool := t == c || (t == "bool" && c == "int")
def isT (c : String) (x : Dt) : Bool := isN c (tyN x)
def knownC (c : String) : Bool := c == "int" || c == "bool" || c == "str" || c == "list" || c == "tuple"
theorem kit_one {K : PySem.W.Frag} {c : String} (h : knownC c = true) (x : Dt) : PySem.W.kitOne K (.type (tyN x)) (.type c) = some (isT c x) := by
  have hc : c = "int" ∨ c = "bool" ∨ c = "str" ∨ c = "list" ∨ c = "tuple" := by
    unfold knownC at h
    simp only [Bool.or_eq_true, beq_iff_eq] at h
    rcases h with (((h | h) | h) | h) | h
    · exact .inl h
    · exact .inr (.inl h)
    · exact .inr (.inr (.inl h))
    · exact .inr (.inr (.inr (.inl h)))
    · exact .inr (.inr (.inr (.inr h)))
  have ht : ∀ t ∈ ["NoneType", "bool", "int", "str", "list", "tuple", "dict"], kitB t c = some (isN c t) := by
    rcases hc with rfl | rfl | rfl | rfl | rfl <;> decide +kernel
  have hx : tyN x ∈ ["NoneType", "bool", "int", "str", "list", "tuple", "dict"] := by cases x <;> simp [tyN]
  exact kit_ty (ht _ hx)
section
variable {G : Gi} {xa : Xa} {W : WX} {X : Cx} {S : List Addr} {H : Hp} {v w : V} {F : List Addr} {E : En} {σ : L2.St}
theorem ty_of {x : Dt} (d : Dv G.K H v x) : TyX G.K H v (.type (tyN x)) := by
  cases d with
  | non => exact .base .non
  | bl b => exact .base (.bl b)
  | int i => exact .base (.int i)
  | str s => exact .base (.str s)
  | lst h _ => exact .base (.lst h)
  | tup h _ =>
    rcases h with (h | ⟨o, h⟩) | ⟨o, its, n, h1, h2, _⟩
    · exact .base (.tup h)
    · exact .fTuple h
    · exact .kTuple h1 h2
  | dct h _ => exact .base (.dK h)
theorem pe_cls {x : Str} {n : String} {p : Pos} (hg : Gl X x) (hm : X.mg x = none) (hv : bootBuiltins x = some (.type n)) (hn : x ≠ "__name__" := by decide) (hd : (x == ("__debug__" : Str)) = false := by decide) : PE X (.Name x p) (tC (.ty n)) :=
  ⟨fun pins s σ H Q I h => ld_blt I hg hm hv ⟨.ty n, H, I, rfl, h⟩ hn hd⟩
def gIsi (c : String) (x : Dt) : Option Rv := some (.d (.bool (isT c x)))
def gIsi2 (c c' : String) (x : Dt) : Option Rv := some (.d (.bool (isT c x || isT c' x)))
theorem isi_imp {c : String} (hK : X.K = G.K) (hc : knownC c = true) {me : M Rv} : ∀ σ H Q, tE G xa W (e1 (gIsi c) me) σ H Q → tCB (rIsi X.K) (tCons (tE G xa W me) (tCons (tC (.ty c)) tNil)) σ H Q := by
  rintro σ H Q ⟨F, E, er, h⟩
  refine tE.go er ?_
  unfold e1 bnd at h
  cases hm : me E with
  | no => rw [hm] at h; exact h
  | ex c x E' => rw [hm] at h; exact h
  | ok r1 E1 =>
    rw [hm] at h
    intro v1 H1 er1 st1 vr1
    simp only [Rs.go, val] at h
    cases hx : peek (fz r1) E1 with
    | none => rw [hx] at h; exact h.elim
    | some x =>
      rw [hx] at h
      simp only at h
      refine ⟨v1, .ty c, _, _, isT c x, rfl, .ty c, ?_, kit_one hc x, h [] _ H1 er1 st1 ⟨rfl, .bl _⟩⟩
      rw [hK]
      exact ty_of (vr1.op er1 hx).dp
theorem ce_isi {c : String} {x : Str} {e : Expr} {me : M Rv} {p p2 pos : Pos} (hK : X.K = G.K) (hc : knownC c = true) (hg : Gl X "isinstance") (hm : X.mg "isinstance" = none) (he : PE X e (tE G xa W me)) (hgx : Gl X x) (hmx : X.mg x = none) (hv : bootBuiltins x = some (.type c))
    (hn : x ≠ "__name__" := by decide) (hd : (x == ("__debug__" : Str)) = false := by decide) (hs : starEach [e, .Name x p2] X.env = (false, eval e X.env) :: starEach [.Name x p2] X.env := by rfl) (hs2 : starEach [.Name x p2] X.env = (false, eval (.Name x p2) X.env) :: starEach [] X.env := by rfl)
    (hpl : (backTo pos (starEach [.Name x p2] X.env)).any (·.1) = false := by rfl) :
    PE X (.Call (.Name "isinstance" p) [e, .Name x p2] [] pos) (tE G xa W (e1 (gIsi c) me)) :=
  imE (pe_callB call_isi hg hm PyProof.Rows.boot_isinstance (pa_cons he (pa_cons (pe_cls hgx hmx hv hn hd) pa_nil hs2) hs) (by decide) (by decide) hs hpl) (isi_imp hK hc)
theorem isi2_imp {c c' : String} (hK : X.K = G.K) (hc : knownC c = true) (hc' : knownC c' = true) {me : M Rv} : ∀ σ H Q, tE G xa W (e1 (gIsi2 c c') me) σ H Q → tCB (rIsiT X.K) (tCons (tE G xa W me) (tCons (tTup (tCons (tC (.ty c)) (tCons (tC (.ty c')) tNil))) tNil)) σ H Q := by
  rintro σ H Q ⟨F, E, er, h⟩
  refine tE.go er ?_
  unfold e1 bnd at h
  cases hm : me E with
  | no => rw [hm] at h; exact h
  | ex c x E' => rw [hm] at h; exact h
  | ok r1 E1 =>
    rw [hm] at h
    intro v1 H1 er1 st1 vr1
    simp only [Rs.go, val] at h
    cases hx : peek (fz r1) E1 with
    | none => rw [hx] at h; exact h.elim
    | some x =>
      rw [hx] at h
      simp only at h
      refine ⟨(show 2 ≤ sizeLine by decide), fun p hp => ⟨v1, p, _, .type (tyN x), [.type c, .type c'], isT c x || isT c' x, rfl, upd_same, .cons (.ty c) (.cons (.ty c') .nil), ?_, ?_, ?_⟩⟩
      · rw [hK]
        have n : Nw (F ++ own E1 σ) [] H1 (upd H1 p (.tup [.ty c, .ty c'])) := Nw.newD (trOf er1) hp
        have e : Ex H1 (upd H1 p (.tup [.ty c, .ty c'])) := Evl.Ex.new hp
        exact ty_of ((vr1.op er1 hx).dp.up e)
      · cases h1 : isT c x with
        | true => exact kitAny_cons ((kit_one hc x).trans (by rw [h1])) (fun z => by cases z) (fun _ => rfl)
        | false => exact kitAny_cons ((kit_one hc x).trans (by rw [h1])) (fun _ => kitAny_cons ((kit_one hc' x).trans rfl) (fun z => by rw [z]; rfl) (fun z => by rw [z]; rfl)) (fun z => by cases z)
      · have n : Nw (F ++ own E1 σ) [] H1 (upd H1 p (.tup [.ty c, .ty c'])) := Nw.newD (trOf er1) hp
        exact h [] _ _ (er1.new n) (st1.trans n.stp) ⟨rfl, .bl _⟩
theorem ce_isi2 {c c' : String} {x x' : Str} {e : Expr} {me : M Rv} {k : Nat} {p p2 p3 p4 pos : Pos} (hK : X.K = G.K) (hc : knownC c = true) (hc' : knownC c' = true) (hg : Gl X "isinstance") (hm : X.mg "isinstance" = none) (he : PE X e (tE G xa W me)) (hgx : Gl X x) (hmx : X.mg x = none) (hv : bootBuiltins x = some (.type c))
    (hgx' : Gl X x') (hmx' : X.mg x' = none) (hv' : bootBuiltins x' = some (.type c')) (hn : x ≠ "__name__" := by decide) (hd : (x == ("__debug__" : Str)) = false := by decide) (hn' : x' ≠ "__name__" := by decide) (hd' : (x' == ("__debug__" : Str)) = false := by decide)
    (hs : starEach [e, .Tuple [.Name x p2, .Name x' p3] k p4] X.env = (false, eval e X.env) :: starEach [.Tuple [.Name x p2, .Name x' p3] k p4] X.env := by rfl)
    (hs2 : starEach [.Tuple [.Name x p2, .Name x' p3] k p4] X.env = (false, eval (.Tuple [.Name x p2, .Name x' p3] k p4) X.env) :: starEach [] X.env := by rfl)
    (hs3 : starEach [.Name x p2, .Name x' p3] X.env = (false, eval (.Name x p2) X.env) :: starEach [.Name x' p3] X.env := by rfl) (hs4 : starEach [.Name x' p3] X.env = (false, eval (.Name x' p3) X.env) :: starEach [] X.env := by rfl)
    (hpl : (backTo pos (starEach [.Tuple [.Name x p2, .Name x' p3] k p4] X.env)).any (·.1) = false := by rfl) :
    PE X (.Call (.Name "isinstance" p) [e, .Tuple [.Name x p2, .Name x' p3] k p4] [] pos) (tE G xa W (e1 (gIsi2 c c') me)) :=
  imE (pe_callB call_isiT hg hm PyProof.Rows.boot_isinstance (pa_cons he (pa_cons (pe_tup (pa_cons (pe_cls hgx hmx hv hn hd) (pa_cons (pe_cls hgx' hmx' hv' hn' hd') pa_nil hs4) hs3)) pa_nil hs2) hs) (by decide) (by decide) hs hpl) (isi2_imp hK hc hc')

/-! ### further iterators -/
def enumD : Nat → List Dt → List Dt
  | _, [] => []
  | k, x :: xs => .tuple [.int (k : Nat), x] :: enumD (k + 1) xs
theorem enumD_len : ∀ (k : Nat) (xs : List Dt), (enumD k xs).length = xs.length
  | _, [] => rfl
  | k, x :: xs => congrArg (· + 1) (enumD_len (k + 1) xs)
theorem enumD_at : ∀ {k : Nat} {xs : List Dt} {i : Nat} {y : Dt}, (enumD k xs)[i]? = some y → ∃ x, xs[i]? = some x ∧ y = .tuple [.int ((k + i : Nat) : Int), x]
  | _, [], i, y, h => by simp [enumD] at h
  | k, x :: xs, 0, y, h => by simp [enumD] at h; exact ⟨x, rfl, h.symm⟩
  | k, x :: xs, i + 1, y, h => by
    have h' : (enumD (k + 1) xs)[i]? = some y := by simpa [enumD] using h
    obtain ⟨z, h1, h2⟩ := enumD_at h'
    exact ⟨z, by simpa using h1, by rw [h2, show k + 1 + i = k + (i + 1) by omega]⟩
def iEn (me : M Rv) : M (List Dt) := bnd me fun r => bnd (keep (fz r)) fun x => match x with
  | .list xs => ret (enumD 0 xs)
  | _ => fail
theorem ite_ok {K : PySem.W.Frag} (hK : K = G.K) {a : Addr} {vs : List V} {xs : List Dt} (h : vis F E σ H a = some (.lst vs)) (d : DvAll G.K (vis F E σ H) vs xs) : ItOk G F E σ H (Ite K a) (enumD 0 xs) := by
  subst hK
  refine ⟨fun i F' E' σ' H' y tr e hy => ?_, fun i F' E' σ' H' e hi => ⟨vs, SqL.of (ex_hid0 _ _ (e _ _ h)), by rw [dpa_len d]; rw [enumD_len] at hi; exact hi⟩⟩
  obtain ⟨x, hx, rfl⟩ := enumD_at hy
  obtain ⟨v, hv, dx⟩ := dpa_at d hx
  have hs : SqL G.K H' a vs := SqL.of (ex_hid0 _ _ (e _ _ h))
  refine ⟨⟨vs, v, hs, hv⟩, fun w H2 hy => ?_⟩
  obtain ⟨T, u, rfl, hT, rfl, hw⟩ := hy
  have eu : u = v := by
    have := hw vs hs
    rw [hv] at this
    exact (Option.some.inj this).symm
  subst eu
  have n : Nw (F' ++ own E' σ') [] H' (upd H' T (.tup [.int (i : Nat), u])) := Nw.newD tr hT
  refine ⟨n, .tup (vs := [.int (i : Nat), u]) (SqT.of ?_) ?_⟩
  · show hid (F' ++ own E' σ') _ T = _
    rw [hid_out (fun z => tr T z hT), upd_same]
  · rw [Nat.zero_add]
    exact .cons (.int _) (.cons ((dx.up e).up n.fr) .nil)
theorem ci_enum {e : Expr} {me : M Rv} {p pos tpos : Pos} {elts : List Expr} {kk : Nat} (hK : X.K = G.K) (hg : Gl X "enumerate") (hm : X.mg "enumerate" = none) (he : PE X e (tE G xa W me)) (hs : starEach [e] X.env = [(false, eval e X.env)] := by rfl) :
    PI X (.Tuple elts kk tpos) (.Call (.Name "enumerate" p) [e] [] pos) (tI G xa W (iEn me)) := imI (pi_enum hg hm (pa_cons he pa_nil hs) hs) fun σ H R => by
  rintro ⟨F, E, er, h⟩
  refine tE.go er ?_
  unfold iEn bnd at h
  cases hm : me E with
  | no => rw [hm] at h; exact h
  | ex c x E' => rw [hm] at h; exact h
  | ok r E1 =>
    rw [hm] at h
    simp only [Rs.go] at h
    intro v H1 er1 st1 vr1
    cases hk : keep (fz r) E1 with
    | no => rw [hk] at h; exact h.elim
    | ex c x E' => exact absurd hk keep_ex
    | ok x E2 =>
      rw [hk] at h
      simp only at h
      cases x with
      | list xs =>
        obtain ⟨er2, st2, d⟩ := keepV er1 vr1 hk
        cases d with
        | lst hs ds => exact ⟨_, _, rfl, SqL.of (ex_hid0 _ _ hs), h _ _ er2 (st1.trans st2) (ite_ok hK hs ds)⟩
      | _ => exact h.elim
/-- a text's signs -/
def chars (z : Str) : List Dt := z.cps.toList.map fun c => .str ⟨#[c]⟩
def iCh (me : M Rv) : M (List Dt) := bnd me fun r => bnd (val (fz r)) fun x => match x with
  | .str z => ret (chars z)
  | _ => fail
theorem its_ok {z : Str} : ItOk G F E σ H (Its z) (chars z) := by
  have hl : (chars z).length = z.cps.size := by simp [chars]
  refine ⟨fun i F' E' σ' H' y tr e hy => ?_, fun i F' E' σ' H' e hi => by rw [hl] at hi; exact hi⟩
  have hi : i < z.cps.size := by rw [← hl]; exact (List.getElem?_eq_some_iff.mp hy).1
  refine ⟨hi, fun v H2 hv => ?_⟩
  obtain ⟨rfl, c, hc, rfl⟩ := hv
  have ey : y = .str ⟨#[c]⟩ := by
    unfold chars at hy
    rw [List.getElem?_map, Array.getElem?_toList, hc] at hy
    exact (Option.some.inj hy).symm
  subst ey
  exact ⟨Nw.refl _ _, .str _⟩
theorem ci_str {tg e : Expr} {me : M Rv} (he : PE X e (tE G xa W me)) : PI X tg e (tI G xa W (iCh me)) := imI (pi_str he) fun σ H R => by
  rintro ⟨F, E, er, h⟩
  refine tE.go er ?_
  unfold iCh bnd at h
  cases hm : me E with
  | no => rw [hm] at h; exact h
  | ex c x E' => rw [hm] at h; exact h
  | ok r E1 =>
    rw [hm] at h
    simp only [Rs.go, val] at h
    intro v H1 er1 st1 vr1
    cases hx : peek (fz r) E1 with
    | none => rw [hx] at h; exact h.elim
    | some x =>
      rw [hx] at h
      simp only at h
      cases x with
      | str z => exact ⟨z, (vr1.op er1 hx).str, h _ _ er1 st1 its_ok⟩
      | _ => exact h.elim
/-- reversed(range(n)) -/
def revD (n : Nat) : List Dt := (List.range n).map fun (i : Nat) => .int ((n : Int) - 1 - (i : Int))
theorem itc_ok {n : Nat} : ItOk G F E σ H (Itc (0 + (n : Int) - 1) (-1) n) (revD n) := by
  have hl : (revD n).length = n := by simp [revD]
  refine ⟨fun i F' E' σ' H' y tr e hy => ?_, fun i F' E' σ' H' e hi => by rw [hl] at hi; exact hi⟩
  have hi : i < n := by rw [← hl]; exact (List.getElem?_eq_some_iff.mp hy).1
  refine ⟨hi, fun v H2 hv => ?_⟩
  obtain ⟨rfl, rfl⟩ := hv
  unfold revD at hy
  rw [List.getElem?_map, List.getElem?_range hi] at hy
  have e : y = .int ((n : Int) - 1 - (i : Int)) := (Option.some.inj hy).symm
  subst e
  refine ⟨Nw.refl _ _, ?_⟩
  have e2 : (0 + (n : Int) - 1 + (i : Int) * (-1)) = (n : Int) - 1 - (i : Int) := by omega
  rw [e2]
  exact .int _
def iRev (me : M Rv) : M (List Dt) := bnd me fun r => bnd (val (fz r)) fun x => match x with
  | .int n => if okI n then ret (revD n.toNat) else fail
  | _ => fail
theorem ci_rev {tg e : Expr} {me : M Rv} {p p2 pos pos2 : Pos} (hg : Gl X "reversed") (hm : X.mg "reversed" = none) (hg2 : Gl X "range") (hm2 : X.mg "range" = none) (he : PE X e (tE G xa W me))
    (hs : starEach [.Call (.Name "range" p2) [e] [] pos2] X.env = (false, eval (.Call (.Name "range" p2) [e] [] pos2) X.env) :: starEach [] X.env := by rfl) (na : starEach [e] X.env = (false, eval e X.env) :: starEach [] X.env := by rfl) :
    PI X tg (.Call (.Name "reversed" p) [.Call (.Name "range" p2) [e] [] pos2] [] pos) (tI G xa W (iRev me)) := imI (pi_revR hg hm (prg_1 hg2 hm2 he na) hs) fun σ H R => by
  rintro ⟨F, E, er, h⟩
  refine tE.go er ?_
  unfold iRev bnd at h
  cases hm : me E with
  | no => rw [hm] at h; exact h
  | ex c x E' => rw [hm] at h; exact h
  | ok r E1 =>
    rw [hm] at h
    simp only [Rs.go, val] at h
    intro v H1 er1 st1 vr1
    cases hx : peek (fz r) E1 with
    | none => rw [hx] at h; exact h.elim
    | some x =>
      rw [hx] at h
      simp only at h
      cases x with
      | int n =>
        simp only at h
        by_cases hk : okI n = true
        · rw [if_pos hk] at h
          have e0 : (n - 0).toNat = n.toNat := by rw [Int.sub_zero]
          refine ⟨n, (vr1.op er1 hx).int, by decide, by decide, (okI_iff hk).1, (okI_iff hk).2, ?_⟩
          rw [e0]
          exact h _ _ er1 st1 itc_ok
        · rw [if_neg hk] at h
          exact h.elim
      | _ => exact h.elim

/-! ### {text: value} -/
def eDict (z : Str) (me : M Rv) : M Rv := bnd me fun r => bnd (keep (fz r)) fun x => ret (.d (.dict [(.str z, x)]))
theorem ER.front {a : Addr} (er : ER G xa (a :: F) [] σ H E) : ER G xa F [] σ H E := by
  refine ⟨er.nd.sublist (List.sublist_cons_self _ _), fun b hb => er.tr b (List.mem_cons_of_mem _ hb), er.len, fun i s v h1 h2 => (er.sl i s v h1 h2).up (ex_hid fun b hb => List.mem_cons_of_mem _ hb) fun _ _ => rfl⟩
theorem ce_dict {z : Str} {j : Nat} {e : Expr} {me : M Rv} {p pos : Pos} (he : PE X e (tE G xa W me)) : PE X (.Dict [some (.Constant (.str z) j p)] [e] pos) (tE G xa W (eDict z me)) :=
  imE (pe_disp (pps_cons pe_str he pps_nil) rfl rfl (by simp) (show 1 ≤ 15 by decide)) fun σ H Q => by
  rintro ⟨F, E, er, h⟩
  intro q hq
  show tE G xa W me σ (upd H q (.dK [])) _
  have tr0 : ∀ a ∈ F ++ own E σ, H a ≠ none := trOf er
  have hqS : q ∉ F ++ own E σ := fun hm => tr0 q hm hq
  have n0 : Nw (F ++ own E σ) [q] H (upd H q (.dK [])) := Nw.newO tr0 hq
  have er0 : ER G xa (q :: F) [] σ (upd H q (.dK [])) E := (er.new n0).aside
  have ev0 : vis (q :: F) E σ (upd H q (.dK [])) = vis F E σ H := hid_upd_cons hq
  have lift : ∀ {E2 : En} {σ2 : L2.St} {H2 : Hp} {u : V}, ER G xa (q :: F) [] σ2 H2 E2 → Stp (q :: F) E σ (upd H q (.dK [])) [] E2 σ2 H2 →
      ER G xa F [] σ2 (upd H2 q (.dK [(Sum.inr z, u)])) E2 ∧ Stp F E σ H [] E2 σ2 (upd H2 q (.dK [(Sum.inr z, u)])) ∧ Ex (vis (q :: F) E2 σ2 H2) (vis F E2 σ2 (upd H2 q (.dK [(Sum.inr z, u)]))) ∧ vis F E2 σ2 (upd H2 q (.dK [(Sum.inr z, u)])) q = some (.dK [(Sum.inr z, u)]) := fun {E2 σ2 H2 u} er2 st2 => by
    obtain ⟨er3, ev3⟩ := er2.updF (a := q) (o := .dK [(Sum.inr z, u)]) List.mem_cons_self
    have n2 : ((q :: F) ++ own E2 σ2).Nodup := er2.nd
    have q2 : q ∉ F ++ own E2 σ2 := (List.nodup_cons.mp n2).1
    have x1 : Ex (vis (q :: F) E2 σ2 H2) (vis F E2 σ2 (upd H2 q (.dK [(Sum.inr z, u)]))) := by
      rw [← ev3]
      exact ex_hid fun b hb => List.mem_cons_of_mem _ hb
    have hqF : q ∉ F := fun hm => hqS (List.mem_append_left _ hm)
    refine ⟨er3.front, ⟨?_, fun b hb => ?_, st2.fx, st2.ln⟩, x1, ?_⟩
    · have f2 : Ex (vis (q :: F) E σ (upd H q (.dK []))) (vis (q :: F) E2 σ2 H2) := st2.fr
      rw [ev0] at f2
      exact Evl.Ex.trans f2 x1
    · have hb2 : b ≠ q := by rintro rfl; exact hqF hb
      rw [upd_ne hb2, st2.kp b (List.mem_cons_of_mem _ hb), upd_ne hb2]
    · show hid (F ++ own E2 σ2) _ q = _
      rw [hid_out q2, upd_same]
  refine tE.go er0 ?_
  unfold eDict bnd at h
  cases hm : me E with
  | no => rw [hm] at h; exact h
  | ex c x E' =>
    rw [hm] at h
    intro dd w σ' H' er' st' hd hw
    have h : xP G xa W F E σ H c x E' := h
    -- the dict that was begun stays behind
    have x1 : Ex (vis (q :: F) E' σ' H') (vis F E' σ' H') := ex_hid fun b hb => List.mem_cons_of_mem _ hb
    refine h dd w σ' H' er'.front ⟨?_, fun b hb => ?_, st'.fx, st'.ln⟩ (x1 _ _ hd) (Dv.up hw x1)
    · have f2 : Ex (vis (q :: F) E σ (upd H q (.dK []))) (vis (q :: F) E' σ' H') := st'.fr
      rw [ev0] at f2
      exact Evl.Ex.trans f2 x1
    · have hb2 : b ≠ q := by rintro rfl; exact hqS (List.mem_append_left _ hb)
      rw [st'.kp b (List.mem_cons_of_mem _ hb), upd_ne hb2]
  | ok r E1 =>
    rw [hm] at h
    simp only [Rs.go] at h
    intro v H1 er1 st1 vr1
    cases hk : keep (fz r) E1 with
    | no => rw [hk] at h; exact h.elim
    | ex c x E' => exact absurd hk keep_ex
    | ok x E2 =>
      rw [hk] at h
      simp only [ret] at h
      obtain ⟨er2, st2, d⟩ := keepV er1 vr1 hk
      have e1 : H1 q = some (.dK []) := by
        rw [st1.kp q List.mem_cons_self, upd_same]
      refine ⟨e1, [(Sum.inr z, v)], rfl, (show 1 ≤ 15 by decide), ?_⟩
      obtain ⟨er3, st3, x3, hq3⟩ := lift (u := v) er2 (st1.trans st2)
      exact h [] _ _ er3 st3 ⟨rfl, .dct hq3 (Dv.up d x3)⟩

/-! ### methods that give data -/
def tyD (T : String) : Dt → Bool
  | .str _ => T == "str"
  | .list _ => T == "list"
  | _ => false
def MtSem (G : Gi) (r : V → List V → Hp → VK → Prop) (g : Dt → List Dt → Option Rv) : Prop :=
  ∀ (S : List Addr) (H : Hp) (x : Dt) (xs : List Dt) (z : Rv) (v : V) (vs : List V) (Q : VK), (∀ a ∈ S, H a ≠ none) → Op G S H v x → OpAll G S H vs xs → g x xs = some z → (∀ ex u H', NewV G S H H' ex z u → Q u H') → r v vs H Q
def eM (T : String) (g : Dt → List Dt → Option Rv) (mo : M Rv) (ma : M (List Rv)) : M Rv := bnd mo fun r0 => bnd (val (fz r0)) fun x0 => if tyD T x0 then bnd ma fun rs => bnd (val (fz r0)) fun x => bnd (vals rs) fun xs => opt (g x xs) else fail
theorem tyV_of {T : String} {x : Dt} (o : Op G S H v x) (h : tyD T x = true) : tyV G.K T v H := by
  cases x with
  | str z => rw [o.str]; exact beq_iff_eq.mp h
  | list xs =>
    obtain ⟨a, vs, rfl, h1, _⟩ := o.lst
    exact .inl ⟨beq_iff_eq.mp h, vs, SqL.of h1⟩
  | _ => cases h
theorem m_imp {T : String} {r : V → List V → Hp → VK → Prop} {g : Dt → List Dt → Option Rv} (hK : X.K = G.K) (hs : MtSem G r g) {mo : M Rv} {ma : M (List Rv)} : ∀ σ H Q, tE G xa W (eM T g mo ma) σ H Q → tBM X.K T r (tE G xa W mo) (tA G xa W ma) σ H Q := by
  rintro σ H Q ⟨F, E, er, h⟩
  refine tE.go er ?_
  unfold eM bnd at h
  cases hm : mo E with
  | no => rw [hm] at h; exact h
  | ex c x E' => rw [hm] at h; exact h
  | ok r1 E1 =>
    rw [hm] at h
    intro v1 H1 er1 st1 vr1
    simp only [Rs.go, val] at h
    cases hx : peek (fz r1) E1 with
    | none => rw [hx] at h; exact h.elim
    | some x0 =>
      rw [hx] at h
      simp only at h
      cases ht : tyD T x0 with
      | false => simp only [ht] at h; exact h.elim
      | true =>
        simp only [ht, if_true] at h
        refine ⟨by rw [hK]; exact tyV_of (vr1.op er1 hx) ht, tA.go er1 ?_⟩
        cases hm2 : ma E1 with
        | no => rw [hm2] at h; exact h
        | ex c x E' => rw [hm2] at h; exact xP.from h st1
        | ok rs E2 =>
          rw [hm2] at h
          intro vs H2 er2 st2 vr2
          have vr1' := vr1.mv st2
          simp only [Rs.go] at h
          cases hy : peek (fz r1) E2 with
          | none => rw [hy] at h; exact h.elim
          | some x =>
            rw [hy] at h
            simp only at h
            rcases valsV er2 vr2 with ⟨xs, e, o⟩ | e
            · rw [e] at h
              simp only at h
              cases hg : g x xs with
              | none => rw [hg] at h; exact h.elim
              | some z =>
                rw [hg] at h
                refine hs (F ++ own E2 σ) H2 x xs z v1 vs Q (trOf er2) (vr1'.op er2 hy) o hg fun ex u H' n => ?_
                obtain ⟨er3, st3, vr3⟩ := n.done er2
                exact h ex u H' er3 ((st1.trans st2).trans st3) vr3
            · rw [e] at h; exact h.elim
def txts : List Dt → Option (List Str)
  | [] => some []
  | .str z :: r => (txts r).map (z :: ·)
  | _ => none
theorem strs_vs {K : PySem.W.Frag} : ∀ {vs : List V} {xs : List Dt} {ys : List Str}, DvAll K H vs xs → txts xs = some ys → vs = ys.map V.str
  | _, _, ys, .nil, e => by cases e; rfl
  | _, _, ys, .cons h t, e => by
    cases h with
    | str z =>
      unfold txts at e
      rename_i xs
      cases hb : txts xs with
      | none => rw [hb] at e; cases e
      | some cs =>
        rw [hb] at e
        cases e
        rw [strs_vs t hb]
        rfl
    | _ => cases e
def gJoin : Dt → List Dt → Option Rv
  | .str a, [.list xs] => match txts xs with
    | some ys => if (ys.map (·.length)).sum + ys.length * a.length ≤ 16777216 then some (.d (.str (Txt.join a ys))) else none
    | none => none
  | _, _ => none
theorem s_join : MtSem G (fun x xs H Q => ∃ a p, ∃ ys : List Str, x = .str a ∧ xs = [.ref p] ∧ (SqL G.K H p (ys.map V.str) ∨ SqT G.K H p (ys.map V.str)) ∧
    (ys.map (·.length)).sum + ys.length * a.length ≤ 16777216 ∧ Q (.str (Txt.join a ys)) H) gJoin := by
  intro S H x xs z v vs Q tr ov o hg k
  unfold gJoin at hg
  split at hg
  · rename_i a ys
    cases hb : txts ys with
    | none => rw [hb] at hg; cases hg
    | some zs =>
      rw [hb] at hg
      simp only at hg
      split at hg
      · cases hg
        obtain ⟨w, rfl, ow⟩ := o.one
        obtain ⟨p, us, rfl, h1, d1⟩ := ow.lst
        have e := strs_vs d1 hb
        subst e
        exact ⟨a, p, zs, ov.str, rfl, .inl (SqL.of h1), ‹_›, k [] _ H (NewV.same (.str _))⟩
      · cases hg
  · cases hg

/-! ### the script -/
def eLenS (i : Nat) : M Rv := fun E => match E[i]? with
  | some (.s ns) => .ok (.d (.int ns.length)) E
  | _ => .no
def eIxS (i : Nat) (me : M Rv) : M Rv := fun E => match E[i]? with
  | some (.s ns) => (bnd me fun r => bnd (val (fz r)) fun x => match x with
    | .int k => match atI ns k with
      | some n => ret (.d (.int n))
      | none => fail
    | _ => fail) E
  | _ => .no
theorem s_at {i : Nat} {ns : List Int} (er : ER G xa F [] σ H E) (h : E[i]? = some (.s ns)) : ∃ a, σ[i]? = some (some (.ref a)) ∧ SqL G.K (hid (F ++ own E σ) H) a (ns.map V.int) := by
  obtain ⟨v, hv, sr⟩ := er.slot h
  cases v with
  | none => exact sr.elim
  | some v =>
    cases v with
    | ref a => exact ⟨a, hv, sr⟩
    | _ => exact sr.elim
theorem ce_lenS {i : Nat} {x : Str} {p p2 pos : Pos} (hK : X.K = G.K) (hx : PE X (.Name x p2) (tVar i)) (hg : Gl X "len") (hm : X.mg "len" = none) (hb : bootBuiltins "len" = some (.builtin "len"))
    (he : starEach [.Name x p2] X.env = (false, eval (.Name x p2) X.env) :: starEach [] X.env := by rfl) (hpl : (backTo pos (starEach [] X.env)).any (·.1) = false := by rfl) : PE X (.Call (.Name "len" p) [.Name x p2] [] pos) (tE G xa W (eLenS i)) :=
  imE (pe_callB call_len hg hm hb (pa_cons hx pa_nil he) (by decide) (by decide) he hpl) fun σ H Q => by
  rintro ⟨F, E, er, h⟩
  unfold eLenS at h
  cases hs : E[i]? with
  | none => rw [hs] at h; exact h.elim
  | some sl =>
    rw [hs] at h
    obtain ⟨ns, rfl⟩ : ∃ ns, sl = .s ns := by cases sl <;> first | exact ⟨_, rfl⟩ | exact h.elim
    obtain ⟨a, hv, sq⟩ := s_at er hs
    refine ⟨_, hv, .ref a, ns.length, rfl, .inl ⟨ns.map V.int, by rw [hK]; exact Evl.ex_l ex_hid0 sq, by rw [List.length_map]⟩, h [] _ H er (Stp.refl _ _ _ _) ⟨rfl, .int _⟩⟩
theorem atI_map {α β : Type} (f : α → β) {xs : List α} {i : Int} {x : α} (h : atI xs i = some x) : atI (xs.map f) i = some (f x) := by
  unfold atI at h ⊢
  rw [List.length_map]
  cases hj : ixN xs.length i with
  | none => rw [hj] at h; cases h
  | some j =>
    rw [hj] at h
    have h : xs[j]? = some x := h
    show (xs.map f)[j]? = some (f x)
    rw [List.getElem?_map, h]
    rfl
theorem ce_ixS {i : Nat} {x : Str} {e : Expr} {me : M Rv} {p pos : Pos} (hK : X.K = G.K) (hx : PE X (.Name x p) (tVar i)) (he : PE X e (tE G xa W me)) (hp : PlainIx e) : PE X (.Subscript (.Name x p) e pos) (tE G xa W (eIxS i me)) :=
  imE (pe_ix ix_list hx he hp) fun σ H Q => by
  rintro ⟨F, E, er, h⟩
  unfold eIxS at h
  cases hs : E[i]? with
  | none => rw [hs] at h; exact h.elim
  | some sl =>
    rw [hs] at h
    obtain ⟨ns, rfl⟩ : ∃ ns, sl = .s ns := by cases sl <;> first | exact ⟨_, rfl⟩ | exact h.elim
    obtain ⟨a, hv, sq⟩ := s_at er hs
    refine ⟨_, hv, tE.go er ?_⟩
    unfold bnd at h
    cases hm : me E with
    | no => rw [hm] at h; exact h
    | ex c x E' => rw [hm] at h; exact h
    | ok r1 E1 =>
      rw [hm] at h
      intro v1 H1 er1 st1 vr1
      simp only [Rs.go, val] at h
      cases hx : peek (fz r1) E1 with
      | none => rw [hx] at h; exact h.elim
      | some x =>
        rw [hx] at h
        simp only at h
        cases x with
        | int k =>
          simp only at h
          cases ha : atI ns k with
          | none => rw [ha] at h; exact h.elim
          | some n =>
            rw [ha] at h
            refine ⟨a, ns.map V.int, k, .int n, rfl, (vr1.op er1 hx).int, ?_, atI_map V.int ha, h [] _ H1 er1 st1 ⟨rfl, .int _⟩⟩
            rw [hK]
            have sq1 : SqL G.K (vis F E1 σ H1) a (ns.map V.int) := Evl.ex_l st1.fr sq
            exact Evl.ex_l ex_hid0 sq1
        | _ => exact h.elim
end
end Vs
/-! # VsN -/
set_option Elab.async false
set_option linter.all false
set_option maxRecDepth 100000
set_option maxHeartbeats 4000000
/-! Vs, part N: own errors with one field: how they are made, what the written part says of their classes. -/
namespace Vs
open PySem L2 PySem.Spec PyProof.Rows PySem.W PySem.HandSPX
open Evl (Ex)
/-- the text of an __init__ that stores one field -/
def inArgs (f : Str) (p1 p2 : Pos) : Arguments :=
  { posonlyargs := [], args := [{ arg := "self", annotation := none, pos := p1 }, { arg := f, annotation := none, pos := p2 }], vararg := none, kwonlyargs := [], kw_defaults := [], kwarg := none, defaults := [] }
def inBody (f : Str) (q1 q2 q3 q4 : Pos) : List Stmt := [.Assign [.Attribute (.Name "self" q1) f q2] (.Name f q3) q4]
def inScope (f : Str) : Scope := { kind := .function, names := [(PySem.Str.ofString "self", .local), (f, .local)], isGenerator := false, isCoroutine := false, more := [] }
/-- the fields that the package's errors have -/
inductive IsFld : Str → Prop
  | at_ : IsFld "at"
  | line : IsFld "line"
  | limit : IsFld "limit"
/-- what the written part says of an error's class at C and of its __init__ at fI -/
structure ErrC (K : Frag) (C fI : Addr) (qual f : Str) : Prop where
  fld : IsFld f
  cls : ∃ nm q N bs bm sn sub ab col dd k0 k1 k2 k3 k5, K.lookup C = some (excClassObj nm q C N bs bm true sn sub ab col dd k0 k1 k2 k3 k5 "ValueError.__new__") ∧ refsVE bm = true
  sa : findIn K (.ref C) "__setattr__" = some (some (.builtin "object.__setattr__"))
  ga : findIn K (.ref C) "__getattribute__" = some (some (.builtin "BaseException.__getattribute__"))
  gg : findIn K (.ref C) "__getattr__" = some none
  noN : findIn K (.ref C) f = some none
  iC : findIn K (.ref C) "__init__" = some (some (.ref fI))
  tC : typeIn K (.ref fI) = some (.type "function")
  kC : keepIn K (.ref C) = true
  exC : subIn K (.ref C) (.type "BaseException") = some true
  tyC : typeIn K (.ref C) = some (.type "type")
  hdC : hasDictIn K C = true
  fn : ∃ (oc : Value) (od : Option Addr) (doc pm : Value) (an : Option Addr) (cdv ct : Value) (osl : Array (Option Value)) (p1 p2 q1 q2 q3 q4 : Pos),
    K.lookup fI = some ⟨oc, od, .func (fnOf "__init__" qual (inArgs f p1 p2) (inBody f q1 q2 q3 q4) (inScope f) .none .none doc pm an cdv ct), osl⟩ ∧ codeIn K cdv qual = true
section
variable {prog : Program} {w : World} {A : Around} {R : Result → Shared → Prop} {s : Shared} {K : Frag} {C fI : Addr} {qual f : Str}
theorem nameV {M : Model} {A : Around} {E : Value → Shared → Prop} {s : Shared} {nm : Str} {sc : Scope} {L a : Addr} {cd v : Value} {m : Str → Option Value} {x : Str} {pos : Pos} {Q : Value → Shared → Prop} (hn : s.heap.Ns L m) (hv : m x = some v) (h : Q v s) (hk : sc.kind = .function)
    (hl : (envOfC nm sc L a cd).kindOf x = some .local) (hd : (x == ("__debug__" : Str)) = false) : wpAny M A (eval (.Name x pos) (envOfC nm sc L a cd)) Q E s := wpAny_Name (wpAny_loadName_local hk hl hn hv h) hd
/-- what __init__ leaves of the new error at x -/
structure AfterInit (h h' : Heap) (x C dx t1 : Addr) (f : Str) (v : Value) : Prop where
  kp : ∀ b o, b ≠ x → h.get? b = some o → h'.get? b = some o
  ob : h'.get? x = some { cls := .ref C, dict := some dx, data := .fields #[.ref t1, .none, .none, .none, .bool false, .none] }
  big : h.objs.size ≤ dx
  ne : dx ≠ x
  ns : h'.Ns1 dx (fun y => if y = f then some v else none)
theorem init_runs (T : ErrC K C fI qual f) {x t0 : Addr} {v : Value} (X : K.In s.heap) (hlim : s.heap.NoLimit) (hx : s.heap.get? x = some (excO C t0)) (hr : A.depth < recursionLimit)
    (hq : ∀ h' tk dx, AfterInit s.heap h' x C dx t0 f v → R (.ok (.ret .none)) { s with heap := h', toks := tk }) : codeAny (model prog w) A (.call (.ref fI) ⟨[.ref x, v], []⟩) R s := by
  obtain ⟨oc, od, doc, pm, an, cdv, ct, osl, p1, p2, q1, q2, q3, q4, ho, hcd⟩ := T.fn
  obtain ⟨nm, q, N, bs, bm, sn, sub, ab, col, dd, k0, k1, k2, k3, k5, hC, hbm⟩ := T.cls
  have hcl : clsIn K C = some { name := nm, bases := bs, mro := .ref C :: bm, ns := N, qualname := q, hasDict := true, slotNames := sn, subclasses := sub, abstract := ab, collection := col, hasDel := false } := by
    unfold clsIn
    rw [hC] <;> rfl
  have noN := T.noN
  have hf := T.fld
  cases hf
  all_goals
    refine Att.call_fn (binds := [("self", .ref x), (_, v)]) X hlim ho hcd hr (BindsTo.of_eq (by first | rfl | with_unfolding_all rfl)) (by first | rfl | decide | with_unfolding_all rfl) (fun s₁ IC => ?_) rfl rfl rfl
    obtain ⟨h₁, tk₁, rfl⟩ := IC.toInCall.same
    have kk : ∀ b o, s.heap.get? b = some o → h₁.get? b = some o := IC.toInCall.keep
    have hn := IC.toInCall.ns
    have hx₁ := kk _ _ hx
    show wpAny _ _ (execs _ _) _ _ _
    refine wpAny_execs_cons (plainObj_wpAny_Assign_Attribute ?_)
    refine nameV (v := v) hn (by first | rfl | with_unfolding_all rfl | kernel_rfl) ?_ rfl rfl (by decide)
    refine nameV (v := .ref x) hn (by first | rfl | with_unfolding_all rfl | kernel_rfl) ?_ rfl rfl (by decide)
    refine set_plain (X.keeps kk) (ox := excO C t0) (od := none) ⟨hx₁, rfl, rfl, trivial⟩ T.sa ?_
    refine exc_osa (X.keeps kk) hx₁ hcl (show refsVE (.ref C :: bm) = true from hbm) rfl noN (fun h₃ tk₃ dx k₃ dn dne hx₃ hn₃ => ?_)
    show wpAny _ _ (execs _ _) _ _ _
    have z : s.heap.objs.size < h₁.objs.size := hn.lt
    exact wpAny_execs_nil (hq h₃ tk₃ dx ⟨fun b o hb e => k₃ b o hb (kk b o e), hx₃, Nat.le_of_lt (Nat.lt_of_lt_of_le z dn), dne, hn₃⟩)
/-- a made error -/
structure Made (h h' : Heap) (e C d : Addr) (f : Str) (v : Value) : Prop where
  kp : ∀ b o, h.get? b = some o → h'.get? b = some o
  nw : h.objs.size ≤ e
  ob : ∃ oe vs, h'.get? e = some oe ∧ oe.cls = .ref C ∧ oe.dict = some d ∧ oe.data = .fields vs ∧ vs[1]? = some .none
  big : h.objs.size ≤ d
  ne : d ≠ e
  ns : h'.Ns1 d (fun y => if y = f then some v else none)
theorem err_made (T : ErrC K C fI qual f) {v : Value} (X : K.In s.heap) (hlim : s.heap.NoLimit) (hr : A.depth + 1 < recursionLimit) (hq : ∀ h' tk e d, Made s.heap h' e C d f v → R (.ok (.ret (.ref e))) { s with heap := h', toks := tk }) :
    codeAny (model prog w) A (.call (.ref C) ⟨[v], []⟩) R s := by
  obtain ⟨nm, q, N, bs, bm, sn, sub, ab, col, dd, k0, k1, k2, k3, k5, hC, hbm⟩ := T.cls
  obtain ⟨hp, g, dr, tk, os⟩ := s
  have kk : ∀ b o, hp.get? b = some o → ((hp.push (kdv_tup [v])).push (excO C hp.objs.size)).get? b = some o := fun b o e => Heap.get?_push_of_some _ (Heap.get?_push_of_some _ e)
  have hget : ((hp.push (kdv_tup [v])).push (excO C hp.objs.size)).get? (hp.objs.size + 1) = some (excO C hp.objs.size) := by heap_get
  have one : [v].length ≤ sizeLine := show 1 ≤ sizeLine by decide
  refine call_own F.excBase_ValueError (fun X => refsVE_contains X bm hbm) (X _ _ hC) (looks_findIn X T.iC) (fun self => bind_fn X self T.tC) one ?_
  refine init_runs (s := ⟨(hp.push (kdv_tup [v])).push (excO C hp.objs.size), g, dr, tk, os⟩) T (X.keeps kk) (hlim.keeps kk) hget hr fun h' tk' dx M => ?_
  have old : ∀ b o, hp.get? b = some o → h'.get? b = some o := fun b o e => M.kp b o (Nat.ne_of_lt (Nat.lt_succ_of_lt (Heap.lt_size e))) (kk b o e)
  have z : hp.objs.size + 1 + 1 ≤ dx := by
    have qb := M.big
    first
      | (simpa only [Heap.size_push] using qb)
      | exact qb
      | (rw [Heap.size_push, Heap.size_push] at qb; exact qb)
  exact ⟨rfl, hq h' tk' (hp.objs.size + 1) dx ⟨old, Nat.le_succ _, ⟨_, _, M.ob, rfl, rfl, rfl, rfl⟩, Nat.le_trans (Nat.le_trans (Nat.le_succ _) (Nat.le_succ _)) z, M.ne, M.ns⟩⟩
end
section
variable {X : Cx} {C fI : Addr} {qual f : Str}
theorem relO_one {v : V} {u : Value} (r : RelV v u) (f g : Str) : RelO (List.lookup g [(f, v)]) (if g = f then some u else none) := by
  by_cases hw : g = f
  · subst hw
    rw [if_pos rfl, show List.lookup g [(g, v)] = some v by simp [List.lookup]]
    exact r
  · have qw : (g == f) = false := by simpa using hw
    rw [if_neg hw, show List.lookup g [(f, v)] = none by simp [List.lookup, qw]]
    trivial
def tMake (C : Addr) (f : Str) (ta : TA) : L2.St → Hp → XK → Prop := fun σ H Q => ta σ H fun vs H1 => ∃ v, vs = [v] ∧ ∀ d, H1 d = none → Q (.ref C) (some d) (upd H1 d (.xd [(f, v)]))
theorem pmk_err {x : Str} {a : Expr} {ta : TA} {p pos : Pos} {k : Nat} (T : ErrC X.K C fI qual f) (hr : Room k X.A) (hm : X.mg x = some (.ref C)) (ha : PA X [a] ta) (hg : Gl X x) (hd : (x == ("__debug__" : Str)) = false := by decide)
    (he : starEach (a :: []) X.env = (false, eval a X.env) :: starEach [] X.env := by rfl) (hpl : (backTo pos (starEach [] X.env)).any (·.1) = false := by rfl) : PMk X (.Call (.Name x p) [a] [] pos) (tMake C f ta) := by
  intro pins s σ H Q I h
  refine wpAny_Call_Name_kw (ld_glob I hg hm ?_ hd)
  refine callWith_K (h₀ := X.base) I.ok.mod.kin T.kC (thn (ha.run pos pins s σ H _ I h) fun us s1 hh => ?_) he hpl
  obtain ⟨vs, H1, I1, r1, v, rfl, q1⟩ := hh
  refine ⟨I1.kIn, ?_⟩
  obtain ⟨u, rfl, ru⟩ := vals1 r1
  have hlim := I1.nolimit
  obtain ⟨hp, g, dr, tk, os⟩ := s1
  refine wpAny_call (err_made T I1.kIn hlim (by have := hr.dp; omega) fun h' tk' e d M => ?_)
  show MkP X pins σ Q (.ref e) ⟨h', g, dr, tk', os⟩
  obtain ⟨oe, fv, hoe, hc, hdd, hdat, h1⟩ := M.ob
  have hns := M.ns
  -- the state without the error's own object
  obtain ⟨G', g1, g2⟩ := restrict h' fun b => decide (b ≠ e)
  have gk : ∀ b, b ≠ e → G'.get? b = h'.get? b := fun b hb => g1 b (decide_eq_true hb)
  have ge : G'.get? e = none := g2 e (by simp)
  have old : ∀ b o, hp.get? b = some o → G'.get? b = some o := fun b o q => (gk b (Nat.ne_of_lt (Nat.lt_of_lt_of_le (Heap.lt_size q) M.nw))).trans (M.kp b o q)
  have okd : ObjOk X.prog X.w (upd H1 d (.xd [(f, v)])) G' d (.xd [(f, v)]) := ⟨_, hns.at (fun o q => (gk d M.ne).trans q), fun y => relO_one ru f y⟩
  have J : Inv X pins σ (upd H1 d (.xd [(f, v)])) ⟨G', g, dr, tk', os⟩ := I1.laid (t' := tk') old M.big okd
  refine ⟨e, oe, fv, ⟨G', g, dr, tk', os⟩, _, .ref C, some d, rfl, J, fun b o q => ?_, ge, hoe, ⟨hc, hdd⟩, hdat, h1, ?_, rfl, I1.bare, raises_own T.exC T.tyC, q1 d (I1.hok.fresh M.big)⟩
  · by_cases hb : b = e
    · have q' : G'.get? b = some o := q
      rw [hb, ge] at q'
      cases q'
    · exact (gk b hb).symm.trans q
  · rw [upd_ne (Ne.symm M.ne)]
    exact I1.hok.fresh M.nw
/-- e.f, e the error that the suite holds -/
def tFld (C : Addr) (f : Str) (a : Addr) (cls : Value) (d : Option Addr) (te : TE) : TE := fun σ H Q => te σ H fun x H1 => x = .ref a ∧ cls = .ref C ∧ ∃ (dd : Addr) (v : V), d = some dd ∧ H1 dd = some (.xd [(f, v)]) ∧ Q v H1
theorem pe_fld {a : Addr} {oe : Obj} {cls : Value} {d : Option Addr} {pn : List (Addr × Obj)} {e : Expr} {te : TE} {pos : Pos} (T : ErrC X.K C fI qual f) (hz : Zc cls d oe) (hf : ∃ vs, oe.data = .fields vs) (he : PE (X.suite a ((a, oe) :: pn)) e te)
    (hb : attributeBase e f X.env (eval e X.env) = eval e X.env := by rfl) : PE (X.suite a ((a, oe) :: pn)) (.Attribute e f pos) (tFld C f a cls d te) := by
  refine ⟨fun pins s σ H Q I h => ?_⟩
  refine attr_of hb (thn (he.run pins s σ H _ I h) fun u s1 hh => ?_)
  obtain ⟨x, H1, I1, rx, rfl, rfl, dd, v, rfl, ea, q⟩ := hh
  obtain rfl : u = Value.ref a := rx
  obtain ⟨hae, _⟩ := I1.pin (a, oe) (List.mem_append_left _ List.mem_cons_self)
  obtain ⟨vs, hd⟩ := hf
  have hx : ObjOk X.prog X.w H1 s1.heap dd (.xd [(f, v)]) := I1.hok dd _ ea
  obtain ⟨mA, hns, hr⟩ := hx
  obtain ⟨od, ho, hl⟩ := lookIn_ns hns
  have l : List.lookup f [(f, v)] = some v := by simp [List.lookup]
  obtain ⟨u, hu, ru⟩ := RelO.some_of (v := v) (o := mA f) (by rw [← l]; exact hr f)
  have J : InstAt s1.heap a oe C (some od) := ⟨hae, hz.1, by unfold notCls; rw [hd] <;> rfl, by rw [hz.2]; exact ho⟩
  exact exc_get I1.kIn J T.ga T.gg T.exC (findObj_own T.hdC T.noN rfl (by rw [hl, hu])) (handed_of ru) ⟨v, H1, I1.tok _, ru, q⟩
end
end Vs
/-! # VsO -/
set_option Elab.async false
set_option linter.all false
set_option maxRecDepth 100000
set_option maxHeartbeats 4000000
/-! Vs, part O: raise, try with several clauses. -/
namespace Vs
open PySem L2 PySem.Spec PyProof.Rows
open Evl (Ex)
/-! ### try: clauses with and without a name, as HandS tells one or many -/
abbrev ClT := Value × Option Nat × (Addr → Value → Option Addr → TS)
def unD (i : Nat) (D : Ends) : Ends := { nx := fun σ H => D.nx (σ.set i none) H, rt := D.rt, bk := fun σ H => D.bk (σ.set i none) H, ct := fun σ H => D.ct (σ.set i none) H }
def clGo (o : Option Nat) (ts : Addr → Value → Option Addr → TS) (D : Ends) (cls : Value) (d : Option Addr) (σ : L2.St) (H : Hp) : Prop := match o with
  | none => ∀ a, H a = none → ts a cls d D σ H
  | some i => ∀ a, H a = none → ts a cls d (unD i D) (σ.set i (some (.ref a))) H
def wCl (K : PySem.W.Frag) (Wout : WX) (D : Ends) : List ClT → WX
  | [] => Wout
  | (c, o, ts) :: r => fun cls d σ H => ∃ b, PySem.W.exmOne K cls c = some b ∧ (b = true → clGo o ts D cls d σ H) ∧ (b = false → wCl K Wout D r cls d σ H)
def SuOk (X : Cx) (body : List Stmt) (ts : Addr → Value → Option Addr → TS) : Prop :=
  ∀ (a : Addr) (oe : Obj) (cls : Value) (d : Option Addr) (pn : List (Addr × Obj)), Zc cls d oe → (∃ vs, oe.data = .fields vs) → PSs (X.suite a ((a, oe) :: pn)) body (ts a cls d)
inductive ClsOk (X : Cx) : List ExceptHandler → List ClT → Prop
  | nil : ClsOk X [] []
  | bare {x : Str} {c : Value} {ts : Addr → Value → Option Addr → TS} {b0 : Stmt} {suite : List Stmt} {np p1 : Pos} {hds : List ExceptHandler} {l : List ClT} (hc : Names X x c) (hsu : SuOk X (b0 :: suite) ts) (r : ClsOk X hds l) :
      ClsOk X (.ExceptHandler (some (.Name x np)) none (b0 :: suite) p1 :: hds) ((c, none, ts) :: l)
  | named {x n : Str} {i : Nat} {c : Value} {ts : Addr → Value → Option Addr → TS} {b0 : Stmt} {suite : List Stmt} {np p1 : Pos} {hds : List ExceptHandler} {l : List ClT} (hi : X.N[i]? = some n) (hn : X.env.kindOf n = some .local) (hc : Names X x c) (hsu : SuOk X (b0 :: suite) ts) (r : ClsOk X hds l) :
      ClsOk X (.ExceptHandler (some (.Name x np)) (some n) (b0 :: suite) p1 :: hds) ((c, some i, ts) :: l)
section
variable {X : Cx} {body : List Stmt} {hd0 : ExceptHandler} {hds : List ExceptHandler} {l : List ClT} {pos : Pos} {tb : WX → TS} {Wout : WX}
theorem ps_try_cl (hst : X.stack = X.env :: X.outer) (hfr : X.env.frame = some X.env.locals) (hN : X.N.Nodup) (tk : Takes X Wout)
    (hb : ∀ (W : WX) (pn : List (Addr × Obj)) (xe : Value → Shared → Prop), Takes (X.tr pn xe) W → PassesOwn (model X.prog X.w) X.A X.env xe → PSs (X.tr pn xe) body (tb W)) (hh : ClsOk X (hd0 :: hds) l) :
    PS X (.Try body (hd0 :: hds) [] [] pos) (fun D σ H => tb (wCl X.K Wout D l) D σ H) := by
  refine ⟨fun pins s σ H D I h => ?_⟩
  have okX := I.ok
  have frX : X.A.frames = some (X.env :: X.outer) := by rw [okX.frames, hst]
  refine wpAny_Try_except ?_
  -- what is wanted of an exception of the body
  refine wpAny_mono ((hb (wCl X.K Wout D l) (X.pn ++ pins) (fun e t1 => wpAny (model X.prog X.w) X.A (noteFrame e X.env) (fun _ t2 => wpAny (model X.prog X.w) X.A (setFlight e none)
    (fun _ t3 => wpAny (model X.prog X.w) X.A (handleBy e X.env (hd0 :: hds)) (SP X pins D) X.xe t3) X.xe t2) X.xe t1) (fun u s' xx => ?_) PassesOwn.looking).run [] s σ H D (I.toTry _) h) (fun fl s1 hsp => ?_) (fun e s1 he => he)
  · obtain ⟨a, B, sI, pins', σ', H', cls, d, rfl, Jt, nb, up, sky, na, os, ag, wv⟩ := xx
    have J : Inv X pins σ' H' sI := Jt.ofTry okX
    have skyX : Sky B (X.env :: X.outer) a (Zc cls d) X.env.locals s'.heap := by rw [← hst]; exact sky
    show wpAny (model X.prog X.w) X.A (noteFrame (.ref a) X.env) _ _ _
    refine Sky.land Zc.steady frX hfr skyX fun g3 fly3 up3 => ?_
    have J3 : Inv X pins σ' H' { s' with heap := g3 } := J.landed nb fly3.1 (up.trans up3) os ag
    obtain ⟨oe3, vs3, he3, hz3, hd3⟩ := fly3.there
    have apart : ∀ {g : Heap} {o : Obj} {vs : Array Value}, g.FunFrames B (X.env :: X.outer) → g.get? a = some o → o.data = .fields vs → a ∉ frs (X.env :: X.outer) := fun {g o vs} ff e dd hm => by
      obtain ⟨_, o', e', hnf⟩ := ff.mem hm
      rw [e] at e'
      cases e'
      exact hnf _ dd
    have nfr := apart fly3.2.2.1 he3 hd3
    have aL : a ≠ X.env.locals := fun z => nfr (List.mem_filterMap.mpr ⟨X.env, List.mem_cons_self, by rw [hfr, z]⟩)
    have aF : a ∉ X.fs := fun hm => by
      obtain ⟨e, he, q⟩ := List.mem_filterMap.mp hm
      exact nfr (List.mem_filterMap.mpr ⟨e, List.mem_cons_of_mem _ he, q⟩)
    have S3 := J3.suite he3 hd3 na aL aF
    have LT : PySem.W.Looks (model X.prog X.w) g3 (typeOf (.ref a)) cls := fun A Q E s k q => wpAny_typeOf_ref (k _ _ he3) (by rw [hz3.1]; exact q)
    have test : ∀ {x : Str} {c : Value} {np : Pos} {Q : Value → Shared → Prop} {E : Value → Shared → Prop}, Names X x c → Q c { s' with heap := g3 } →
        wpAny (model X.prog X.w) (X.A.mark (some (.ref a))) (eval (.Name x np) X.env) Q E { s' with heap := g3 } := fun {x c np Q E} hc q => by
      obtain ⟨hg, hdb, hm | ⟨hm, hv, hnn⟩⟩ := hc
      · exact ld_glob (X := X.suite a ((a, oe3) :: (X.pn ++ pins))) S3 hg hm q hdb
      · exact ld_blt (X := X.suite a ((a, oe3) :: (X.pn ++ pins))) S3 hg hm hv q hnn hdb
    have go : ∀ {hs2 : List ExceptHandler} {l2 : List ClT}, ClsOk X hs2 l2 → wCl X.K Wout D l2 cls d σ' H' → wpAny (model X.prog X.w) X.A (handleBy (.ref a) X.env hs2) (SP X pins D) X.xe { s' with heap := g3 } := by
      intro hs2 l2 hk
      induction hk with
      | nil =>
        intro wv
        refine wpAny_handleBy_nil ?_
        obtain ⟨k1, k2, k3, oe, vs, T, oT, ts', he, hz, hd, h1, hr⟩ := id fly3
        unfold PySem.passOn
        refine wpAny_bind (wpAny_field he hd h1 ?_)
        rw [if_neg (show ¬ ((Value.ref T == Value.none) = true) from by simp)]
        have fin : wpAny (model X.prog X.w) X.A (setFlight (.ref a) X.env.frame) (fun _ t4 => wpAny (model X.prog X.w) X.A (throw (.ref a) : Sem Flow) (SP X pins D) X.xe t4) X.xe { s' with heap := g3 } := by
          rw [hfr]
          refine HandSPX.setFlight_upZ fly3 fun g4 hh4 up4 => wpAny_throw (tk _ _ ?_)
          exact ⟨a, B, sI, pins, σ', H', cls, d, rfl, J, nb, (up.trans up3).trans up4, .inr (.inr (by rw [hst]; exact hh4)), na, os, ag, wv⟩
        first
          | exact wpAny_bind (wpAny_pure (wpAny_bind fin))
          | exact wpAny_bind fin
      | @bare x c ts b0 suite np p1 hs3 l3 hc hsu r ih =>
        intro wv
        obtain ⟨b, hb1, yes, no⟩ := wv
        refine wpAny_handleBy_cons (codeAny_handlers_test ?_) (by intro q; cases q)
        refine test hc ((PySem.W.exm_one (M := model X.prog X.w) (J3.kIn) LT hb1).here ?_)
        cases b with
        | false => exact ih (no rfl)
        | true =>
          refine codeAny_handlers_suite ?_
          refine HandSPX.lands_againZ fly3 fun g4 fly4 up4 => ?_
          have J4 : Inv X pins σ' H' { s' with heap := g4 } := J.landed nb fly4.1 ((up.trans up3).trans up4) os ag
          obtain ⟨oe4, vs4, he4, hz4, hd4⟩ := fly4.there
          refine wpAny_mono ((hsu a oe4 cls d (X.pn ++ pins) hz4 ⟨_, hd4⟩).run [] _ _ H' _ (J4.suite he4 hd4 na aL aF) (yes rfl a na)) (fun fl s6 hsp => ?_) (fun _ _ z => False.elim z)
          cases fl with
          | ret u =>
            obtain ⟨v6, σ6, H6, S6, r6, q6⟩ := hsp
            exact ⟨_, _, _, S6.unsuite okX, r6, q6⟩
          | next => exact (let ⟨_, _, S6, q6⟩ := hsp; ⟨_, _, S6.unsuite okX, q6⟩)
          | brk => exact (let ⟨_, _, S6, q6⟩ := hsp; ⟨_, _, S6.unsuite okX, q6⟩)
          | cont => exact (let ⟨_, _, S6, q6⟩ := hsp; ⟨_, _, S6.unsuite okX, q6⟩)
      | @named x n i c ts b0 suite np p1 hs3 l3 hi hln hc hsu r ih =>
        intro wv
        obtain ⟨b, hb1, yes, no⟩ := wv
        refine wpAny_handleBy_cons (codeAny_handlers_test ?_) (by intro q; cases q)
        refine test hc ((PySem.W.exm_one (M := model X.prog X.w) (J3.kIn) LT hb1).here ?_)
        cases b with
        | false => exact ih (no rfl)
        | true =>
          refine codeAny_handlers_suite_as ?_
          refine HandSPX.lands_againZ fly3 fun g4 fly4 up4 => ?_
          have J4 : Inv X pins σ' H' { s' with heap := g4 } := J.landed nb fly4.1 ((up.trans up3).trans up4) os ag
          obtain ⟨oe4, vs4, he4, hz4, hd4⟩ := fly4.there
          refine store_ok (X := X.suite a ((a, oe4) :: (X.pn ++ pins))) (v := .ref a) (J4.suite he4 hd4 na aL aF) hN hi (.inl hln) rfl (fun s5 S5 => ?_) (.inr hln)
          refine wpAny_mono ((hsu a oe4 cls d (X.pn ++ pins) hz4 ⟨_, hd4⟩).run [] s5 _ H' _ S5 (yes rfl a na)) (fun fl s6 hsp => ?_) (fun _ _ z => False.elim z)
          have gone : ∀ {σ6 : L2.St} {H6 : Hp} {Q : Shared → Prop}, Inv (X.suite a ((a, oe4) :: (X.pn ++ pins))) [] σ6 H6 s6 → (∀ s7, Inv X pins (σ6.set i none) H6 s7 → Q s7) →
              wpAny (model X.prog X.w) X.A (do bindName X.env n .none; unbindBehindTheSuite X.env n p1) (fun _ s7 => Q s7) X.xe s6 := fun {σ6 H6 Q} S6 hq => gone_ok (S6.unsuite okX) hN hi hln hq
          cases fl with
          | ret u =>
            obtain ⟨v6, σ6, H6, S6, r6, q6⟩ := hsp
            exact gone S6 fun s7 J7 => ⟨_, _, _, J7, r6, q6⟩
          | next => exact (let ⟨_, _, S6, q6⟩ := hsp; gone S6 fun s7 J7 => ⟨_, _, J7, q6⟩)
          | brk => exact (let ⟨_, _, S6, q6⟩ := hsp; gone S6 fun s7 J7 => ⟨_, _, J7, q6⟩)
          | cont => exact (let ⟨_, _, S6, q6⟩ := hsp; gone S6 fun s7 J7 => ⟨_, _, J7, q6⟩)
    exact go hh wv
  · cases fl with
    | ret u =>
      obtain ⟨v, σ', H', J', r, q⟩ := hsp
      exact ⟨v, σ', H', J'.ofTry okX, r, q⟩
    | next => exact (let ⟨_, _, J', q⟩ := hsp; wpAny_execs_nil ⟨_, _, J'.ofTry okX, q⟩)
    | brk => exact (let ⟨_, _, J', q⟩ := hsp; ⟨_, _, J'.ofTry okX, q⟩)
    | cont => exact (let ⟨_, _, J', q⟩ := hsp; ⟨_, _, J'.ofTry okX, q⟩)
end
end Vs
/-! # VsP -/
set_option Elab.async false
set_option linter.all false
set_option maxRecDepth 100000
set_option maxHeartbeats 4000000
/-! Vs, part P: isinstance of a caught error that has its dict. -/
namespace Vs
open PySem L2 PySem.Spec PyProof.Rows PySem.W PySem.Calls
open Evl (Ex)
section
variable {prog : Program} {w : World} {A : Around} {E : Value → Shared → Prop} {s : Shared} {K : Frag} {x D : Addr} {ox : Obj} {od : Option Obj}
theorem fo_data {C : Addr} {nm : Str} {a g : Value} (hc : (clsIn K C).isSome = true) (ha : findIn K (.ref C) nm = some (some a)) (hg : specialIn K a "__get__" = some (some g)) (ht : takesIn K a = some true) : findObj K C od nm = some (.bind g a) := by
  obtain ⟨cd, hcd⟩ := Option.isSome_iff_exists.mp hc
  unfold findObj
  rw [hcd, Option.bind_some, ha, Option.bind_some]
  simp [hg, ht]
/-- the class of an error, asked of it -/
theorem cls_of_err (C : ExcC K D) (X : K.In s.heap) (I : InstAt s.heap x ox D od) {Q : Option Value → Shared → Prop} (h : Q (some (.ref D)) { s with toks := s.toks + 1 }) : wpAny (model prog w) A (getAttr? (.ref x) "__class__") Q E s := by
  have fo : findObj K D od "__class__" = some (.bind (.builtin "getset_descriptor.__get__") (.builtin "object.__class__")) :=
    fo_data (by obtain ⟨cd, hc, _⟩ := any_some C.hd; rw [hc]; rfl) C.ha C.hn C.ht
  obtain ⟨hp, g, d, t, os⟩ := s
  have T0 := I.type (M := model prog w)
  have T1 := looks_findIn (M := model prog w) X C.hg
  have T2 := looks_findIn (M := model prog w) X C.hk
  have T3 := looks_find (M := model prog w) X I fo
  have isB : Looks (model prog w) hp (isInstance (.ref x) (.type "BaseException")) true := T0.andThen (looks_subIn X C.hs)
  have z0 : (false && onTheHeap (Value.builtin "BaseException.__getattribute__")) = false := rfl
  have z2 : (Value.builtin "BaseException.__getattribute__" == Value.builtin "object.__getattribute__") = false := by decide +kernel
  have z1 : (onTheHeap (Value.ref D) && Value.builtin "BaseException.__getattribute__" == Value.builtin "object.__getattribute__") = false := by rw [z2]; rfl
  unfold getAttr? getAttrBy? getAttrBy
  refine wpAny_bind (wpAny_mkText (wpAny_bind (wpAny_attempt (wpAny_holding (wpAny_bind (T0.at (wpAny_bind (T1.at ?_))))))))
  show wpAny _ _ (if (onTheHeap (Value.ref D) && Value.builtin "BaseException.__getattribute__" == Value.builtin "object.__getattribute__") = true then _ else _) _ _ _
  rw [z1, if_neg Bool.false_ne_true]
  unfold getAttrByItsOwn hookBefore
  refine wpAny_bind ?_
  rw [if_pos (show onTheHeap (Value.ref D) = true from rfl)]
  refine T2.at ?_
  refine wpAny_bind (wpAny_attempt (wpAny_holding ?_))
  unfold callGetattribute
  rw [z0, if_neg Bool.false_ne_true]
  unfold boundAndCalled
  rw [PySem.F.excAttr_ValueError.ga.bind (.ref x)]
  refine wpAny_bind (wpAny_pure ?_)
  show wpAny _ _ (call (.builtin "BaseException.__getattribute__") [.ref x, .str "__class__" t]) _ _ _
  refine wpAny_call (codeAny_call_builtin PySem.F.excAttr_ValueError.ga.plain PySem.F.entry_bexc_ga ?_)
  refine @check_slot (model prog w) _ _ ⟨hp, g, d, t + 1, os⟩ "BaseException.__getattribute__" "BaseException" "__getattribute__" (.ref x) [.str "__class__" t] [] _ (by decide +kernel) (by decide +kernel) isB (PySem.F.args_bexc_ga (.ref x) (.str "__class__" t)) ?_
  unfold Builtin.«object.__getattribute__»
  refine wpAny_bind (wpAny_of_eq (a := ((Value.ref x : Value), [Value.str "__class__" t])) (by first | rfl | (simp only [slotArgs]; rfl)) ?_)
  refine wpAny_bind (wpAny_pure (wpAny_bind (T0.at (wpAny_bind (T3.at ?_)))))
  show wpAny _ _ (holding [Value.builtin "object.__class__"] (call (.builtin "getset_descriptor.__get__") [.builtin "object.__class__", .ref x, .ref D]) >>= PySem.ret) _ _ _
  refine wpAny_bind (wpAny_holding (wpAny_call (class_get (s := ⟨hp, g, d, t + 1, os⟩) (ox := ox) (od := od) X I C.hm ?_)))
  refine wpAny_pure ?_
  show wpAny _ _ (handedOut (.ref D)) _ _ _
  rw [handedOut_of (v := .ref D) rfl]
  first
    | exact wpAny_pure (wpAny_pure h)
    | exact wpAny_pure h
    | exact wpAny_pure (wpAny_bind (wpAny_pure (wpAny_pure h)))
theorem kit_err (C : ExcC K D) : KitX K (.ref x) (.ref D) (fun h => ∃ od, InstAt h x ox D od) where
  ty := fun _ _ _ ⟨_, I⟩ => I.type
  it := fun _ _ X _ => by
    obtain ⟨cdD, hcD, _⟩ := any_some C.hd
    unfold clsIn at hcD
    split at hcD
    · rename_i c' d' cd' sl' ho
      intro A' Q' E' s' kp q
      unfold isType loadHead
      exact wpAny_bind (wpAny_loadPart (kp _ _ (X _ _ ho)) (wpAny_pure q))
    · cases hcD
  ne := fun h tp dd its n sl X htp => by
    obtain ⟨cdD, hcD, _⟩ := any_some C.hd
    refine Bool.eq_false_iff.mpr fun q => ?_
    have e : D = tp := Value.ref.inj (beq_iff_eq.mp q)
    subst e
    unfold clsIn at hcD
    split at hcD
    · rename_i c' d' cd' sl' ho
      cases (X _ _ ho).symm.trans htp
    · cases hcD
  ca := fun X ⟨_, I⟩ h => cls_of_err C X I h
end
/-- isinstance(e, c), e the error that the suite holds, its dict at dd -/
theorem call_isErr {X : Cx} {a D dd : Addr} {oe : Obj} {pn : List (Addr × Obj)} {fs : List (Str × V)} (C : ExcC X.K D) (hz : Zc (.ref D) (some dd) oe) (hf : ∃ vs, oe.data = .fields vs) :
    CallR (X.suite a ((a, oe) :: pn)) (.builtin "isinstance") (fun xs H Q => H dd = some (.xd fs) ∧ rIsE X.K D a xs H Q) := by
  intro pins s σ H xs us Q I r h
  obtain ⟨hx, c, cv, b, rfl, hcv, e, q⟩ := h
  obtain ⟨u1, u2, rfl, r1, r2⟩ := vals2 r
  cases (show u1 = Value.ref a from r1)
  cases hcv _ r2
  obtain ⟨hget, _⟩ := I.pin (a, oe) (List.mem_append.mpr (.inl List.mem_cons_self))
  obtain ⟨vs, hv⟩ := hf
  have ok : ObjOk X.prog X.w H s.heap dd (.xd fs) := I.hok dd _ hx
  obtain ⟨mA, hns, _⟩ := ok
  obtain ⟨od, ho, _⟩ := lookIn_ns hns
  have J : InstAt s.heap a oe D (some od) := ⟨hget, hz.1, by unfold notCls; rw [hv] <;> rfl, by rw [hz.2]; exact ho⟩
  exact kia_one (kit_err C) I.kIn ⟨_, J⟩ e (fun z => nomatch z) fun tk => ⟨.bl b, H, I.kept (t' := tk) fun _ _ z => z, rfl, q⟩
end Vs
/-! # VsQ -/
set_option Elab.async false
set_option linter.all false
set_option maxRecDepth 100000
set_option maxHeartbeats 4000000
/-! Vs, part Q: raise, try, a caught error's field and class, insert: what they are worth. -/
namespace Vs
open PySem L2 PySem.Spec PyProof.Rows
open Evl (Ex)
/-! ### raise -/
def sRaise (c : Nat) (me : M Rv) : M Fl := bnd me fun r => bnd (keep (fz r)) fun x => fun E => .ex c x E
structure GiOk (G : Gi) (K : PySem.W.Frag) (n : Nat) : Prop where
  err : ∀ c < n, ∃ fI qual, ErrC K (G.cls c) fI qual (G.fld c)
section
variable {G : Gi} {xa : Xa} {W : WX} {X : Cx}
theorem cs_raise {c n k : Nat} {x : Str} {e : Expr} {me : M Rv} {p pos pos2 : Pos} (hc : X.calm = true) (tk : Takes X W) (T : GiOk G X.K n) (hcn : c < n) (hr : Room k X.A) (hm : X.mg x = some (.ref (G.cls c))) (he : PE X e (tE G xa W me)) (hg : Gl X x)
    (hd : (x == ("__debug__" : Str)) = false := by decide) (hs : starEach (e :: []) X.env = (false, eval e X.env) :: starEach [] X.env := by rfl) (hpl : (backTo pos (starEach [] X.env)).any (·.1) = false := by rfl) :
    PS X (.Raise (some (.Call (.Name x p) [e] [] pos)) none pos2) (tS G xa W (sRaise c me)) := by
  obtain ⟨fI, qual, T⟩ := T.err c hcn
  refine imS (ps_raise hc tk (pmk_err T hr hm (pa_cons he pa_nil hs) hg hd hs hpl)) fun D σ H => ?_
  rintro ⟨F, E, er, h⟩
  change sP G xa W F E σ H D (sRaise c me E) at h
  show tE G xa W me σ H _
  refine tE.go er ?_
  unfold sRaise bnd at h
  cases hme : me E with
  | no => rw [hme] at h; exact h
  | ex c x E' => rw [hme] at h; exact h
  | ok r E1 =>
    rw [hme] at h
    simp only [Rs.go] at h
    intro v H1 er1 st1 vr1
    cases hk : keep (fz r) E1 with
    | no => rw [hk] at h; exact h.elim
    | ex c x E' => exact absurd hk keep_ex
    | ok y E2 =>
      rw [hk] at h
      obtain ⟨er2, st2, d⟩ := keepV er1 vr1 hk
      have h : xP G xa W F E σ H c y E2 := h
      refine ⟨v, rfl, fun dd hdd => ?_⟩
      have n : Nw (F ++ own E2 σ) [] H1 (upd H1 dd (.xd [(G.fld c, v)])) := Nw.newD (trOf er2) hdd
      refine h dd v σ _ (er2.new n) ((st1.trans st2).trans n.stp) ?_ (Dv.up d n.fr)
      show hid (F ++ own E2 σ) _ dd = _
      rw [hid_out (fun z => trOf er2 dd z hdd), upd_same]

/-! ### try -/
structure Hd where
  p : Nat → Option Bool
  i : Option Nat
  m : M Fl
def isEs : Sl → Bool
  | .e _ _ => true
  | _ => false
def noE (E : En) : Bool := E.all fun s => !isEs s
def suM (i : Option Nat) (m : M Fl) (c : Nat) (x : Dt) : M Fl := match i with
  | none => fun E => match m E with
    | .ok .nx E2 => if noE E2 then .ok .nx E2 else .no
    | _ => .no
  | some i => fun E => match setS i (.e c x) E with
    | .ok _ E1 => match m E1 with
      | .ok .nx E2 => match setS i .un E2 with
        | .ok _ E3 => if noE E3 then .ok .nx E3 else .no
        | _ => .no
      | _ => .no
    | _ => .no
def hdM : List Hd → Nat → Dt → M Fl
  | [], c, x => fun E => .ex c x E
  | h :: r, c, x => match h.p c with
    | some true => suM h.i h.m c x
    | some false => hdM r c x
    | none => fail
def tryM (mb : M Fl) (hs : List Hd) : M Fl := fun E => match mb E with
  | .ex c x E' => hdM hs c x E'
  | r => r
theorem sr_none {Hh H : Hp} {s : Sl} {v : Option V} {xb : Xa} (h : SR G none Hh H s v) : SR G xb Hh H s v := by
  cases s with
  | e c x =>
    cases v with
    | none => exact h
    | some v =>
      cases v with
      | ref a => obtain ⟨dd, w, e, _⟩ := h; cases e
      | _ => exact h
  | un => exact h
  | d x => cases v <;> exact h
  | l xs =>
    cases v with
    | none => exact h
    | some v => cases v <;> exact h
  | r f xs =>
    cases f <;> cases v with
    | none => exact h
    | some v => cases v <;> exact h
  | s ns =>
    cases v with
    | none => exact h
    | some v => cases v <;> exact h
theorem sr_noE {Hh H : Hp} {s : Sl} {v : Option V} {xb xc : Xa} (hs : isEs s = false) (h : SR G xb Hh H s v) : SR G xc Hh H s v := by
  cases s with
  | e c x => cases hs
  | un => exact h
  | d x => cases v <;> exact h
  | l xs =>
    cases v with
    | none => exact h
    | some v => cases v <;> exact h
  | r f xs =>
    cases f <;> cases v with
    | none => exact h
    | some v => cases v <;> exact h
  | s ns =>
    cases v with
    | none => exact h
    | some v => cases v <;> exact h
theorem ER.to {F ex : List Addr} {σ : L2.St} {H : Hp} {E : En} {xb : Xa} (er : ER G none F ex σ H E) : ER G xb F ex σ H E := ⟨er.nd, er.tr, er.len, fun i s v h1 h2 => sr_none (er.sl i s v h1 h2)⟩
theorem ER.off {F ex : List Addr} {σ : L2.St} {H : Hp} {E : En} {xb : Xa} (er : ER G xb F ex σ H E) (h : noE E = true) : ER G none F ex σ H E := ⟨er.nd, er.tr, er.len, fun i s v h1 h2 => by
  have q := List.all_eq_true.mp h s (List.mem_of_getElem? h1)
  exact sr_noE (by simpa using q) (er.sl i s v h1 h2)⟩
abbrev ClM := Value × Hd
def clT (G : Gi) (q : ClM) : ClT := (q.1, q.2.i, fun a cls d => tS G (some (a, cls, d)) wF q.2.m)
theorem su_imp {F : List Addr} {E E1 : En} {σ σ1 : L2.St} {H H1 : Hp} {D : Ends} {i : Option Nat} {m : M Fl} {c : Nat} {x : Dt} {dd : Addr} {w : V} (er : ER G none F [] σ1 H1 E1) (st : Stp F E σ H [] E1 σ1 H1) (hd : vis F E1 σ1 H1 dd = some (.xd [(G.fld c, w)])) (dw : Dv G.K (vis F E1 σ1 H1) w x)
    (h : sP G none W F E σ H D (suM i m c x E1)) : clGo i (fun a cls d => tS G (some (a, cls, d)) wF m) D (.ref (G.cls c)) (some dd) σ1 H1 := by
  cases i with
  | none =>
    intro a ha
    refine ⟨F, E1, er.to, ?_⟩
    unfold suM at h
    cases hm : m E1 with
    | no => simp only [hm] at h; exact h.elim
    | ex c x E' => simp only [hm] at h; exact h.elim
    | ok f E2 =>
      cases f with
      | nx =>
        simp only [hm] at h
        by_cases hn : noE E2 = true
        · rw [if_pos hn] at h
          exact fun σ2 H2 er2 st2 => h σ2 H2 (er2.off hn) (st.trans st2)
        · rw [if_neg hn] at h; exact h.elim
      | rt r => simp only [hm] at h; exact h.elim
      | bk => simp only [hm] at h; exact h.elim
      | ct => simp only [hm] at h; exact h.elim
  | some i =>
    intro a ha
    unfold suM at h
    simp only at h
    rcases setS_cases i (.e c x) E1 with e | e
    · rw [e] at h
      simp only at h
      obtain ⟨_, _, s0, h0, hne⟩ := setS_ok e
      have er' : ER G (some (a, .ref (G.cls c), some dd)) F [] σ1 H1 E1 := er.to
      obtain ⟨v0, hv0, _⟩ := er.slot h0
      obtain ⟨A, B, e1, e2⟩ := own_split h0 hv0
      have e3 := e2 (.e c x) (some (.ref a))
      have ono : ownA (.e c x) (some (.ref a)) = [] := rfl
      rw [ono, List.nil_append] at e3
      have x1 : Ex (vis F E1 σ1 H1) (vis F (E1.set i (.e c x)) (σ1.set i (some (.ref a))) H1) := ex_hid fun y hy => by
        rcases List.mem_append.mp hy with hy | hy
        · exact List.mem_append_left _ hy
        · refine List.mem_append_right _ ?_
          rw [e3] at hy
          rw [e1]
          exact (sub_tail _).subset hy
      obtain ⟨er2, fr2⟩ := er'.setP (i := i) (s := .e c x) (v := some (.ref a)) h0 ono ⟨dd, w, rfl, x1 _ _ hd, Dv.up dw x1⟩
      refine ⟨F, E1.set i (.e c x), er2, ?_⟩
      have st2 : Stp F E σ H [] (E1.set i (.e c x)) (σ1.set i (some (.ref a))) H1 := Stp.set (ex := []) hne fr2 st
      cases hm : m (E1.set i (.e c x)) with
      | no => simp only [hm] at h; exact h.elim
      | ex c x E' => simp only [hm] at h; exact h.elim
      | ok f E2 =>
        cases f with
        | nx =>
          simp only [hm] at h
          intro σ2 H2 er3 st3
          rcases setS_cases i .un E2 with q | q
          · rw [q] at h
            simp only at h
            obtain ⟨_, _, s1, h1, hne1⟩ := setS_ok q
            obtain ⟨er4, fr4⟩ := er3.setP (i := i) (s := .un) (v := none) h1 rfl True.intro
            by_cases hn : noE (E2.set i .un) = true
            · rw [if_pos hn] at h
              exact h _ _ (er4.off hn) (Stp.set (ex := []) hne1 fr4 (st2.trans st3))
            · rw [if_neg hn] at h; exact h.elim
          · rw [q] at h; exact h.elim
        | rt r => simp only [hm] at h; exact h.elim
        | bk => simp only [hm] at h; exact h.elim
        | ct => simp only [hm] at h; exact h.elim
    · rw [e] at h; exact h.elim
theorem hd_imp {F : List Addr} {E E1 : En} {σ σ1 : L2.St} {H H1 : Hp} {D : Ends} {c : Nat} {x : Dt} {dd : Addr} {w : V} {K : PySem.W.Frag} (er : ER G none F [] σ1 H1 E1) (st : Stp F E σ H [] E1 σ1 H1) (hd : vis F E1 σ1 H1 dd = some (.xd [(G.fld c, w)])) (dw : Dv G.K (vis F E1 σ1 H1) w x) :
    ∀ (L : List ClM), (∀ q ∈ L, ∀ c b, q.2.p c = some b → PySem.W.exmOne K (.ref (G.cls c)) q.1 = some b) → sP G none W F E σ H D (hdM (L.map fun q : ClM => q.2) c x E1) → wCl K W D (L.map (clT G)) (.ref (G.cls c)) (some dd) σ1 H1
  | [], _, h => by
    have h : xP G none W F E σ H c x E1 := h
    exact h dd w σ1 H1 er st hd dw
  | q :: L, hp, h => by
    have h : sP G none W F E σ H D ((match q.2.p c with
      | some true => suM q.2.i q.2.m c x
      | some false => hdM (L.map fun q : ClM => q.2) c x
      | none => fail) E1) := h
    cases hpc : q.2.p c with
    | none => rw [hpc] at h; exact h.elim
    | some b =>
      rw [hpc] at h
      refine ⟨b, hp q List.mem_cons_self c b hpc, fun hb => ?_, fun hb => ?_⟩
      · subst hb
        exact su_imp er st hd dw h
      · subst hb
        exact hd_imp er st hd dw L (fun q hq => hp q (List.mem_cons_of_mem _ hq)) h
theorem cs_try {body : List Stmt} {hd0 : ExceptHandler} {hds : List ExceptHandler} {L : List ClM} {pos : Pos} {mb : M Fl} (hst : X.stack = X.env :: X.outer) (hfr : X.env.frame = some X.env.locals) (hN : X.N.Nodup) (tk : Takes X W)
    (hb : ∀ (W : WX) (pn : List (Addr × Obj)) (xe : Value → Shared → Prop), Takes (X.tr pn xe) W → PassesOwn (model X.prog X.w) X.A X.env xe → PSs (X.tr pn xe) body (tS G none W mb)) (hh : ClsOk X (hd0 :: hds) (L.map (clT G)))
    (hp : ∀ q ∈ L, ∀ c b, q.2.p c = some b → PySem.W.exmOne X.K (.ref (G.cls c)) q.1 = some b) : PS X (.Try body (hd0 :: hds) [] [] pos) (tS G none W (tryM mb (L.map fun q : ClM => q.2))) :=
  imS (ps_try_cl (tb := fun W => tS G none W mb) hst hfr hN tk hb hh) fun D σ H => by
  rintro ⟨F, E, er, h⟩
  change sP G none W F E σ H D (tryM mb (L.map fun q : ClM => q.2) E) at h
  refine ⟨F, E, er, ?_⟩
  unfold tryM at h
  cases hm : mb E with
  | no => rw [hm] at h; exact h.elim
  | ok f E1 => rw [hm] at h; cases f <;> exact h
  | ex c x E1 =>
    rw [hm] at h
    intro dd w σ1 H1 er1 st1 hd dw
    exact hd_imp er1 st1 hd dw L hp h

/-! ### in an except suite -/
def eFld (ok : Nat → Bool) (i : Nat) : M Rv := fun E => match E[i]? with
  | some (.e c x) => if ok c then .ok (.d x) E else .no
  | _ => .no
theorem e_slot {F : List Addr} {E : En} {σ : L2.St} {H : Hp} {a : Addr} {cls : Value} {d : Option Addr} {i c : Nat} {x : Dt} (er : ER G (some (a, cls, d)) F [] σ H E) (h : E[i]? = some (.e c x)) :
    σ[i]? = some (some (.ref a)) ∧ cls = .ref (G.cls c) ∧ ∃ dd w, d = some dd ∧ vis F E σ H dd = some (.xd [(G.fld c, w)]) ∧ Dv G.K (vis F E σ H) w x := by
  obtain ⟨v, hv, sr⟩ := er.slot h
  cases v with
  | none => exact sr.elim
  | some v =>
    cases v with
    | ref a' =>
      obtain ⟨dd, w, e, h1, h2⟩ := sr
      cases e
      exact ⟨hv, rfl, dd, w, rfl, h1, h2⟩
    | _ => exact sr.elim
theorem ce_fld {a : Addr} {oe : Obj} {cls : Value} {d : Option Addr} {pn : List (Addr × Obj)} {ok : Nat → Bool} {i : Nat} {e : Expr} {f : Str} {pos : Pos} (hz : Zc cls d oe) (hf : ∃ vs, oe.data = .fields vs) (hT : ∀ c, ok c = true → G.fld c = f ∧ ∃ fI qual, ErrC X.K (G.cls c) fI qual (G.fld c))
    (he : PE (X.suite a ((a, oe) :: pn)) e (tVar i)) (hb : attributeBase e f X.env (eval e X.env) = eval e X.env := by rfl) : PE (X.suite a ((a, oe) :: pn)) (.Attribute e f pos) (tE G (some (a, cls, d)) W (eFld ok i)) := ⟨fun pins s σ H Q I h => by
  obtain ⟨F, E, er, h⟩ := h
  unfold eFld at h
  cases hs : E[i]? with
  | none => rw [hs] at h; exact h.elim
  | some sl =>
    rw [hs] at h
    obtain ⟨c, x, rfl⟩ : ∃ c x, sl = .e c x := by cases sl <;> first | exact ⟨_, _, rfl⟩ | exact h.elim
    simp only at h
    by_cases hk : ok c = true
    · rw [if_pos hk] at h
      obtain ⟨hv, hcls, dd, w, hd, h1, h2⟩ := e_slot er hs
      obtain ⟨hfe, fI, qual, T⟩ := hT c hk
      subst hfe
      exact (pe_fld T hz hf he hb).run pins s σ H Q I ⟨.ref a, hv, rfl, hcls, dd, w, hd, ex_hid0 _ _ h1, h [] w H er (Stp.refl _ _ _ _) ⟨rfl, h2⟩⟩
    · rw [if_neg hk] at h; exact h.elim⟩
def eIsE (p : Nat → Option Bool) (i : Nat) : M Rv := fun E => match E[i]? with
  | some (.e c x) => match p c with
    | some b => .ok (.d (.bool b)) E
    | none => .no
  | _ => .no
theorem ce_isE {a : Addr} {oe : Obj} {cls : Value} {d : Option Addr} {pn : List (Addr × Obj)} {p : Nat → Option Bool} {i : Nat} {x n : Str} {cv : Value} {cV : V} {q1 q2 q3 pos : Pos} (hz : Zc cls d oe) (hf : ∃ vs, oe.data = .fields vs) (hT : ∀ c b, p c = some b → ExcC X.K (G.cls c) ∧ PySem.W.kitOne X.K (.ref (G.cls c)) cv = some b)
    (hv : ∀ u, RelV cV u → u = cv) (he : PE (X.suite a ((a, oe) :: pn)) (.Name n q2) (tVar i)) (hx : PE (X.suite a ((a, oe) :: pn)) (.Name x q3) (tC cV)) (hg : Gl X "isinstance") (hm : X.mg "isinstance" = none)
    (hs : starEach [.Name n q2, .Name x q3] X.env = (false, eval (.Name n q2) X.env) :: starEach [.Name x q3] X.env := by rfl) (hs2 : starEach [.Name x q3] X.env = (false, eval (.Name x q3) X.env) :: starEach [] X.env := by rfl)
    (hpl : (backTo pos (starEach [.Name x q3] X.env)).any (·.1) = false := by rfl) :
    PE (X.suite a ((a, oe) :: pn)) (.Call (.Name "isinstance" q1) [.Name n q2, .Name x q3] [] pos) (tE G (some (a, cls, d)) W (eIsE p i)) := ⟨fun pins s σ H Q I h => by
  obtain ⟨F, E, er, h⟩ := h
  unfold eIsE at h
  cases hsl : E[i]? with
  | none => rw [hsl] at h; exact h.elim
  | some sl =>
    rw [hsl] at h
    obtain ⟨c, y, rfl⟩ : ∃ c x, sl = .e c x := by cases sl <;> first | exact ⟨_, _, rfl⟩ | exact h.elim
    simp only at h
    cases hk : p c with
    | none => rw [hk] at h; exact h.elim
    | some b =>
      rw [hk] at h
      obtain ⟨hva, hcls, dd, w, hd, h1, h2⟩ := e_slot er hsl
      obtain ⟨C, hkit⟩ := hT c b hk
      subst hcls; subst hd
      exact (pe_callB (X := X.suite a ((a, oe) :: pn)) (call_isErr (fs := [(G.fld c, w)]) C hz hf) hg hm PyProof.Rows.boot_isinstance (pa_cons he (pa_cons hx pa_nil hs2) hs) (by decide) (by decide) hs hpl).run pins s σ H Q I
        ⟨.ref a, hva, ex_hid0 _ _ h1, cV, cv, b, rfl, hv, hkit, h [] (.bl b) H er (Stp.refl _ _ _ _) ⟨rfl, .bl _⟩⟩⟩

/-! ### x.insert(k, e) -/
def insD (xs : List Dt) (k : Int) (x : Dt) : List Dt := xs.take k.toNat ++ [x] ++ xs.drop k.toNat
def sIns (i : Nat) (ma : M (List Rv)) : M Fl := fun E => match (E[i]?).bind ownL with
  | some _ => (bnd ma fun rs => match rs with
    | [k, r] => bnd (val k) fun k => bnd (keep r) fun x => match k with
      | .int k => mutL i fun xs => if okLen xs && decide (0 ≤ k ∧ k < 2 ^ 62) then some (insD xs k x) else none
      | _ => fail
    | _ => fail) E
  | none => .no
theorem cs_ins {i : Nat} {x : Str} {e e2 : Expr} {ma : M (List Rv)} {p apos cpos pos : Pos} (hK : X.K = G.K) (hx : PE X (.Name x p) (tVar i)) (ha : PA X [e, e2] (tA G xa W ma))
    (hbase : attributeBase (.Name x p) "insert" X.env (eval (.Name x p) X.env) = eval (.Name x p) X.env := by rfl)
    (hfew : ((backTo cpos (starEach (e :: [e2]) X.env)).all (fun x => !x.1) && (backToKw cpos (keywordEach [] X.env)).all (fun x => x.1.isSome) && decide ((e :: [e2]).length + ([] : List Keyword).length + (if ([] : List Keyword).isEmpty then 0 else 1) < 30)) = true := by rfl)
    (hline : (apos.endLine == cpos.line) = true := by rfl) (hs : starEach (e :: [e2]) X.env = (false, eval e X.env) :: starEach [e2] X.env := by rfl) (hplain : (backTo cpos (starEach [e2] X.env)).any (·.1) = false := by rfl)
    (hsw : swapsWith (.Call (.Attribute (.Name x p) "insert" apos) [e, e2] [] cpos) none pos.line X.env = pure false := by rfl) :
    PS X (.Expr (.Call (.Attribute (.Name x p) "insert" apos) [e, e2] [] cpos) pos) (tS G xa W (sIns i ma)) :=
  imS (ps_expr (pe_bm PySem.F.plainAttrs_list PySem.F.slot_list_insert PySem.F.type_list_insert mt_insert hx ha hbase hfew hline hs hplain) hsw) fun D σ H => by
    rintro ⟨F, E, er, h⟩
    change sP G xa W F E σ H D (sIns i ma E) at h
    unfold sIns at h
    cases h0 : (E[i]?).bind ownL with
    | none => rw [h0] at h; exact h.elim
    | some xs0 =>
      rw [h0] at h
      cases hs0 : E[i]? with
      | none => rw [hs0] at h0; cases h0
      | some s0 =>
        rw [hs0] at h0
        obtain ⟨a, vs0, hv, hha, _, _, _⟩ := ownL_at er hs0 h0
        refine ⟨.ref a, hv, .inl ⟨rfl, vs0, SqL.of hha⟩, tA.go er ?_⟩
        simp only [bnd] at h
        cases hm : ma E with
        | no => rw [hm] at h; exact h
        | ex c x E' => rw [hm] at h; exact h
        | ok rs E1 =>
          rw [hm] at h
          simp only [Rs.go, bnd] at h
          intro ws H1 er1 st1 vr1
          cases vr1 with
          | nil => exact h.elim
          | @cons r1 _ w1 _ v1 t1 =>
            cases t1 with
            | nil => exact h.elim
            | @cons r2 _ w2 _ v2 t2 =>
              cases t2 with
              | cons _ _ => exact h.elim
              | nil =>
                simp only [bnd, val, Rs.go] at h
                cases hk : peek (fz r1) E1 with
                | none => rw [hk] at h; exact h.elim
                | some kx =>
                  rw [hk] at h
                  simp only at h
                  cases hkp : keep (fz r2) E1 with
                  | no => rw [hkp] at h; exact h.elim
                  | ex c x E' => exact absurd hkp keep_ex
                  | ok y E2 =>
                    rw [hkp] at h
                    simp only at h
                    obtain ⟨er2, st2, d⟩ := keepV er1 v2 hkp
                    cases kx with
                    | int k =>
                      have ek := (v1.op er1 hk).int
                      subst ek
                      simp only at h
                      unfold mutL at h
                      cases hs2 : E2[i]? with
                      | none => rw [hs2] at h; exact h.elim
                      | some s2 =>
                        rw [hs2] at h
                        simp only at h
                        cases ho2 : ownL s2 with
                        | none => rw [ho2] at h; exact h.elim
                        | some xs =>
                          rw [ho2] at h
                          simp only [Option.bind] at h
                          obtain ⟨b, vs, hv2, hb, db, oa, pu⟩ := ownL_at er2 hs2 ho2
                          have eb : b = a := by
                            rw [hv] at hv2
                            cases hv2
                            rfl
                          subst eb
                          by_cases hz : (okLen xs && decide (0 ≤ k ∧ k < 2 ^ 62)) = true
                          · simp only [hz, if_true] at h
                            rw [Bool.and_eq_true] at hz
                            have hz2 := of_decide_eq_true hz.2
                            refine ⟨b, vs, k, w2, rfl, rfl, hb, ?_, hz2.1, by omega, ?_⟩
                            · rw [dpa_len db]
                              exact Nat.lt_of_le_of_lt (of_decide_eq_true hz.1) (by decide)
                            · obtain ⟨er3, st3⟩ := mutL_ok er2 hs2 hv2 oa (pu (insD xs k y)) (dpa_app (dpa_app (dpa_take _ db) (dpa_one d)) (dpa_drop _ db))
                              exact h σ _ er3 ((st1.trans st2).trans st3)
                          · simp only [hz] at h
                            exact h.elim
                    | _ => exact h.elim
theorem ce_glob {x : Str} {v : V} {u : Value} {y : Dt} {pos : Pos} (hg : Gl X x) (hm : X.mg x = some u) (r : RelV v u) (hy : ∀ K H, Dv K H v y) (hd : (x == ("__debug__" : Str)) = false := by decide) : PE X (.Name x pos) (tE G xa W (eC y)) := ce_const (pe_glob hg hm r hd) hy
end
end Vs
/-! # VsR -/
set_option Elab.async false
set_option linter.all false
set_option maxRecDepth 100000
set_option maxHeartbeats 4000000
/-! Vs, part R: the rules in short, for printed derivations. -/
namespace Vs
open PySem L2 PySem.Spec PyProof.Rows
open Evl (Ex)
theorem b_len : bootBuiltins "len" = some (.builtin "len") := by decide +kernel
theorem b_repr : bootBuiltins "repr" = some (.builtin "repr") := by decide +kernel
theorem b_all : bootBuiltins "all" = some (.builtin "all") := by decide +kernel
theorem b_any : bootBuiltins "any" = some (.builtin "any") := by decide +kernel
theorem b_min : bootBuiltins "min" = some (.builtin "min") := by decide +kernel
theorem b_max : bootBuiltins "max" = some (.builtin "max") := by decide +kernel
theorem b_abs : bootBuiltins "abs" = some (.builtin "abs") := by decide +kernel
theorem b_int : bootBuiltins "int" = some (.type "int") := by decide +kernel
theorem b_bool : bootBuiltins "bool" = some (.type "bool") := by decide +kernel
theorem b_str : bootBuiltins "str" = some (.type "str") := by decide +kernel
theorem b_list : bootBuiltins "list" = some (.type "list") := by decide +kernel
theorem b_tuple : bootBuiltins "tuple" = some (.type "tuple") := by decide +kernel
theorem b_VE : bootBuiltins "ValueError" = some (.type "ValueError") := by decide +kernel
theorem u64 {k : Nat} {A : Around} (h : Room k A) : A.units + 64 < cLine := by have := h.un; omega
theorem u65 {k : Nat} {A : Around} (h : Room k A) : A.units + 65 < cLine := by have := h.un; omega
section
variable {G : Gi} {xa : Xa} {W : WX} {X : Cx} {k : Nat} {a b e : Expr} {ma mb : M Rv} {pos p p2 : Pos}
theorem d_add (hK : X.K = G.K) (ha : PE X a (tE G xa W ma)) (hb : PE X b (tE G xa W mb)) : PE X (.BinOp a .Add b pos) (tE G xa W (e2 gAdd ma mb)) := ce_op (by rw [← hK]; exact o_add) s_add ha hb
theorem d_sub (hK : X.K = G.K) (ha : PE X a (tE G xa W ma)) (hb : PE X b (tE G xa W mb)) : PE X (.BinOp a .Sub b pos) (tE G xa W (e2 gSub ma mb)) := ce_op op_sub s_sub ha hb
theorem d_mul (hK : X.K = G.K) (ha : PE X a (tE G xa W ma)) (hb : PE X b (tE G xa W mb)) : PE X (.BinOp a .Mult b pos) (tE G xa W (e2 gMul ma mb)) := ce_op (by rw [← hK]; exact o_mul) s_mul ha hb
theorem d_div (hK : X.K = G.K) (ha : PE X a (tE G xa W ma)) (hb : PE X b (tE G xa W mb)) : PE X (.BinOp a .FloorDiv b pos) (tE G xa W (e2 gDiv ma mb)) := ce_op op_fdivW s_div ha hb
theorem d_mod (hK : X.K = G.K) (ha : PE X a (tE G xa W ma)) (hb : PE X b (tE G xa W mb)) : PE X (.BinOp a .Mod b pos) (tE G xa W (e2 gMod ma mb)) := ce_op op_mod s_mod ha hb
theorem d_pow (hK : X.K = G.K) (ha : PE X a (tE G xa W ma)) (hb : PE X b (tE G xa W mb)) : PE X (.BinOp a .Pow b pos) (tE G xa W (e2 gPow ma mb)) := ce_op op_pow s_pow ha hb
theorem d_neg (ha : PE X a (tE G xa W ma)) : PE X (.UnaryOp .USub a pos) (tE G xa W (e1 gNeg ma)) := ce_un un_neg s_neg ha
theorem d_lt (ha : PE X a (tE G xa W ma)) (hb : PE X b (tE G xa W mb)) : PE X (.Compare a [.Lt] [b] pos) (tE G xa W (e2 gLt ma mb)) := ce_cmp op_lt s_cmp ha hb (nomark _)
theorem d_le (ha : PE X a (tE G xa W ma)) (hb : PE X b (tE G xa W mb)) : PE X (.Compare a [.LtE] [b] pos) (tE G xa W (e2 gLe ma mb)) := ce_cmp op_le s_cmp ha hb (nomark _)
theorem d_gt (ha : PE X a (tE G xa W ma)) (hb : PE X b (tE G xa W mb)) : PE X (.Compare a [.Gt] [b] pos) (tE G xa W (e2 gGt ma mb)) := ce_cmp op_gt s_cmp ha hb (nomark _)
theorem d_ge (ha : PE X a (tE G xa W ma)) (hb : PE X b (tE G xa W mb)) : PE X (.Compare a [.GtE] [b] pos) (tE G xa W (e2 gGe ma mb)) := ce_cmp op_ge s_cmp ha hb (nomark _)
theorem d_eq (hK : X.K = G.K) (hr : Room k X.A) (ha : PE X a (tE G xa W ma)) (hb : PE X b (tE G xa W mb)) : PE X (.Compare a [.Eq] [b] pos) (tE G xa W (e2 gEq ma mb)) := ce_cmp (by rw [← hK]; exact o_eq (u64 hr)) s_eq ha hb (nomark _)
theorem d_ne (hK : X.K = G.K) (hr : Room k X.A) (ha : PE X a (tE G xa W ma)) (hb : PE X b (tE G xa W mb)) : PE X (.Compare a [.NotEq] [b] pos) (tE G xa W (e2 gNe ma mb)) := ce_cmp (by rw [← hK]; exact o_ne (u64 hr)) s_ne ha hb (nomark _)
theorem d_in (hK : X.K = G.K) (hr : Room k X.A) (ha : PE X a (tE G xa W ma)) (hb : PE X b (tE G xa W mb)) (hm : behindInMarks .In b = false) : PE X (.Compare a [.In] [b] pos) (tE G xa W (e2 gIn ma mb)) := ce_cmp (by rw [← hK]; exact o_in (u65 hr)) s_in ha hb hm
theorem d_notIn (hK : X.K = G.K) (hr : Room k X.A) (ha : PE X a (tE G xa W ma)) (hb : PE X b (tE G xa W mb)) (hm : behindInMarks .NotIn b = false) : PE X (.Compare a [.NotIn] [b] pos) (tE G xa W (e2 gNotIn ma mb)) := ce_cmp (by rw [← hK]; exact o_notIn (u65 hr)) s_notIn ha hb hm
theorem d_isN (ha : PE X a (tE G xa W ma)) (hb : PE X b (tE G xa W mb)) : PE X (.Compare a [.Is] [b] pos) (tE G xa W (e2 gIsN ma mb)) := ce_cmp op_isN s_isN ha hb (nomark _)
theorem d_notN (ha : PE X a (tE G xa W ma)) (hb : PE X b (tE G xa W mb)) : PE X (.Compare a [.IsNot] [b] pos) (tE G xa W (e2 gNotN ma mb)) := ce_cmp op_notN s_notN ha hb (nomark _)
theorem t_lt (ha : PE X a (tE G xa W ma)) (hb : PE X b (tE G xa W mb)) : PT X (.Compare a [.Lt] [b] pos) (tT G xa W (tB1 (e2 gLt ma mb))) := ct_cmp op_lt s_cmp ha hb (nomark _)
theorem t_le (ha : PE X a (tE G xa W ma)) (hb : PE X b (tE G xa W mb)) : PT X (.Compare a [.LtE] [b] pos) (tT G xa W (tB1 (e2 gLe ma mb))) := ct_cmp op_le s_cmp ha hb (nomark _)
theorem t_gt (ha : PE X a (tE G xa W ma)) (hb : PE X b (tE G xa W mb)) : PT X (.Compare a [.Gt] [b] pos) (tT G xa W (tB1 (e2 gGt ma mb))) := ct_cmp op_gt s_cmp ha hb (nomark _)
theorem t_ge (ha : PE X a (tE G xa W ma)) (hb : PE X b (tE G xa W mb)) : PT X (.Compare a [.GtE] [b] pos) (tT G xa W (tB1 (e2 gGe ma mb))) := ct_cmp op_ge s_cmp ha hb (nomark _)
theorem t_eq (hK : X.K = G.K) (hr : Room k X.A) (ha : PE X a (tE G xa W ma)) (hb : PE X b (tE G xa W mb)) : PT X (.Compare a [.Eq] [b] pos) (tT G xa W (tB1 (e2 gEq ma mb))) := ct_cmp (by rw [← hK]; exact o_eq (u64 hr)) s_eq ha hb (nomark _)
theorem t_ne (hK : X.K = G.K) (hr : Room k X.A) (ha : PE X a (tE G xa W ma)) (hb : PE X b (tE G xa W mb)) : PT X (.Compare a [.NotEq] [b] pos) (tT G xa W (tB1 (e2 gNe ma mb))) := ct_cmp (by rw [← hK]; exact o_ne (u64 hr)) s_ne ha hb (nomark _)
theorem t_in (hK : X.K = G.K) (hr : Room k X.A) (ha : PE X a (tE G xa W ma)) (hb : PE X b (tE G xa W mb)) (hm : behindInMarks .In b = false) : PT X (.Compare a [.In] [b] pos) (tT G xa W (tB1 (e2 gIn ma mb))) := ct_cmp (by rw [← hK]; exact o_in (u65 hr)) s_in ha hb hm
theorem t_notIn (hK : X.K = G.K) (hr : Room k X.A) (ha : PE X a (tE G xa W ma)) (hb : PE X b (tE G xa W mb)) (hm : behindInMarks .NotIn b = false) : PT X (.Compare a [.NotIn] [b] pos) (tT G xa W (tB1 (e2 gNotIn ma mb))) := ct_cmp (by rw [← hK]; exact o_notIn (u65 hr)) s_notIn ha hb hm
theorem t_isN (ha : PE X a (tE G xa W ma)) (hb : PE X b (tE G xa W mb)) : PT X (.Compare a [.Is] [b] pos) (tT G xa W (tB1 (e2 gIsN ma mb))) := ct_cmp op_isN s_isN ha hb (nomark _)
theorem t_notN (ha : PE X a (tE G xa W ma)) (hb : PE X b (tE G xa W mb)) : PT X (.Compare a [.IsNot] [b] pos) (tT G xa W (tB1 (e2 gNotN ma mb))) := ct_cmp op_notN s_notN ha hb (nomark _)
theorem d_ix (hK : X.K = G.K) (ha : PE X a (tE G xa W ma)) (hb : PE X b (tE G xa W mb)) (hp : PlainIx b) : PE X (.Subscript a b pos) (tE G xa W (e2 gIx ma mb)) := ce_ix (by rw [← hK]; exact ix_seq) s_ix ha hb hp
theorem d_sl {lo hi : Option Expr} {ml mh : Option (M Rv)} (hK : X.K = G.K) (ha : PE X e (tE G xa W ma)) (hl : PO X lo (tO G xa W ml)) (hh : PO X hi (tO G xa W mh)) : PE X (.Subscript e (.Slice lo hi none p2) pos) (tE G xa W (eSl gSl ma ml mh)) := ce_slice (by rw [← hK]; exact o_sl) s_sl ha hl hh
variable {es : List Expr} {mA : M (List Rv)}
theorem d_len (hK : X.K = G.K) (hg : Gl X "len") (hm : X.mg "len" = none) (ha : PA X [e] (tA G xa W mA)) (he : starEach [e] X.env = (false, eval e X.env) :: starEach [] X.env := by rfl) (hpl : (backTo pos (starEach [] X.env)).any (·.1) = false := by rfl) :
    PE X (.Call (.Name "len" p) [e] [] pos) (tE G xa W (eB gLen mA)) := ce_callB (by rw [← hK]; exact call_len) s_len hg hm b_len ha (by decide) (by decide) he hpl
theorem d_all (hK : X.K = G.K) (hc : X.calm = true) (hg : Gl X "all") (hm : X.mg "all" = none) (ha : PA X [e] (tA G xa W mA)) (he : starEach [e] X.env = (false, eval e X.env) :: starEach [] X.env := by rfl) (hpl : (backTo pos (starEach [] X.env)).any (·.1) = false := by rfl) :
    PE X (.Call (.Name "all" p) [e] [] pos) (tE G xa W (eB gAllB mA)) := ce_callB (by rw [← hK]; exact cr_all hc) s_all hg hm b_all ha (by decide) (by decide) he hpl
theorem d_any (hK : X.K = G.K) (hc : X.calm = true) (hg : Gl X "any") (hm : X.mg "any" = none) (ha : PA X [e] (tA G xa W mA)) (he : starEach [e] X.env = (false, eval e X.env) :: starEach [] X.env := by rfl) (hpl : (backTo pos (starEach [] X.env)).any (·.1) = false := by rfl) :
    PE X (.Call (.Name "any" p) [e] [] pos) (tE G xa W (eB gAnyB mA)) := ce_callB (by rw [← hK]; exact cr_any hc) s_any hg hm b_any ha (by decide) (by decide) he hpl
theorem d_abs (hg : Gl X "abs") (hm : X.mg "abs" = none) (ha : PA X [e] (tA G xa W mA)) (he : starEach [e] X.env = (false, eval e X.env) :: starEach [] X.env := by rfl) (hpl : (backTo pos (starEach [] X.env)).any (·.1) = false := by rfl) :
    PE X (.Call (.Name "abs" p) [e] [] pos) (tE G xa W (eB gAbs mA)) := ce_callB call_abs s_abs hg hm b_abs ha (by decide) (by decide) he hpl
theorem d_repr (hK : X.K = G.K) (hgu : X.A.guards = some []) (hr : Room k X.A) (hsy : ∃ o, X.base.get? sysModules = some o) (hg : Gl X "repr") (hm : X.mg "repr" = none) (ha : PA X [e] (tA G xa W mA)) (he : starEach [e] X.env = (false, eval e X.env) :: starEach [] X.env := by rfl) (hpl : (backTo pos (starEach [] X.env)).any (·.1) = false := by rfl) :
    PE X (.Call (.Name "repr" p) [e] [] pos) (tE G xa W (eB gRepr mA)) := ce_callB (by rw [← hK]; exact cr_repr hgu (u64 hr) hsy) s_repr hg hm b_repr ha (by decide) (by decide) he hpl
theorem d_min (hc : X.calm = true) (hg : Gl X "min") (hm : X.mg "min" = none) (ha : PA X [a, b] (tA G xa W mA)) (he : starEach [a, b] X.env = (false, eval a X.env) :: starEach [b] X.env := by rfl) (hpl : (backTo pos (starEach [b] X.env)).any (·.1) = false := by rfl) :
    PE X (.Call (.Name "min" p) [a, b] [] pos) (tE G xa W (eB gMin mA)) := ce_callB (call_min2 hc) s_min hg hm b_min ha (by decide) (by decide) he hpl
theorem d_max (hc : X.calm = true) (hg : Gl X "max") (hm : X.mg "max" = none) (ha : PA X [a, b] (tA G xa W mA)) (he : starEach [a, b] X.env = (false, eval a X.env) :: starEach [b] X.env := by rfl) (hpl : (backTo pos (starEach [b] X.env)).any (·.1) = false := by rfl) :
    PE X (.Call (.Name "max" p) [a, b] [] pos) (tE G xa W (eB gMax mA)) := ce_callB (call_max2 hc) s_max hg hm b_max ha (by decide) (by decide) he hpl
theorem d_list (hK : X.K = G.K) (hg : Gl X "list") (hm : X.mg "list" = none) (ha : PA X [e] (tA G xa W mA)) (he : starEach [e] X.env = (false, eval e X.env) :: starEach [] X.env := by rfl) (hpl : (backTo pos (starEach [] X.env)).any (·.1) = false := by rfl) :
    PE X (.Call (.Name "list" p) [e] [] pos) (tE G xa W (eB gList mA)) := ce_callT (by rw [← hK]; exact call_list_of) s_list hg hm b_list ha (by decide) (by decide) he hpl
theorem d_tuple (hK : X.K = G.K) (hg : Gl X "tuple") (hm : X.mg "tuple" = none) (ha : PA X [e] (tA G xa W mA)) (he : starEach [e] X.env = (false, eval e X.env) :: starEach [] X.env := by rfl) (hpl : (backTo pos (starEach [] X.env)).any (·.1) = false := by rfl) :
    PE X (.Call (.Name "tuple" p) [e] [] pos) (tE G xa W (eB gTuple mA)) := ce_callT (by rw [← hK]; exact call_tuple_of) s_tuple hg hm b_tuple ha (by decide) (by decide) he hpl
theorem d_int (hg : Gl X "int") (hm : X.mg "int" = none) (ha : PA X [e] (tA G xa W mA)) (he : starEach [e] X.env = (false, eval e X.env) :: starEach [] X.env := by rfl) (hpl : (backTo pos (starEach [] X.env)).any (·.1) = false := by rfl) :
    PE X (.Call (.Name "int" p) [e] [] pos) (tE G xa W (eB gInt mA)) := ce_callT call_int1 s_int hg hm b_int ha (by decide) (by decide) he hpl
theorem d_join {apos cpos : Pos} {mo : M Rv} (hK : X.K = G.K) (ho : PE X a (tE G xa W mo)) (ha : PA X [e] (tA G xa W mA)) (hbase : attributeBase a "join" X.env (eval a X.env) = eval a X.env := by rfl)
    (hfew : ((backTo cpos (starEach (e :: []) X.env)).all (fun x => !x.1) && (backToKw cpos (keywordEach [] X.env)).all (fun x => x.1.isSome) && decide ((e :: []).length + ([] : List Keyword).length + (if ([] : List Keyword).isEmpty then 0 else 1) < 30)) = true := by rfl)
    (hline : (apos.endLine == cpos.line) = true := by rfl) (hs : starEach (e :: []) X.env = (false, eval e X.env) :: starEach [] X.env := by rfl) (hplain : (backTo cpos (starEach [] X.env)).any (·.1) = false := by rfl) :
    PE X (.Call (.Attribute a "join" apos) [e] [] cpos) (tE G xa W (eM "str" gJoin mo mA)) :=
  imE (pe_bm PySem.F.plainAttrs_str PySem.F.slot_str_join PySem.F.type_str_join (by rw [← hK]; exact mt_join) ho ha hbase hfew hline hs hplain) (m_imp hK s_join)
end

/-! ### a def by its body; its calls -/
/-- what is known of a def of the text: where it stands -/
structure At (K : PySem.W.Frag) (mg : Str → Option Value) (x : Str) (st : Stmt) (ps : List Str) : Prop where
  ex : ∃ f fd, Fun K x x st f fd ∧ mg x = some (.ref f) ∧ L2.Binds K fd ps []
/-- what a def is worth -/
def Doe (P : Program) (w : World) (K : PySem.W.Frag) (mg : Str → Option Value) (base : Heap) (G : Gi) (k : Nat) (x : Str) (ps : List Str) (n : Nat) (m : Fn) : Prop :=
  ∃ f fd, FnG P w K mg base k f fd ps (spF G n m) ∧ mg x = some (.ref f) ∧ PySem.W.keepIn K (.ref f) = true ∧ L2.Binds K fd ps []
theorem At.doe {P : Program} {w : World} {K : PySem.W.Frag} {mg : Str → Option Value} {base : Heap} {G : Gi} {k n n2 : Nat} {x : Str} {st : Stmt} {N ps : List Str} {m : M Fl} (h : At K mg x st ps) (S : FnScope N ps (defScope st)) (hn : ps.length = n) (hN : N.length = n2) (hle : n ≤ n2)
    (hbody : ∀ (f : Addr) (cdv : Value) (A : Around) (outer : List Env) (s : Shared) (H : Hp) (E : XK), A.guards = some [] → Room k (A.deeper (envOfC x (defScope st) s.heap.objs.size f cdv)) →
      PSs (cxOf (L2.CX P w) P w K mg base N x (defScope st) f cdv A outer s H E) (defBody st) (tS G none (fun c d _ H' => E c d H') m)) : Doe P w K mg base G (k + 1) x ps n (mkFn n n2 m) := by
  obtain ⟨f, fd, F, hm, hb⟩ := h.ex
  obtain ⟨oc, od, kV, doc, pm, an, cdv, ct, osl, rfl, lk, hcd⟩ := F.ex
  exact ⟨f, _, fnG_of lk hcd S hn hN hle fun A outer s H E hgu hr => hbody f cdv A outer s H E hgu hr, hm, F.kp, hb⟩
section
variable {G : Gi} {W : WX} {X : Cx}
theorem d_call {j k n : Nat} {x : Str} {ps : List Str} {m : Fn} (fl : List Bool) {ma : M (List Rv)} {e : Expr} {es : List Expr} {p pos : Pos} (D : Doe X.prog X.w X.K X.mg X.base G j x ps n m) (hgu : X.A.guards = some []) (hr : Room k X.A) (tk : Takes X W) (hg : Gl X x) (ha : PA X (e :: es) (tA G none W ma))
    (hjk : j ≤ k := by decide) (hn : fl.length = n := by rfl) (hdb : (x == ("__debug__" : Str)) = false := by decide) (he : starEach (e :: es) X.env = (false, eval e X.env) :: starEach es X.env := by rfl) (hpl : (backTo pos (starEach es X.env)).any (·.1) = false := by rfl) :
    PE X (.Call (.Name x p) (e :: es) [] pos) (tE G none W (eCall m fl ma)) := by
  obtain ⟨f, fd, F, hm, hk, hb⟩ := D
  exact ce_call F hgu (hr.mono hjk) hg hm hk hb tk ha hn hdb he hpl
end
end Vs
/-! # VsS -/
set_option Elab.async false
set_option linter.all false
set_option maxRecDepth 100000
set_option maxHeartbeats 4000000
/-! Vs, part S: what a printed derivation has at hand. -/
namespace Vs
open PySem L2 PySem.Spec PyProof.Rows
open Evl (Ex)
structure CxF (k : Nat) (W : WX) (X : Cx) : Prop where
  gu : X.A.guards = some []
  rm : Room k X.A
  tk : Takes X W
  ow : PassesOwn (model X.prog X.w) X.A X.env X.xe
  nd : X.N.Nodup
theorem cx_of {G : Gi} {P : Program} {w : World} {K : PySem.W.Frag} {mg : Str → Option Value} {base : Heap} {N : List Str} {qual : Str} {scope : Scope} {f : Addr} {cd : Value} {A : Around} {outer : List Env} {s : Shared} {H : Hp} {E : XK} {k : Nat} (hgu : A.guards = some [])
    (hr : Room k (A.deeper (envOfC qual scope s.heap.objs.size f cd))) (nd : N.Nodup) : CxF k (fun c d _ H' => E c d H') (cxOf (L2.CX P w) P w K mg base N qual scope f cd A outer s H E) :=
  ⟨gu_deeper hgu, hr, takes_of rfl rfl rfl rfl, passes_of (K := fun e s'' => L2.CX P w outer H s E e s'') rfl, nd⟩
section
variable {G : Gi} {xa : Xa} {W : WX} {X : Cx}
theorem ce_globS {x z : Str} {pos : Pos} (hg : Gl X x) (hm : ∃ t, X.mg x = some (.str z t)) (hd : (x == ("__debug__" : Str)) = false := by decide) : PE X (.Name x pos) (tE G xa W (eC (.str z))) := by
  obtain ⟨t, hm⟩ := hm
  exact ce_glob hg hm (v := .str z) ⟨t, rfl⟩ (fun _ _ => .str _) hd
theorem ce_globI {x : Str} {i : Int} {pos : Pos} (hg : Gl X x) (hm : ∃ t, X.mg x = some (.int i t)) (hd : (x == ("__debug__" : Str)) = false := by decide) : PE X (.Name x pos) (tE G xa W (eC (.int i))) := by
  obtain ⟨t, hm⟩ := hm
  exact ce_glob hg hm (v := .int i) ⟨t, rfl⟩ (fun _ _ => .int _) hd
end
theorem blk_of {N : List Str} {sc scope : Scope} {own : List (Str × Nat)} (h : scope.kind = .function ∧ (∀ y ∈ scope.names, scope.names.lookup y.1 = some y.2) ∧ (∀ p ∈ own, N[p.2]? = some p.1) ∧
    (∀ y ∈ scope.names, y.2 = .free → sc.names.lookup y.1 = some .cell ∨ sc.names.lookup y.1 = some .free) ∧ ∀ y ∈ scope.names, y.2 = .local ∨ y.2 = .cell → y.1 ∈ own.map (·.1) ∨ y.1 ∉ N) : BlkOk N sc scope own := ⟨h.1, h.2.1, h.2.2.1, h.2.2.2.1, h.2.2.2.2⟩
theorem hp_nil {G : Gi} {K : PySem.W.Frag} : ∀ q ∈ ([] : List ClM), ∀ c b, q.2.p c = some b → PySem.W.exmOne K (.ref (G.cls c)) q.1 = some b := fun q h => by cases h
theorem hp_cons {G : Gi} {K : PySem.W.Frag} {cv : Value} {h : Hd} {L : List ClM} (h1 : ∀ c b, h.p c = some b → PySem.W.exmOne K (.ref (G.cls c)) cv = some b) (h2 : ∀ q ∈ L, ∀ c b, q.2.p c = some b → PySem.W.exmOne K (.ref (G.cls c)) q.1 = some b) :
    ∀ q ∈ ((cv, h) :: L : List ClM), ∀ c b, q.2.p c = some b → PySem.W.exmOne K (.ref (G.cls c)) q.1 = some b := fun q hq => by
  rcases List.mem_cons.mp hq with e | hq
  · subst e; exact h1
  · exact h2 q hq
end Vs
/-! # VsT -/
set_option Elab.async false
set_option linter.all false
set_option maxRecDepth 100000
set_option maxHeartbeats 4000000
/-! Vs, part T: the end: a law's row from the promise of its def. -/
namespace Vs
open PySem L2 PySem.Spec PyProof.Rows PySem.W
open Evl (Ex)
theorem FnG.imp {P : Program} {w : World} {K : Frag} {mg : Str → Option Value} {base : Heap} {k : Nat} {f : Addr} {fd : FuncData} {ps : List Str} {sp sp' : Sp} (F : FnG P w K mg base k f fd ps sp) (h : ∀ vs H Q E, sp' vs H Q E → sp vs H Q E) : FnG P w K mg base k f fd ps sp' :=
  ⟨fun vs H Q E q => F.len vs H Q E (h _ _ _ _ q), fun A outer s H args us vs Q E hg hr he hb hv hs => F.run A outer s H args us vs Q E hg hr he hb hv (h _ _ _ _ hs)⟩
/-- a law's promise: of any script of ints it answers True -/
def spTrue (K : Frag) : Sp := fun vs H Q _ => ∃ (a : Addr) (ns : List Int), vs = [V.ref a] ∧ SqL K H a (ns.map V.int) ∧ ∀ H', Q (.bl true) H'
theorem true_imp {G : Gi} {K : Frag} (hK : K = G.K) {m : Fn} (hm : ∀ ns : List Int, ∃ E, m [.s ns] = .ok (.d (.bool true)) E) : ∀ vs H Q E, spTrue K vs H Q E → spF G 1 m vs H Q E := by
  rintro vs H Q E ⟨a, ns, rfl, hs, hq⟩
  obtain ⟨E', e⟩ := hm ns
  refine ⟨rfl, [], [.s ns], ⟨by simp [own, ownA], fun b hb => by simp at hb, rfl, fun i s v h1 h2 => ?_⟩, ?_⟩
  · cases i with
    | zero =>
      simp at h1 h2
      subst h1; subst h2
      have e0 : hid ([] ++ ([] ++ own [Sl.s ns] ([V.ref a].map some))) H = H := by
        funext b
        exact hid_out (by simp [own, ownA])
      show SqL G.K (hid ([] ++ ([] ++ own [Sl.s ns] ([V.ref a].map some))) H) a _
      rw [e0, ← hK]
      exact hs
    | succ i => simp at h1
  · rw [e]
    intro ex v H' _ _ vr
    obtain ⟨_, d⟩ := vr
    cases d
    exact hq H'
theorem call_true {P : Program} {w : World} {K : Frag} {mg mb : Str → Option Value} {k : Nat} {fa a : Addr} {fd : FuncData} {x : Str} {s1 : Shared} {vs : List Value} {ns : List Int} (KX : K.In s1.heap) (hns : s1.heap.Ns mainGlobals mg) (hb : s1.heap.Ns builtinsNs mb)
    (hbb : ∀ x : Str, x ≠ "__name__" → mb x = bootBuiltins x) (hlim : s1.heap.NoLimit) (hsy : ∃ mm, s1.heap.Ns sysModules mm) (hg : s1.gens = #[]) (ha : s1.heap.get? a = some { cls := .type "list", data := .seq vs.toArray }) (hi : IntsAre vs ns) (hl : ns.length ≤ sizeLine) (hr : Room k callerA)
    (F : ∀ base : Heap, K.In base → base.Ns mainGlobals mg → (∃ o, base.get? sysModules = some o) → FnG P w K mg base k fa fd [x] (spTrue K)) (hbind : ∀ (s : Shared) (u : Value), BindsTo s fd ⟨[u], []⟩ [(x, u)]) :
    codeAny (model P w) callerA (.call (.ref fa) ⟨[.ref a], []⟩) (fun r t => r = .ok (.ret (.bool true)) ∧ OldK s1.heap t.heap ∧ t.os = s1.os ∧ AllBare t.gens) s1 := by
  have rv := vals_ints hi
  have lenV := hi.length
  have core : ∀ H : Hp, Only H → SqL K H a (ns.map V.int) → HOk P w H s1.heap → (∀ b, H b ≠ none → b = a) → (H a ≠ none → K.lookup a = none) →
      codeAny (model P w) callerA (.call (.ref fa) ⟨[.ref a], []⟩) (fun r t => r = .ok (.ret (.bool true)) ∧ OldK s1.heap t.heap ∧ t.os = s1.os ∧ AllBare t.gens) s1 := by
    intro H hO hS hok only noK
    have grd : ∀ {b : Addr} {o : Obj}, s1.heap.get? b = some o → H b = none → (hidT s1.heap H).get? b = some o := fun e n => hidT_get e n
    have free : ∀ {b : Addr} {o : Obj} {es : Array DictEntry} {ep : Nat}, s1.heap.get? b = some o → o.data = .dict es ep → H b = none := fun {b o es ep} e d => by
      cases q : H b with
      | none => rfl
      | some u =>
        have eb : b = a := only b (by rw [q]; simp)
        subst eb
        rw [ha] at e
        cases e
        have d' : Data.seq vs.toArray _ = Data.dict es ep := d
        cases d'
    have ns2 : ∀ {b : Addr} {m : Str → Option Value}, s1.heap.Ns b m → (hidT s1.heap H).Ns b m := fun {b m} ⟨o, es, ep, e, d, r⟩ => ⟨o, es, ep, grd e (free e d), d, r⟩
    have kin : K.In (hidT s1.heap H) := fun b o e => grd (KX b o e) (by
      cases q : H b with
      | none => rfl
      | some u =>
        have eb : b = a := only b (by rw [q]; simp)
        subst eb
        rw [noK (by rw [q]; simp)] at e
        cases e)
    have md : Mod K mg (hidT s1.heap H) := ⟨kin, ns2 hns, ⟨mb, ns2 hb, hbb⟩, let ⟨mc, h1, h2⟩ := hlim; ⟨mc, ns2 h1, h2⟩⟩
    have sy : ∃ o, (hidT s1.heap H).get? sysModules = some o := by
      obtain ⟨mm, hm⟩ := hsy
      obtain ⟨o, _, _, e, _⟩ := ns2 hm
      exact ⟨o, e⟩
    have e0 : Env0 P w K mg (hidT s1.heap H) callerA [] s1 H := ⟨rfl, md, fun b o e => of_hidT e, Nat.le_of_eq (hidT_size _ _), trivial, fun b hb => absurd (show b ∈ ([] : List Addr) from hb) (by simp), hok, .of_eq hg⟩
    refine codeAny_mono ((F _ kin (ns2 hns) sy).run callerA [] s1 H ⟨[.ref a], []⟩ [.ref a] [.ref a] (fun v _ => v = .bl true) (fun _ _ _ => False) rfl hr e0 (hbind s1 (.ref a)) (.cons rfl .nil) ⟨a, ns, rfl, hS, fun _ => rfl⟩) fun r t h => ?_
    cases r with
    | error e =>
      obtain ⟨_, _, _, _, _, _, _, _, _, _, _, _, z⟩ := h
      exact z.elim
    | ok fl =>
      cases fl with
      | next => exact False.elim h
      | brk => exact False.elim h
      | cont => exact False.elim h
      | ret u =>
        obtain ⟨v, H', os, bare, un, hok2, rvu, q⟩ := h
        have q' : v = .bl true := q
        subst q'
        obtain rfl : u = Value.bool true := rvu
        refine ⟨rfl, OldK.of_keep fun b o e => ?_, os, bare⟩
        cases q : H b with
        | none => exact un.keep b o e q (by intro z; exact absurd (show b ∈ ([] : List Addr) from z) (by simp)) (by simp)
        | some u =>
          rcases hO b with z | ⟨ob, xs, z⟩
          · rw [q] at z
            cases z
          · obtain ⟨e1, _⟩ := hok b _ z
            obtain ⟨e2, _⟩ := hok2 b _ (un.frzs b ob _ z)
            rw [e] at e1
            cases e1
            exact e2
  cases hk : K.lookup a with
  | some o =>
    have e := KX a o hk
    rw [ha] at e
    cases e
    refine core (fun _ => none) (fun _ => .inl rfl) (.inr ⟨_, vs.toArray, _, hk, rfl, rfl, rfl, by rw [List.size_toArray, lenV]; exact hl, by simpa using rv⟩) (fun b u z => ?_) (fun b z => absurd rfl z) fun z => absurd rfl z
    have z' : (none : Option HO) = some u := z
    cases z'
  | none =>
    have hid1 : ∀ {b : Addr}, b = a → (fun b => if b = a then some (HO.frz { cls := .type "list", data := .seq vs.toArray } (.lst (ns.map V.int))) else none) b = some (HO.frz { cls := .type "list", data := .seq vs.toArray } (.lst (ns.map V.int))) := fun h => if_pos h
    refine core (fun b => if b = a then some (.frz { cls := .type "list", data := .seq vs.toArray } (.lst (ns.map V.int))) else none) (fun b => ?_) (.inl (.inr ⟨{ cls := .type "list", data := .seq vs.toArray }, if_pos rfl⟩)) (fun b u z => ?_) (fun b z => ?_) fun _ => hk
    · by_cases hba : b = a
      · exact .inr ⟨_, _, if_pos hba⟩
      · exact .inl (if_neg hba)
    · by_cases hba : b = a
      · have z' := (if_pos hba).symm.trans z
        cases z'
        subst hba
        exact ⟨ha, by rw [List.length_map]; exact hl, vs, _, rv, ha⟩
      · cases (if_neg hba).symm.trans z
    · by_cases hba : b = a
      · exact hba
      · exact absurd (if_neg hba) z
theorem walk_true {l : OpenLaw} {n k : Nat} {q : Program} {loose : List Str} {XP : (Str → Option Value) → Heap → Prop} {YP : World → Heap → Prop} {d : DefRec} {K : Params → Frag} {x : Str} (hn : l.most = some n) (hn2 : n ≤ sizeLine) (hdf : d.params.defaults = []) (hr : Room k callerA) (him : importsNone q = true)
    (hY : ∀ (w : World) (h : Heap), YP w h → (K w.params).In h)
    (F : ∀ (w : World) (mg : Str → Option Value) (fa : Addr) (h : Heap), (K w.params).In h → h.Ns mainGlobals mg → mg d.name = some (.ref fa) →
      ∃ fd : FuncData, (∀ (s : Shared) (u : Value), BindsTo s fd ⟨[u], []⟩ [(x, u)]) ∧ ∀ base : Heap, (K w.params).In base → base.Ns mainGlobals mg → (∃ o, base.get? sysModules = some o) → FnG l.prog w (K w.params) mg base k fa fd [x] (spTrue (K w.params))) :
    WalkO q loose XP YP l.row.toRowW d [] (fun f vs => PySem.call f vs) := by
  refine Att.attach_call hn hdf fun w s0 s1 mg mb fa o pm cd doc a vs ns G Y ho hd hcd hmg hobj hints hlen hg => ?_
  have KX := hY w _ Y
  obtain ⟨fd, hb, hF⟩ := F w mg fa _ KX G.T.g hmg
  exact call_true KX G.T.g G.T.b G.T.builtins G.T.nolimit (let ⟨mm, h, _⟩ := (G.T.seer him).mods; ⟨mm, h⟩) hg hobj hints (Nat.le_trans hlen hn2) hr hF hb
end Vs
/-! # VsU -/
set_option Elab.async false
set_option linter.all false
set_option maxRecDepth 100000
set_option maxHeartbeats 4000000
/-! Vs, part U: from what the written part says of the error classes to what the rules ask. -/
namespace Vs
open PySem L2 PySem.Spec PyProof.Rows PySem.W PySem.HandSPX
open Evl (Ex)
abbrev veMro : List Value := [.type "ValueError", .type "Exception", .type "BaseException", .type "object"]
/-- the base of the errors -/
structure RawL (K : Frag) (nm : Str) (L : Addr) : Prop where
  cls : ∃ q N bs sn sub ab col dd k0 k1 k2 k3 k5, K.lookup L = some (excClassObj nm q L N bs veMro true sn sub ab col dd k0 k1 k2 k3 k5 "ValueError.__new__")
structure RawE (K : Frag) (L : Addr) (nm qual f : Str) (C fI : Addr) : Prop where
  cls : ∃ q N bs sn sub ab col dd k0 k1 k2 k3 k5, K.lookup C = some (excClassObj nm q C N bs (.ref L :: veMro) true sn sub ab col dd k0 k1 k2 k3 k5 "ValueError.__new__")
  fld : IsFld f
  sa : findIn K (.ref C) "__setattr__" = some (some (.builtin "object.__setattr__"))
  ga : findIn K (.ref C) "__getattribute__" = some (some (.builtin "BaseException.__getattribute__"))
  gg : findIn K (.ref C) "__getattr__" = some none
  noN : findIn K (.ref C) f = some none
  iC : findIn K (.ref C) "__init__" = some (some (.ref fI))
  tC : typeIn K (.ref fI) = some (.type "function")
  kC : keepIn K (.ref C) = true
  ha : findIn K (.ref C) "__class__" = some (some (.builtin "object.__class__"))
  fn : ∃ (oc : Value) (od : Option Addr) (doc pm : Value) (an : Option Addr) (cdv ct : Value) (osl : Array (Option Value)) (p1 p2 q1 q2 q3 q4 : Pos),
    K.lookup fI = some ⟨oc, od, .func (fnOf "__init__" qual (inArgs f p1 p2) (inBody f q1 q2 q3 q4) (inScope f) .none .none doc pm an cdv ct), osl⟩ ∧ codeIn K cdv qual = true
section
variable {K : Frag} {L C D fI fJ : Addr} {nm nm' qual qual' f f' : Str}
theorem RawE.mro (T : RawE K L nm qual f C fI) (b : Value) : subIn K (.ref C) b = some ((Value.ref C :: .ref L :: veMro).contains b) := by
  obtain ⟨q, N, bs, sn, sub, ab, col, dd, k0, k1, k2, k3, k5, h⟩ := T.cls
  show mroIn K C b = _
  unfold mroIn clsIn
  rw [h]
  rfl
theorem RawE.ty (T : RawE K L nm qual f C fI) : typeIn K (.ref C) = some (.type "type") := by
  obtain ⟨q, N, bs, sn, sub, ab, col, dd, k0, k1, k2, k3, k5, h⟩ := T.cls
  show (K.lookup C).map (·.cls) = _
  rw [h]
  rfl
theorem RawE.hd (T : RawE K L nm qual f C fI) : hasDictIn K C = true := by
  obtain ⟨q, N, bs, sn, sub, ab, col, dd, k0, k1, k2, k3, k5, h⟩ := T.cls
  unfold hasDictIn clsIn
  rw [h]
  rfl
theorem RawE.isc (T : RawE K L nm qual f C fI) : (clsIn K C).isSome = true := by
  obtain ⟨q, N, bs, sn, sub, ab, col, dd, k0, k1, k2, k3, k5, h⟩ := T.cls
  unfold clsIn
  rw [h]
  rfl
theorem RawE.be (T : RawE K L nm qual f C fI) : subIn K (.ref C) (.type "BaseException") = some true := by
  rw [T.mro]
  rfl
theorem RawE.err (T : RawE K L nm qual f C fI) : ErrC K C fI qual f := by
  obtain ⟨q, N, bs, sn, sub, ab, col, dd, k0, k1, k2, k3, k5, h⟩ := T.cls
  exact ⟨T.fld, ⟨nm, q, N, bs, _, sn, sub, ab, col, dd, k0, k1, k2, k3, k5, h, rfl⟩, T.sa, T.ga, T.gg, T.noN, T.iC, T.tC, T.kC, T.be, T.ty, T.hd, T.fn⟩
theorem RawE.exc (T : RawE K L nm qual f C fI) (hn : specialIn K (.builtin "object.__class__") "__get__" = some (some (.builtin "getset_descriptor.__get__"))) (ht : takesIn K (.builtin "object.__class__") = some true) : ExcC K C :=
  ⟨T.ga, T.gg, T.be, T.hd, T.ha, hn, ht, by
    have := T.mro (.type "object")
    exact this.trans rfl⟩
theorem RawE.ne (T : RawE K L nm qual f C fI) (T' : RawE K L nm' qual' f' D fJ) (h : nm ≠ nm') : C ≠ D := by
  rintro rfl
  obtain ⟨q, N, bs, sn, sub, ab, col, dd, k0, k1, k2, k3, k5, e⟩ := T.cls
  obtain ⟨q', N', bs', sn', sub', ab', col', dd', k0', k1', k2', k3', k5', e'⟩ := T'.cls
  rw [e] at e'
  injection e' with e'
  injection e' with _ _ e' _
  injection e' with e'
  injection e' with e'
  exact h e'
theorem RawE.neL (T : RawE K L nm qual f C fI) (T' : RawL K nm' L) (h : nm ≠ nm') : C ≠ L := by
  rintro rfl
  obtain ⟨q, N, bs, sn, sub, ab, col, dd, k0, k1, k2, k3, k5, e⟩ := T.cls
  obtain ⟨q', N', bs', sn', sub', ab', col', dd', k0', k1', k2', k3', k5', e'⟩ := T'.cls
  rw [e] at e'
  injection e' with e'
  injection e' with _ _ e' _
  injection e' with e'
  injection e' with e'
  exact h e'
theorem ct_ref {x y : Addr} {l : List Value} (h : (Value.ref x == Value.ref y) = false) : (Value.ref y :: l).contains (.ref x) = l.contains (.ref x) := by
  simp only [List.contains_cons, h, Bool.false_or]
theorem ref_beq {x y : Addr} : (Value.ref x == Value.ref y) = decide (x = y) := by
  by_cases h : x = y
  · subst h
    rw [decide_eq_true rfl]
    exact beq_self_eq_true _
  · rw [decide_eq_false h]
    exact beq_eq_false_iff_ne.mpr fun e => h (Value.ref.inj e)
theorem ve_no (x : Addr) : veMro.contains (.ref x) = false := rfl
/-- of two error classes: the one is the other's or not -/
theorem RawE.sub (T : RawE K L nm qual f C fI) (D : Addr) : subIn K (.ref C) (.ref D) = some (decide (D = C) || decide (D = L)) := by
  rw [T.mro]
  congr 1
  rw [List.contains_cons, List.contains_cons, ve_no, ref_beq, ref_beq, Bool.or_false]
theorem RawE.exm (T : RawE K L nm qual f C fI) (T' : RawE K L nm' qual' f' D fJ) : exmOne K (.ref C) (.ref D) = some (decide (D = C) || decide (D = L)) := exm_ref T'.be T'.hd T'.ty (T.sub D)
theorem RawE.exmL (T : RawE K L nm qual f C fI) (T' : RawL K nm' L) : exmOne K (.ref C) (.ref L) = some true := by
  obtain ⟨q, N, bs, sn, sub, ab, col, dd, k0, k1, k2, k3, k5, h⟩ := T'.cls
  refine exm_ref ?_ ?_ ?_ ?_
  · show mroIn K L _ = _
    unfold mroIn clsIn
    rw [h]
    rfl
  · unfold hasDictIn clsIn
    rw [h]
    rfl
  · show (K.lookup L).map (·.cls) = _
    rw [h]
    rfl
  · rw [T.sub]
    simp
theorem RawE.kit (T : RawE K L nm qual f C fI) (T' : RawE K L nm' qual' f' D fJ) (hD : D ≠ L) : kitOne K (.ref C) (.ref D) = some (decide (D = C)) := by
  unfold kitOne
  rw [ref_beq]
  by_cases h : C = D
  · subst h
    simp
  · rw [decide_eq_false h, if_neg Bool.false_ne_true, decide_eq_false (Ne.symm h)]
    unfold kitCls
    simp only [T'.isc, T'.ty, beq_self_eq_true, Bool.and_self, if_true]
    rw [T.sub, decide_eq_false (Ne.symm h), decide_eq_false hD]
    rfl
theorem RawE.kitVE (T : RawE K L nm qual f C fI) : kitOne K (.ref C) (.type "ValueError") = some true := by
  unfold kitOne
  have e1 : (Value.ref C == Value.type "ValueError") = false := rfl
  rw [e1, if_neg Bool.false_ne_true]
  show (if kitMeta "ValueError" = true then subIn K (.ref C) (.type "ValueError") else none) = _
  rw [if_pos (by decide +kernel), T.mro]
  rfl
end
/-- all the classes of a law: where they stand, their names, fields, the quals of their makers -/
structure RawAll (K : Frag) (mg : Str → Option Value) (L : Addr) (nmL : Str) (cs fs : List Addr) (nms quals flds : List Str) : Prop where
  l : RawL K nmL L
  gL : mg nmL = some (.ref L)
  nd : (nmL :: nms).Nodup
  ln : cs.length = nms.length ∧ fs.length = nms.length ∧ quals.length = nms.length ∧ flds.length = nms.length
  ea : ∀ i < nms.length, RawE K L (nms.getD i "") (quals.getD i "") (flds.getD i "") (cs.getD i 0) (fs.getD i 0) ∧ mg (nms.getD i "") = some (.ref (cs.getD i 0))
  hn : specialIn K (.builtin "object.__class__") "__get__" = some (some (.builtin "getset_descriptor.__get__"))
  ht : takesIn K (.builtin "object.__class__") = some true
section
variable {K : Frag} {mg : Str → Option Value} {L : Addr} {nmL : Str} {cs fs : List Addr} {nms quals flds : List Str}
def giOf (K : Frag) (L : Addr) (cs : List Addr) (flds : List Str) : Gi := ⟨K, fun c => if c = cs.length then L else cs.getD c 0, fun c => flds.getD c ""⟩
theorem RawAll.cls (T : RawAll K mg L nmL cs fs nms quals flds) {c : Nat} (h : c < nms.length) : (giOf K L cs flds).cls c = cs.getD c 0 := if_neg (by have := T.ln.1; omega)
theorem RawAll.clsL (T : RawAll K mg L nmL cs fs nms quals flds) : (giOf K L cs flds).cls nms.length = L := if_pos T.ln.1.symm
theorem RawAll.ok (T : RawAll K mg L nmL cs fs nms quals flds) : GiOk (giOf K L cs flds) K nms.length := ⟨fun c hc => ⟨_, _, by rw [T.cls hc]; exact (T.ea c hc).1.err⟩⟩
theorem RawAll.at_ (T : RawAll K mg L nmL cs fs nms quals flds) {c : Nat} (hc : c < nms.length) : mg (nms.getD c "") = some (.ref ((giOf K L cs flds).cls c)) := by rw [T.cls hc]; exact (T.ea c hc).2
theorem RawAll.ne (T : RawAll K mg L nmL cs fs nms quals flds) {c j : Nat} (hc : c < nms.length) (hj : j < nms.length) : decide (cs.getD j 0 = cs.getD c 0) = (c == j) := by
  by_cases h : c = j
  · subst h; simp
  · rw [beq_eq_false_iff_ne.mpr h]
    refine decide_eq_false (Ne.symm ((T.ea c hc).1.ne (T.ea j hj).1 fun e => h ?_))
    have nd := (List.nodup_cons.mp T.nd).2
    have e1 : nms[c]? = nms[j]? := by
      rw [List.getD_eq_getElem?_getD, List.getD_eq_getElem?_getD] at e
      rw [List.getElem?_eq_getElem hc, List.getElem?_eq_getElem hj] at e ⊢
      simpa using e
    exact (List.getElem?_inj hc nd).mp e1
theorem RawAll.neL (T : RawAll K mg L nmL cs fs nms quals flds) {c : Nat} (hc : c < nms.length) : cs.getD c 0 ≠ L := by
  refine (T.ea c hc).1.neL T.l fun e => (List.nodup_cons.mp T.nd).1 ?_
  rw [← e, List.getD_eq_getElem?_getD, List.getElem?_eq_getElem hc]
  exact List.getElem_mem hc
theorem RawAll.exm (T : RawAll K mg L nmL cs fs nms quals flds) {c j : Nat} (hc : c < nms.length) (hj : j < nms.length) : exmOne K (.ref ((giOf K L cs flds).cls c)) (.ref ((giOf K L cs flds).cls j)) = some (c == j) := by
  rw [T.cls hc, T.cls hj, (T.ea c hc).1.exm (T.ea j hj).1, decide_eq_false (T.neL hj), Bool.or_false, T.ne hc hj]
theorem RawAll.exmL (T : RawAll K mg L nmL cs fs nms quals flds) {c : Nat} (hc : c < nms.length) : exmOne K (.ref ((giOf K L cs flds).cls c)) (.ref ((giOf K L cs flds).cls nms.length)) = some true := by
  rw [T.cls hc, T.clsL]
  exact (T.ea c hc).1.exmL T.l
theorem RawAll.kit (T : RawAll K mg L nmL cs fs nms quals flds) {c j : Nat} (hc : c < nms.length) (hj : j < nms.length) : ExcC K ((giOf K L cs flds).cls c) ∧ kitOne K (.ref ((giOf K L cs flds).cls c)) (.ref ((giOf K L cs flds).cls j)) = some (c == j) := by
  rw [T.cls hc, T.cls hj, (T.ea c hc).1.kit (T.ea j hj).1 (T.neL hj), T.ne hc hj]
  exact ⟨(T.ea c hc).1.exc T.hn T.ht, rfl⟩
theorem RawAll.kitVE (T : RawAll K mg L nmL cs fs nms quals flds) {c : Nat} (hc : c < nms.length) : ExcC K ((giOf K L cs flds).cls c) ∧ kitOne K (.ref ((giOf K L cs flds).cls c)) (.type "ValueError") = some true := by
  rw [T.cls hc]
  exact ⟨(T.ea c hc).1.exc T.hn T.ht, (T.ea c hc).1.kitVE⟩
theorem RawAll.fld (T : RawAll K mg L nmL cs fs nms quals flds) {c : Nat} (hc : c < nms.length) : ∃ fI qual, ErrC K ((giOf K L cs flds).cls c) fI qual ((giOf K L cs flds).fld c) := T.ok.err c hc
end
/-! ### the parts of a row's end, from what is looked up -/
theorem rawE_mk {K : Frag} {L C fI N : Addr} {nm q qual f : Str} {bs : List Value} {sn : List Str} {sub : List Value} {ab : Bool} {col : Option Bool} {dd od an : Option Addr} {k0 k1 k2 k3 k5 : Option Value} {oc doc pm cdv ct : Value} {osl : Array (Option Value)} (p1 p2 q1 q2 q3 q4 : Pos) (fld : IsFld f)
    (xC : K.lookup C = some (excClassObj nm q C N bs (.ref L :: veMro) true sn sub ab col dd k0 k1 k2 k3 k5 "ValueError.__new__")) (sa : findIn K (.ref C) "__setattr__" = some (some (.builtin "object.__setattr__"))) (ga : findIn K (.ref C) "__getattribute__" = some (some (.builtin "BaseException.__getattribute__")))
    (gg : findIn K (.ref C) "__getattr__" = some none) (no : findIn K (.ref C) f = some none) (iC : findIn K (.ref C) "__init__" = some (some (.ref fI))) (tC : typeIn K (.ref fI) = some (.type "function")) (kC : keepIn K (.ref C) = true)
    (ha : findIn K (.ref C) "__class__" = some (some (.builtin "object.__class__"))) (lI : K.lookup fI = some ⟨oc, od, .func (fnOf "__init__" qual (inArgs f p1 p2) (inBody f q1 q2 q3 q4) (inScope f) .none .none doc pm an cdv ct), osl⟩) (cI : codeIn K cdv qual = true) : RawE K L nm qual f C fI :=
  ⟨⟨q, N, bs, sn, sub, ab, col, dd, k0, k1, k2, k3, k5, xC⟩, fld, sa, ga, gg, no, iC, tC, kC, ha, ⟨oc, od, doc, pm, an, cdv, ct, osl, p1, p2, q1, q2, q3, q4, lI, cI⟩⟩
theorem rawL_mk {K : Frag} {L N : Addr} {nm q : Str} {bs : List Value} {sn : List Str} {sub : List Value} {ab : Bool} {col : Option Bool} {dd : Option Addr} {k0 k1 k2 k3 k5 : Option Value}
    (xC : K.lookup L = some (excClassObj nm q L N bs veMro true sn sub ab col dd k0 k1 k2 k3 k5 "ValueError.__new__")) : RawL K nm L := ⟨⟨q, N, bs, sn, sub, ab, col, dd, k0, k1, k2, k3, k5, xC⟩⟩
theorem fn_known {P : Program} {w : World} {K : Frag} {mg : Str → Option Value} {base : Heap} {G : Gi} {k n n2 : Nat} {x : Str} {st : Stmt} {f : Addr} {fd : FuncData} {N ps : List Str} {m : M Fl} (F : Fun K x x st f fd) (S : FnScope N ps (defScope st)) (hn : ps.length = n) (hN : N.length = n2) (hle : n ≤ n2)
    (hbody : ∀ (f : Addr) (cdv : Value) (A : Around) (outer : List Env) (s : Shared) (H : Hp) (E : XK), A.guards = some [] → Room k (A.deeper (envOfC x (defScope st) s.heap.objs.size f cdv)) →
      PSs (cxOf (L2.CX P w) P w K mg base N x (defScope st) f cdv A outer s H E) (defBody st) (tS G none (fun c d _ H' => E c d H') m)) : FnG P w K mg base (k + 1) f fd ps (spF G n (mkFn n n2 m)) := by
  obtain ⟨oc, od, kV, doc, pm, an, cdv, ct, osl, rfl, lk, hcd⟩ := F.ex
  exact fnG_of lk hcd S hn hN hle fun A outer s H E hgu hr => hbody f cdv A outer s H E hgu hr
end Vs
/-! # K04M -/
set_option Elab.async false
set_option linter.all false
set_option maxRecDepth 100000
set_option maxHeartbeats 4000000
namespace K04
open PySem L2 Vs
def fuel : Nat := 1000000
/-! the error classes: BadNumber, BadName, BadLots, BadHouses, BadLetter, BadProgram, BadBook, BadStand, BadLoad, BadBox, BadCast, BadMove, BadTarget, BadMark, BadRound, BadPaper, BadLink, BadEdit, BadCase, NoName, BadText, TooMany; then the base LastError -/
def nC : Nat := 22
def fldN : List Str := ["at", "at", "at", "at", "at", "at", "at", "at", "at", "at", "at", "at", "at", "at", "at", "at", "at", "at", "at", "at", "line", "limit"]
def isJ : Option Nat → Nat → Bool
  | none, _ => true
  | some j, c => c == j
def isC (j : Option Nat) (c : Nat) : Option Bool := if c < nC then some (isJ j c) else none
def at_at (c : Nat) : Bool := decide (c < nC) && fldN[c]? == some "at"
def at_limit (c : Nat) : Bool := decide (c < nC) && fldN[c]? == some "limit"
def at_line (c : Nat) : Bool := decide (c < nC) && fldN[c]? == some "line"
def m_is_int : M Fl := sRet (eAnd (e1 (gIsi "int") (eVar 0)) (eNot (e1 (gIsi "bool") (eVar 0))))
def f_is_int : Fn := mkFn 1 1 m_is_int
def m_is_row : M Fl := sRet (e1 (gIsi2 "list" "tuple") (eVar 0))
def f_is_row : Fn := mkFn 1 1 m_is_row
def m_is_name : M Fl := sSeq (sIf (tNotM (tB1 (e1 (gIsi "str") (eVar 0)))) (sRet (eC (.bool false))) sNil) (sSeq (sIf (tOrM (tB1 (e2 gLt (eB gLen (aCons (eVar 0) aNil)) (eC (.int 1)))) (tOrM (tB1 (e2 gGt (eB gLen (aCons (eVar 0) aNil)) (eC (.int 12)))) (tB1 (e2 gNotIn (e2 gIx (eVar 0) (eC (.int 0))) (eC (.str "abcdefghijklmnopqrstuvwxyz")))))) (sRet (eC (.bool false))) sNil) (sRet (eB gAllB (aCons (eLc [1] (tgN 1) (ret true) (e2 gIn (eVar 1) (eC (.str "abcdefghijklmnopqrstuvwxyz0123456789"))) (iCh (eVar 0))) aNil))))
def f_is_name : Fn := mkFn 1 2 m_is_name
def m_dense_key : M Fl := sRet (eB gTuple (aCons (eLc [1] (tgN 1) (ret true) (eIf (tB1 (e2 gEq (eVar 1) (eC (.str "many")))) (eTup (aCons (eC (.int 1)) (aCons (eC (.int 0)) aNil))) (eTup (aCons (eC (.int 0)) (aCons (eVar 1) aNil)))) (iSeq (eVar 0))) aNil))
def f_dense_key : Fn := mkFn 1 2 m_dense_key
def m_is_less : M Fl := sSeq (sFor (tgU [2, 3]) (iEn (eVar 0)) (sIf (tB1 (e2 gNe (e2 gIx (eVar 1) (eVar 2)) (eC (.str "many")))) (sIf (tOrM (tB1 (e2 gEq (eVar 3) (eC (.str "many")))) (tB1 (e2 gGt (eVar 3) (e2 gIx (eVar 1) (eVar 2))))) (sRet (eC (.bool false))) sNil) sNil)) (sRet (eC (.bool true)))
def f_is_less : Fn := mkFn 2 4 m_is_less
def m__law_deck : M Fl := sSeq (sSet 1 (eLst (aCons (eC (.int 0)) aNil))) (sSeq (sFor (tgN 2) (iRng rng1 (aCons (eB gMin (aCons (eLenS 0) (aCons (eC (.int 40)) aNil))) aNil)) (sSeq (sSet 3 (eB gInt (aCons (eIxS 0 (eVar 2)) aNil))) (sSeq (sIf (tB1 (e2 gLt (eVar 3) (eC (.int 0)))) (sSet 3 (e2 gSub (eC (.int 5)) (e2 gMul (eC (.int 3)) (eVar 3)))) sNil) (sSeq (sSet 3 (e2 gMod (eVar 3) (e2 gPow (eC (.int 36)) (eC (.int 20))))) (sFor (tgN 4) (iRng rng1 (aCons (eC (.int 20)) aNil)) (sSeq (sApp 1 (e2 gMod (eVar 3) (eC (.int 36)))) (sSeq (sSet 3 (e2 gDiv (eVar 3) (eC (.int 36)))) (sIf (tB1 (e2 gEq (eVar 3) (eC (.int 0)))) sBrk sNil)))))))) (sRet (eVar 1)))
def f__law_deck : Fn := mkFn 1 5 m__law_deck
def m__law_pick : M Fl := sSeq (sPut 0 (eC (.int 0)) (e2 gAdd (e2 gIx (eVar 0) (eC (.int 0))) (eC (.int 1)))) (sSeq (sIf (tB1 (e2 gGe (e2 gIx (eVar 0) (eC (.int 0))) (eB gLen (aCons (eVar 0) aNil)))) (sRet (eC (.int 0))) sNil) (sRet (e2 gMod (e2 gIx (eVar 0) (e2 gIx (eVar 0) (eC (.int 0)))) (eVar 1))))
def f__law_pick : Fn := mkFn 2 2 m__law_pick
def m__law_is_whole : M Fl := sRet (eAnd (e1 (gIsi "int") (eVar 0)) (eNot (e1 (gIsi "bool") (eVar 0))))
def f__law_is_whole : Fn := mkFn 1 1 m__law_is_whole
def m__law_named : M Fl := sSeq (sIf (tNotM (tB1 (e1 (gIsi "str") (eVar 0)))) (sRet (eC (.bool false))) sNil) (sSeq (sIf (tOrM (tB1 (e2 gEq (eB gLen (aCons (eVar 0) aNil)) (eC (.int 0)))) (tOrM (tB1 (e2 gGt (eB gLen (aCons (eVar 0) aNil)) (eC (.int 12)))) (tB1 (e2 gNotIn (e2 gIx (eVar 0) (eC (.int 0))) (eC (.str "abcdefghijklmnopqrstuvwxyz")))))) (sRet (eC (.bool false))) sNil) (sRet (e2 gEq (eB gLen (aCons (eLc [1] (tgN 1) (tB1 (e2 gNotIn (eVar 1) (eC (.str "abcdefghijklmnopqrstuvwxyz0123456789")))) (eVar 1) (iCh (eVar 0))) aNil)) (eC (.int 0)))))
def f__law_named : Fn := mkFn 1 2 m__law_named
def m__law_at_most : M Fl := sSeq (sFor (tgN 2) (iRng rng1 (aCons (eB gLen (aCons (eVar 0) aNil)) aNil)) (sIf (tAndM (tB1 (e2 gNe (e2 gIx (eVar 1) (eVar 2)) (eC (.str "many")))) (tOrM (tB1 (e2 gEq (e2 gIx (eVar 0) (eVar 2)) (eC (.str "many")))) (tB1 (e2 gGt (e2 gIx (eVar 0) (eVar 2)) (e2 gIx (eVar 1) (eVar 2)))))) (sRet (eC (.bool false))) sNil)) (sRet (eC (.bool true)))
def f__law_at_most : Fn := mkFn 2 3 m__law_at_most
def m__law_raise : M Fl := sSeq (sIf (tB1 (e2 gEq (eVar 0) (eC (.int 0)))) (sRaise 0 (eVar 1)) sNil) (sSeq (sIf (tB1 (e2 gEq (eVar 0) (eC (.int 1)))) (sRaise 1 (eVar 1)) sNil) (sSeq (sIf (tB1 (e2 gEq (eVar 0) (eC (.int 2)))) (sRaise 2 (eVar 1)) sNil) (sSeq (sIf (tB1 (e2 gEq (eVar 0) (eC (.int 3)))) (sRaise 3 (eVar 1)) sNil) (sSeq (sIf (tB1 (e2 gEq (eVar 0) (eC (.int 4)))) (sRaise 4 (eVar 1)) sNil) (sSeq (sIf (tB1 (e2 gEq (eVar 0) (eC (.int 5)))) (sRaise 5 (eVar 1)) sNil) (sSeq (sIf (tB1 (e2 gEq (eVar 0) (eC (.int 6)))) (sRaise 6 (eVar 1)) sNil) (sSeq (sIf (tB1 (e2 gEq (eVar 0) (eC (.int 7)))) (sRaise 7 (eVar 1)) sNil) (sSeq (sIf (tB1 (e2 gEq (eVar 0) (eC (.int 8)))) (sRaise 8 (eVar 1)) sNil) (sSeq (sIf (tB1 (e2 gEq (eVar 0) (eC (.int 9)))) (sRaise 9 (eVar 1)) sNil) (sSeq (sIf (tB1 (e2 gEq (eVar 0) (eC (.int 10)))) (sRaise 10 (eVar 1)) sNil) (sSeq (sIf (tB1 (e2 gEq (eVar 0) (eC (.int 11)))) (sRaise 11 (eVar 1)) sNil) (sSeq (sIf (tB1 (e2 gEq (eVar 0) (eC (.int 12)))) (sRaise 12 (eVar 1)) sNil) (sSeq (sIf (tB1 (e2 gEq (eVar 0) (eC (.int 13)))) (sRaise 13 (eVar 1)) sNil) (sSeq (sIf (tB1 (e2 gEq (eVar 0) (eC (.int 14)))) (sRaise 14 (eVar 1)) sNil) (sSeq (sIf (tB1 (e2 gEq (eVar 0) (eC (.int 15)))) (sRaise 15 (eVar 1)) sNil) (sSeq (sIf (tB1 (e2 gEq (eVar 0) (eC (.int 16)))) (sRaise 16 (eVar 1)) sNil) (sSeq (sIf (tB1 (e2 gEq (eVar 0) (eC (.int 17)))) (sRaise 17 (eVar 1)) sNil) (sSeq (sIf (tB1 (e2 gEq (eVar 0) (eC (.int 18)))) (sRaise 18 (eVar 1)) sNil) (sSeq (sIf (tB1 (e2 gEq (eVar 0) (eC (.int 19)))) (sRaise 19 (eVar 1)) sNil) (sSeq (sIf (tB1 (e2 gEq (eVar 0) (eC (.int 20)))) (sRaise 20 (eVar 1)) sNil) (sRaise 21 (eVar 1))))))))))))))))))))))
def f__law_raise : Fn := mkFn 2 2 m__law_raise
def m_plain_form : M Fl := sSeq (sIf (tNotM (tB1 (eCall f_is_row [false] (aCons (eVar 0) aNil)))) (sRet (eVar 0)) sNil) (sSeq (sSet 1 (eLst (aCons (eVar 0) aNil))) (sSeq (sSet 2 (eC (.int 0))) (sSeq (whileM (tB1 (e2 gLt (eVar 2) (eB gLen (aCons (eVar 1) aNil)))) (sSeq (sSet 3 (eLc [4] (tgN 4) (tB1 (e1 (gIsi2 "list" "tuple") (eVar 4))) (eVar 4) (iSeq (e2 gIx (eVar 1) (eVar 2))))) (sSeq (sExt 1 (eVar 3)) (sAdd 2 (eC (.int 1))))) fuel) (sSeq (sSet 5 (e2 gMul (eLst (aCons (eTup aNil) aNil)) (eB gLen (aCons (eVar 1) aNil)))) (sSeq (sSet 6 (eB gLen (aCons (eVar 1) aNil))) (sSeq (sFor (tgN 7) (iRev (eB gLen (aCons (eVar 1) aNil))) (sSeq (sSet 3 (eLc [4] (tgN 4) (tB1 (e1 (gIsi2 "list" "tuple") (eVar 4))) (eVar 4) (iSeq (e2 gIx (eVar 1) (eVar 7))))) (sSeq (sSet 6 (e2 gSub (eVar 6) (eB gLen (aCons (eVar 3) aNil)))) (sSeq (sSet 8 (eVar 6)) (sSeq (sSet 9 (eLst aNil)) (sSeq (sFor (tgN 4) (iSeq (e2 gIx (eVar 1) (eVar 7))) (sIf (tB1 (e1 (gIsi2 "list" "tuple") (eVar 4))) (sSeq (sApp 9 (e2 gIx (eVar 5) (eVar 8))) (sAdd 8 (eC (.int 1)))) (sApp 9 (eVar 4)))) (sPut 5 (eVar 7) (eB gTuple (aCons (eVar 9) aNil))))))))) (sRet (e2 gIx (eVar 5) (eC (.int 0))))))))))
def f_plain_form : Fn := mkFn 1 10 m_plain_form
def m__law_great : M Fl := sSeq (sSet 1 (eC (.int 0))) (sSeq (sFor (tgN 2) (iRng rng1 (aCons (e2 gIx (eTup (aCons (eC (.int 1)) (aCons (eC (.int 0)) (aCons (eC (.int 2)) (aCons (eC (.int 12)) (aCons (eC (.int 24)) aNil)))))) (eCall f__law_pick [true, false] (aCons (eVar 0) (aCons (eC (.int 5)) aNil)))) aNil)) (sSet 1 (e2 gAdd (e2 gMul (eVar 1) (eC (.int 36))) (eCall f__law_pick [true, false] (aCons (eVar 0) (aCons (eC (.int 36)) aNil)))))) (sSeq (sIf (tB1 (e2 gEq (eCall f__law_pick [true, false] (aCons (eVar 0) (aCons (eC (.int 3)) aNil))) (eC (.int 2)))) (sRet (e1 gNeg (eVar 1))) sNil) (sRet (eVar 1))))
def f__law_great : Fn := mkFn 1 3 m__law_great
def m__law_text : M Fl := sSeq (sSet 1 (eC (.str "abcdefghijklmnopqrstuvwxyz0123456789"))) (sSeq (sSet 2 (e2 gIx (eTup (aCons (eC (.int 1)) (aCons (eC (.int 2)) (aCons (eC (.int 12)) (aCons (eC (.int 13)) (aCons (eC (.int 5)) (aCons (eC (.int 0)) (aCons (eC (.int 11)) (aCons (eC (.int 3)) aNil))))))))) (eCall f__law_pick [true, false] (aCons (eVar 0) (aCons (eC (.int 8)) aNil))))) (sSeq (sSet 3 (eM "str" gJoin (eC (.str "")) (aCons (eLc [4] (tgN 4) (ret true) (e2 gIx (eVar 1) (eCall f__law_pick [true, false] (aCons (eVar 0) (aCons (eC (.int 36)) aNil)))) (iRng rng1 (aCons (eVar 2) aNil))) aNil))) (sSeq (sSet 5 (eCall f__law_pick [true, false] (aCons (eVar 0) (aCons (eC (.int 6)) aNil)))) (sSeq (sIf (tB1 (e2 gLt (eVar 5) (eC (.int 3)))) (sRet (eVar 3)) sNil) (sSeq (sSet 6 (eCall f__law_pick [true, false] (aCons (eVar 0) (aCons (e2 gAdd (eVar 2) (eC (.int 1))) aNil)))) (sRet (e2 gAdd (e2 gAdd (eSl gSl (eVar 3) none (some (eVar 6))) (e2 gIx (eTup (aCons (eC (.str "A")) (aCons (eC (.str "_")) (aCons (eC (.str "\n")) (aCons (eC (.str " ")) (aCons (eC (.str "many")) (aCons (eC (.str "-")) aNil))))))) (eCall f__law_pick [true, false] (aCons (eVar 0) (aCons (eC (.int 6)) aNil))))) (eSl gSl (eVar 3) (some (eVar 6)) none))))))))
def f__law_text : Fn := mkFn 1 7 m__law_text
def m__law_bent_box : M Fl := sSeq (sSet 2 (eB gList (aCons (eVar 1) aNil))) (sSeq (sFor (tgN 3) (iRng rng1 (aCons (eCall f__law_pick [true, false] (aCons (eVar 0) (aCons (eC (.int 4)) aNil))) aNil)) (sIf (tB1 (e2 gGt (eB gLen (aCons (eVar 2) aNil)) (eC (.int 0)))) (sSeq (sSet 4 (eCall f__law_pick [true, false] (aCons (eVar 0) (aCons (eB gLen (aCons (eVar 2) aNil)) aNil)))) (sSeq (sSet 5 (eCall f__law_pick [true, false] (aCons (eVar 0) (aCons (eC (.int 4)) aNil)))) (sIf (tB1 (e2 gEq (eVar 5) (eC (.int 3)))) (sPut 2 (eVar 4) (eC (.str "many"))) (sIf (tB1 (e2 gEq (e2 gIx (eVar 2) (eVar 4)) (eC (.str "many")))) (sPut 2 (eVar 4) (eCall f__law_pick [true, false] (aCons (eVar 0) (aCons (eC (.int 36)) aNil)))) (sPut 2 (eVar 4) (eB gMax (aCons (eC (.int 0)) (aCons (e2 gAdd (e2 gIx (eVar 2) (eVar 4)) (e2 gIx (eTup (aCons (eC (.int 1)) (aCons (e1 gNeg (eC (.int 1))) (aCons (eC (.int 2)) aNil)))) (eVar 5))) aNil)))))))) sNil)) (sRet (eVar 2)))
def f__law_bent_box : Fn := mkFn 2 6 m__law_bent_box
def m__law_classes : M Fl := sSeq (sSet 2 (eLst aNil)) (sSeq (tryM (sExp (eCall f__law_raise [false, false] (aCons (eVar 0) (aCons (eVar 1) aNil)))) [⟨isC none, (some 3), sSeq (sSet 4 (eLst (aCons (eIsE (isC (some 0)) 3) (aCons (eIsE (isC (some 1)) 3) (aCons (eIsE (isC (some 2)) 3) aNil))))) (sSeq (sSet 5 (eLst (aCons (eIsE (isC (some 3)) 3) (aCons (eIsE (isC (some 4)) 3) (aCons (eIsE (isC (some 5)) 3) aNil))))) (sSeq (sSet 6 (eLst (aCons (eIsE (isC (some 6)) 3) (aCons (eIsE (isC (some 7)) 3) (aCons (eIsE (isC (some 8)) 3) aNil))))) (sSeq (sSet 7 (eLst (aCons (eIsE (isC (some 9)) 3) (aCons (eIsE (isC (some 10)) 3) (aCons (eIsE (isC (some 11)) 3) aNil))))) (sSeq (sSet 8 (eLst (aCons (eIsE (isC (some 12)) 3) (aCons (eIsE (isC (some 13)) 3) (aCons (eIsE (isC (some 14)) 3) aNil))))) (sSeq (sSet 9 (eLst (aCons (eIsE (isC (some 15)) 3) (aCons (eIsE (isC (some 16)) 3) (aCons (eIsE (isC (some 17)) 3) aNil))))) (sSeq (sSet 10 (eLst (aCons (eIsE (isC (some 18)) 3) (aCons (eIsE (isC (some 19)) 3) (aCons (eIsE (isC (some 20)) 3) aNil))))) (sSeq (sSet 2 (e2 gAdd (e2 gAdd (e2 gAdd (e2 gAdd (e2 gAdd (e2 gAdd (eVar 4) (eVar 5)) (eVar 6)) (eVar 7)) (eVar 8)) (eVar 9)) (eVar 10))) (sSet 2 (e2 gAdd (eVar 2) (eLst (aCons (eIsE (isC (some 21)) 3) (aCons (eIsE (isC none) 3) aNil))))))))))))⟩]) (sRet (eVar 2)))
def f__law_classes : Fn := mkFn 2 11 m__law_classes
def m__law_kept : M Fl := sSeq (sSet 2 (eTup (aCons (eC (.str "none")) aNil))) (sSeq (tryM (sExp (eCall f__law_raise [false, false] (aCons (eVar 0) (aCons (eVar 1) aNil)))) [⟨isC (some 20), (some 3), sSet 2 (eTup (aCons (eC (.str "line")) (aCons (eFld at_line 3) aNil)))⟩, ⟨isC (some 21), (some 3), sSet 2 (eTup (aCons (eC (.str "limit")) (aCons (eFld at_limit 3) aNil)))⟩, ⟨isC none, (some 3), sSet 2 (eTup (aCons (eC (.str "at")) (aCons (eFld at_at 3) aNil)))⟩]) (sRet (eB gRepr (aCons (eVar 2) aNil))))
def f__law_kept : Fn := mkFn 2 4 m__law_kept
def m_check_number : M Fl := sSeq (sIf (tNotM (tB1 (eCall f_is_int [false] (aCons (eVar 0) aNil)))) (sRaise 0 (eCall f_plain_form [false] (aCons (eVar 0) aNil))) sNil) (sSeq (sIf (tB1 (e2 gLt (eVar 0) (eVar 1))) (sRaise 0 (eVar 0)) sNil) (sRet (eVar 0)))
def f_check_number : Fn := mkFn 2 2 m_check_number
def m_check_name : M Fl := sSeq (sIf (tNotM (tB1 (eCall f_is_name [false] (aCons (eVar 0) aNil)))) (sRaise 1 (eCall f_plain_form [false] (aCons (eVar 0) aNil))) sNil) (sRet (eVar 0))
def f_check_name : Fn := mkFn 1 1 m_check_name
def m__law_leaf : M Fl := sSeq (sSet 1 (eCall f__law_pick [true, false] (aCons (eVar 0) (aCons (eC (.int 8)) aNil)))) (sSeq (sIf (tB1 (e2 gEq (eVar 1) (eC (.int 1)))) (sRet (eC (.bool true))) sNil) (sSeq (sIf (tB1 (e2 gEq (eVar 1) (eC (.int 2)))) (sRet (eC (.bool false))) sNil) (sSeq (sIf (tB1 (e2 gEq (eVar 1) (eC (.int 3)))) (sRet (eC .none)) sNil) (sSeq (sIf (tOrM (tB1 (e2 gEq (eVar 1) (eC (.int 4)))) (tB1 (e2 gEq (eVar 1) (eC (.int 5))))) (sRet (eCall f__law_text [true] (aCons (eVar 0) aNil))) sNil) (sSeq (sIf (tB1 (e2 gEq (eVar 1) (eC (.int 6)))) (sRet (eDict "a" (eLst (aCons (eCall f__law_pick [true, false] (aCons (eVar 0) (aCons (eC (.int 36)) aNil))) (aCons (eTup (aCons (eC (.int 1)) (aCons (eLst (aCons (eC (.int 2)) aNil)) aNil))) aNil))))) sNil) (sRet (eCall f__law_great [true] (aCons (eVar 0) aNil))))))))
def f__law_leaf : Fn := mkFn 1 2 m__law_leaf
def m__law_box : M Fl := sSeq (sSet 2 (eLst aNil)) (sSeq (sFor (tgN 3) (iRng rng1 (aCons (eVar 1) aNil)) (sSeq (sSet 4 (eCall f__law_pick [true, false] (aCons (eVar 0) (aCons (eC (.int 4)) aNil)))) (sIf (tB1 (e2 gEq (eVar 4) (eC (.int 1)))) (sApp 2 (eC (.str "many"))) (sIf (tB1 (e2 gEq (eVar 4) (eC (.int 2)))) (sApp 2 (e2 gMod (eB gAbs (aCons (eCall f__law_great [true] (aCons (eVar 0) aNil)) aNil)) (e2 gPow (eC (.int 10)) (eC (.int 30))))) (sApp 2 (eCall f__law_pick [true, false] (aCons (eVar 0) (aCons (eC (.int 4)) aNil)))))))) (sRet (eVar 2)))
def f__law_box : Fn := mkFn 2 5 m__law_box
def m__law_errors_right : M Fl := sSeq (sFor (tgN 1) (iRng rng1 (aCons (eC (.int 22)) aNil)) (sSeq (sIf (tB1 (e2 gNe (eB gRepr (aCons (eCall f__law_classes [false, false] (aCons (eVar 1) (aCons (eVar 0) aNil))) aNil)) (eB gRepr (aCons (e2 gAdd (eLc [2] (tgN 2) (ret true) (e2 gEq (eVar 2) (eVar 1)) (iRng rng1 (aCons (eC (.int 22)) aNil))) (eLst (aCons (eC (.bool true)) aNil))) aNil)))) (sRet (eC (.bool false))) sNil) (sSeq (sSet 3 (eC (.str "at"))) (sSeq (sIf (tB1 (e2 gEq (eVar 1) (eC (.int 20)))) (sSet 3 (eC (.str "line"))) sNil) (sSeq (sIf (tB1 (e2 gEq (eVar 1) (eC (.int 21)))) (sSet 3 (eC (.str "limit"))) sNil) (sIf (tB1 (e2 gNe (eCall f__law_kept [false, false] (aCons (eVar 1) (aCons (eVar 0) aNil))) (eB gRepr (aCons (eTup (aCons (eVar 3) (aCons (eVar 0) aNil))) aNil)))) (sRet (eC (.bool false))) sNil)))))) (sRet (eC (.bool true)))
def f__law_errors_right : Fn := mkFn 1 4 m__law_errors_right
def m_choose : M Fl := sSeq (sExp (eCall f_check_number [false, false] (aCons (eVar 0) (aCons (eC (.int 0)) aNil)))) (sSeq (sExp (eCall f_check_number [false, false] (aCons (eVar 1) (aCons (eC (.int 0)) aNil)))) (sSeq (sIf (tB1 (e2 gGt (eVar 1) (eVar 0))) (sRet (eC (.int 0))) sNil) (sSeq (sSet 2 (eC (.int 1))) (sSeq (sFor (tgN 3) (iRng rng1 (aCons (eB gMin (aCons (eVar 1) (aCons (e2 gSub (eVar 0) (eVar 1)) aNil))) aNil)) (sSet 2 (e2 gDiv (e2 gMul (eVar 2) (e2 gSub (eVar 0) (eVar 3))) (e2 gAdd (eVar 3) (eC (.int 1)))))) (sRet (eVar 2))))))
def f_choose : Fn := mkFn 2 4 m_choose
def m__law_beside : M Fl := sSeq (sSet 1 (eCall f__law_pick [true, false] (aCons (eVar 0) (aCons (eC (.int 6)) aNil)))) (sSeq (sSet 2 (eCall f__law_leaf [true] (aCons (eVar 0) aNil))) (sSeq (sIf (tB1 (e2 gEq (eVar 1) (eC (.int 1)))) (sRet (eTup (aCons (eLst aNil) (aCons (eTup aNil) aNil)))) sNil) (sSeq (sIf (tB1 (e2 gEq (eVar 1) (eC (.int 2)))) (sRet (eTup (aCons (eLst (aCons (eVar 2) (aCons (eTup (aCons (eVar 2) (aCons (eLst aNil) aNil))) aNil))) (aCons (eTup (aCons (eVar 2) (aCons (eTup (aCons (eVar 2) (aCons (eTup aNil) aNil))) aNil))) aNil)))) sNil) (sSeq (sIf (tB1 (e2 gEq (eVar 1) (eC (.int 3)))) (sSeq (sSet 3 (eLst (aCons (eVar 2) aNil))) (sRet (eTup (aCons (eTup (aCons (eVar 3) (aCons (eVar 3) aNil))) (aCons (eTup (aCons (eTup (aCons (eVar 2) aNil)) (aCons (eTup (aCons (eVar 2) aNil)) aNil))) aNil))))) sNil) (sSeq (sIf (tB1 (e2 gEq (eVar 1) (eC (.int 4)))) (sRet (eTup (aCons (eTup (aCons (eVar 2) (aCons (eVar 2) aNil))) (aCons (eTup (aCons (eVar 2) (aCons (eVar 2) aNil))) aNil)))) sNil) (sRet (eTup (aCons (eVar 2) (aCons (eVar 2) aNil)))))))))
def f__law_beside : Fn := mkFn 1 4 m__law_beside
def m__law_boxes_right : M Fl := sSeq (sSet 1 (eCall f__law_box [true, false] (aCons (eVar 0) (aCons (e2 gIx (eTup (aCons (eC (.int 2)) (aCons (eC (.int 0)) (aCons (eC (.int 1)) (aCons (eC (.int 12)) (aCons (eC (.int 5)) aNil)))))) (eCall f__law_pick [true, false] (aCons (eVar 0) (aCons (eC (.int 5)) aNil)))) aNil)))) (sSeq (sSet 2 (eCall f__law_bent_box [true, false] (aCons (eVar 0) (aCons (eVar 1) aNil)))) (sSeq (sSet 3 (eB gRepr (aCons (eTup (aCons (eVar 1) (aCons (eVar 2) aNil))) aNil))) (sSeq (sFor (tgU [4, 5]) (iSeq (eTup (aCons (eTup (aCons (eVar 1) (aCons (eVar 2) aNil))) (aCons (eTup (aCons (eVar 2) (aCons (eVar 1) aNil))) (aCons (eTup (aCons (eVar 2) (aCons (eVar 2) aNil))) aNil))))) (sIf (tB1 (e2 gNe (eB gRepr (aCons (eCall f_is_less [false, false] (aCons (eVar 4) (aCons (eB gTuple (aCons (eVar 5) aNil)) aNil))) aNil)) (eB gRepr (aCons (eCall f__law_at_most [false, false] (aCons (eVar 4) (aCons (eVar 5) aNil))) aNil)))) (sRet (eC (.bool false))) sNil)) (sSeq (sFor (tgN 6) (iSeq (eTup (aCons (eVar 1) (aCons (eVar 2) aNil)))) (sSeq (sSet 7 (eLst aNil)) (sSeq (sFor (tgN 8) (iSeq (eVar 6)) (sIf (tB1 (e2 gEq (eVar 8) (eC (.str "many")))) (sApp 7 (eTup (aCons (eC (.int 1)) (aCons (eC (.int 0)) aNil)))) (sApp 7 (eTup (aCons (eC (.int 0)) (aCons (eVar 8) aNil)))))) (sIf (tOrM (tB1 (e2 gNe (eB gRepr (aCons (eCall f_dense_key [false] (aCons (eVar 6) aNil)) aNil)) (eB gRepr (aCons (eB gTuple (aCons (eVar 7) aNil)) aNil)))) (tB1 (e2 gNe (eB gRepr (aCons (eCall f_dense_key [false] (aCons (eB gTuple (aCons (eVar 6) aNil)) aNil)) aNil)) (eB gRepr (aCons (eB gTuple (aCons (eVar 7) aNil)) aNil))))) (sRet (eC (.bool false))) sNil)))) (sRet (e2 gEq (eB gRepr (aCons (eTup (aCons (eVar 1) (aCons (eVar 2) aNil))) aNil)) (eVar 3)))))))
def f__law_boxes_right : Fn := mkFn 1 9 m__law_boxes_right
def m__law_thing : M Fl := sSeq (sSet 1 (eCall f__law_leaf [true] (aCons (eVar 0) aNil))) (sSeq (sSet 2 (eVar 1)) (sSeq (sFor (tgN 3) (iRng rng1 (aCons (eCall f__law_pick [true, false] (aCons (eVar 0) (aCons (eC (.int 9)) aNil))) aNil)) (sSeq (sSet 4 (eLst (aCons (eVar 1) aNil))) (sSeq (sSet 5 (eLst (aCons (eVar 2) aNil))) (sSeq (sFor (tgN 6) (iRng rng1 (aCons (eCall f__law_pick [true, false] (aCons (eVar 0) (aCons (eC (.int 4)) aNil))) aNil)) (sSeq (sSet 7 (eCall f__law_beside [true] (aCons (eVar 0) aNil))) (sSeq (sSet 8 (eCall f__law_pick [true, false] (aCons (eVar 0) (aCons (e2 gAdd (eB gLen (aCons (eVar 4) aNil)) (eC (.int 1))) aNil)))) (sSeq (sIns 4 (aCons (eVar 8) (aCons (e2 gIx (eVar 7) (eC (.int 0))) aNil))) (sIns 5 (aCons (eVar 8) (aCons (e2 gIx (eVar 7) (eC (.int 1))) aNil))))))) (sSeq (sSet 2 (eB gTuple (aCons (eVar 5) aNil))) (sSeq (sSet 1 (eVar 4)) (sIf (tB1 (e2 gEq (eCall f__law_pick [true, false] (aCons (eVar 0) (aCons (eC (.int 2)) aNil))) (eC (.int 1)))) (sSet 1 (eB gTuple (aCons (eVar 4) aNil))) sNil))))))) (sRet (eTup (aCons (eVar 1) (aCons (eVar 2) aNil))))))
def f__law_thing : Fn := mkFn 1 9 m__law_thing
def m__law_asked : M Fl := sSeq (sSet 3 (eTup (aCons (eC (.str "answered")) aNil))) (sSeq (tryM (sIf (tB1 (e2 gEq (eVar 0) (eC (.int 0)))) (sSet 3 (eTup (aCons (eC (.str "told")) (aCons (eCall f_check_number [false, false] (aCons (eVar 1) (aCons (eVar 2) aNil))) aNil)))) (sIf (tB1 (e2 gEq (eVar 0) (eC (.int 1)))) (sSet 3 (eTup (aCons (eC (.str "told")) (aCons (eCall f_check_name [false] (aCons (eVar 1) aNil)) aNil)))) (sIf (tB1 (e2 gEq (eVar 0) (eC (.int 2)))) (sSet 3 (eTup (aCons (eC (.str "told")) (aCons (eCall f_choose [false, false] (aCons (eVar 1) (aCons (eVar 2) aNil))) aNil)))) (sSet 3 (eTup (aCons (eC (.str "told")) (aCons (eCall f_choose [false, false] (aCons (eVar 2) (aCons (eVar 1) aNil))) aNil))))))) [⟨isC (some 0), (some 4), sSet 3 (eTup (aCons (eC (.str "number")) (aCons (eFld at_at 4) aNil)))⟩, ⟨isC (some 1), (some 4), sSet 3 (eTup (aCons (eC (.str "name")) (aCons (eFld at_at 4) aNil)))⟩, ⟨isC none, none, sSet 3 (eTup (aCons (eC (.str "another error")) aNil))⟩]) (sRet (eB gRepr (aCons (eVar 3) aNil))))
def f__law_asked : Fn := mkFn 3 5 m__law_asked
def m__law_forms_right : M Fl := sSeq (sSet 3 (eB gRepr (aCons (eVar 1) aNil))) (sSeq (sSet 4 (eCall f__law_is_whole [false] (aCons (eVar 1) aNil))) (sSeq (sSet 5 (eCall f__law_named [false] (aCons (eVar 1) aNil))) (sSeq (sIf (tOrM (tB1 (e2 gNe (eB gRepr (aCons (eCall f_is_int [false] (aCons (eVar 1) aNil)) aNil)) (eB gRepr (aCons (eVar 4) aNil)))) (tB1 (e2 gNe (eB gRepr (aCons (eCall f_is_name [false] (aCons (eVar 1) aNil)) aNil)) (eB gRepr (aCons (eVar 5) aNil))))) (sRet (eC (.bool false))) sNil) (sSeq (sIf (tOrM (tB1 (e2 gNe (eB gRepr (aCons (eCall f_plain_form [false] (aCons (eVar 1) aNil)) aNil)) (eB gRepr (aCons (eVar 2) aNil)))) (tB1 (e2 gNe (eB gRepr (aCons (eCall f_plain_form [false] (aCons (eVar 2) aNil)) aNil)) (eB gRepr (aCons (eVar 2) aNil))))) (sRet (eC (.bool false))) sNil) (sSeq (sSet 6 (eCall f__law_great [true] (aCons (eVar 0) aNil))) (sSeq (sIf (tAndM (tB1 (eVar 4)) (tB1 (e2 gGt (eCall f__law_pick [true, false] (aCons (eVar 0) (aCons (eC (.int 3)) aNil))) (eC (.int 0))))) (sSet 6 (e2 gSub (e2 gAdd (eVar 1) (eCall f__law_pick [true, false] (aCons (eVar 0) (aCons (eC (.int 3)) aNil)))) (eC (.int 1)))) sNil) (sSeq (sSet 7 (eTup (aCons (eC (.str "number")) (aCons (eVar 2) aNil)))) (sSeq (sIf (tAndM (tB1 (eVar 4)) (tB1 (e2 gGe (eVar 1) (eVar 6)))) (sSet 7 (eTup (aCons (eC (.str "told")) (aCons (eVar 1) aNil)))) sNil) (sSeq (sIf (tB1 (e2 gNe (eCall f__law_asked [false, false, false] (aCons (eC (.int 0)) (aCons (eVar 1) (aCons (eVar 6) aNil)))) (eB gRepr (aCons (eVar 7) aNil)))) (sRet (eC (.bool false))) sNil) (sSeq (sSet 7 (eTup (aCons (eC (.str "name")) (aCons (eVar 2) aNil)))) (sSeq (sIf (tB1 (eVar 5)) (sSet 7 (eTup (aCons (eC (.str "told")) (aCons (eVar 1) aNil)))) sNil) (sSeq (sIf (tB1 (e2 gNe (eCall f__law_asked [false, false, false] (aCons (eC (.int 1)) (aCons (eVar 1) (aCons (eC (.int 0)) aNil)))) (eB gRepr (aCons (eVar 7) aNil)))) (sRet (eC (.bool false))) sNil) (sSeq (sIf (tOrM (tNotM (tB1 (eVar 4))) (tB1 (e2 gLt (eVar 1) (eC (.int 0))))) (sSeq (sSet 7 (eB gRepr (aCons (eTup (aCons (eC (.str "number")) (aCons (eVar 2) aNil))) aNil))) (sIf (tOrM (tB1 (e2 gNe (eCall f__law_asked [false, false, false] (aCons (eC (.int 2)) (aCons (eVar 1) (aCons (eC (.int 2)) aNil)))) (eVar 7))) (tOrM (tB1 (e2 gNe (eCall f__law_asked [false, false, false] (aCons (eC (.int 3)) (aCons (eVar 1) (aCons (eC (.int 9)) aNil)))) (eVar 7))) (tB1 (e2 gNe (eCall f__law_asked [false, false, false] (aCons (eC (.int 2)) (aCons (eVar 1) (aCons (e1 gNeg (eC (.int 1))) aNil)))) (eVar 7))))) (sRet (eC (.bool false))) sNil)) (sIf (tAndM (tB1 (e2 gLt (eVar 1) (e2 gPow (eC (.int 10)) (eC (.int 30))))) (tB1 (e2 gNe (eCall f__law_asked [false, false, false] (aCons (eC (.int 2)) (aCons (eVar 1) (aCons (eC (.int 2)) aNil)))) (eB gRepr (aCons (eTup (aCons (eC (.str "told")) (aCons (e2 gDiv (e2 gMul (eVar 1) (e2 gSub (eVar 1) (eC (.int 1)))) (eC (.int 2))) aNil))) aNil))))) (sRet (eC (.bool false))) sNil)) (sRet (e2 gEq (eB gRepr (aCons (eVar 1) aNil)) (eVar 3))))))))))))))))
def f__law_forms_right : Fn := mkFn 3 8 m__law_forms_right
def m_law : M Fl := sSeq (sSet 1 (eCall f__law_deck [true] (aCons (eVar 0) aNil))) (sSeq (sFor (tgN 2) (iRng rng1 (aCons (eC (.int 4)) aNil)) (sSeq (sUnp [3, 4] (eCall f__law_thing [true] (aCons (eVar 1) aNil))) (sSeq (sIf (tNotM (tB1 (eCall f__law_forms_right [true, false, false] (aCons (eVar 1) (aCons (eVar 3) (aCons (eVar 4) aNil)))))) (sRet (eC (.bool false))) sNil) (sIf (tNotM (tB1 (eCall f__law_boxes_right [true] (aCons (eVar 1) aNil)))) (sRet (eC (.bool false))) sNil)))) (sRet (eCall f__law_errors_right [false] (aCons (eVar 4) aNil))))
def f_law : Fn := mkFn 1 5 m_law
end K04
/-! # K04R -/
set_option Elab.async false
set_option linter.all false
set_option maxRecDepth 100000
set_option maxHeartbeats 4000000
namespace K04
open PySem L2 Vs PySem.Spec PyProof.Rows
def top (i : Nat) : Stmt := PySem.Challenge.pw_bothatlast_k04_forms_and_errors.main.body.getD i (.Pass ⟨0, 0, 0, 0⟩)
structure Cn (P : Program) (w : World) (K : PySem.W.Frag) (mg : Str → Option Value) (base : Heap) (G : Gi) : Prop where
  hK : K = G.K
  sy : ∃ o, base.get? sysModules = some o
  T : GiOk G K nC
  n_ValueError : mg "ValueError" = none
  n_abs : mg "abs" = none
  n_all : mg "all" = none
  n_bool : mg "bool" = none
  n_enumerate : mg "enumerate" = none
  n_int : mg "int" = none
  n_isinstance : mg "isinstance" = none
  n_len : mg "len" = none
  n_list : mg "list" = none
  n_max : mg "max" = none
  n_min : mg "min" = none
  n_range : mg "range" = none
  n_repr : mg "repr" = none
  n_reversed : mg "reversed" = none
  n_str : mg "str" = none
  n_tuple : mg "tuple" = none
  g_SMALL_LETTERS : ∃ t, mg "SMALL_LETTERS" = some (.str "abcdefghijklmnopqrstuvwxyz" t)
  g_NAME_SIGNS : ∃ t, mg "NAME_SIGNS" = some (.str "abcdefghijklmnopqrstuvwxyz0123456789" t)
  g_NAME_MOST : ∃ t, mg "NAME_MOST" = some (.int 12 t)
  m_BadNumber : mg "BadNumber" = some (.ref (G.cls 0))
  m_BadName : mg "BadName" = some (.ref (G.cls 1))
  m_BadLots : mg "BadLots" = some (.ref (G.cls 2))
  m_BadHouses : mg "BadHouses" = some (.ref (G.cls 3))
  m_BadLetter : mg "BadLetter" = some (.ref (G.cls 4))
  m_BadProgram : mg "BadProgram" = some (.ref (G.cls 5))
  m_BadBook : mg "BadBook" = some (.ref (G.cls 6))
  m_BadStand : mg "BadStand" = some (.ref (G.cls 7))
  m_BadLoad : mg "BadLoad" = some (.ref (G.cls 8))
  m_BadBox : mg "BadBox" = some (.ref (G.cls 9))
  m_BadCast : mg "BadCast" = some (.ref (G.cls 10))
  m_BadMove : mg "BadMove" = some (.ref (G.cls 11))
  m_BadTarget : mg "BadTarget" = some (.ref (G.cls 12))
  m_BadMark : mg "BadMark" = some (.ref (G.cls 13))
  m_BadRound : mg "BadRound" = some (.ref (G.cls 14))
  m_BadPaper : mg "BadPaper" = some (.ref (G.cls 15))
  m_BadLink : mg "BadLink" = some (.ref (G.cls 16))
  m_BadEdit : mg "BadEdit" = some (.ref (G.cls 17))
  m_BadCase : mg "BadCase" = some (.ref (G.cls 18))
  m_NoName : mg "NoName" = some (.ref (G.cls 19))
  m_BadText : mg "BadText" = some (.ref (G.cls 20))
  m_TooMany : mg "TooMany" = some (.ref (G.cls 21))
  m_LastError : mg "LastError" = some (.ref (G.cls 22))
  x_BadNumber : ∀ c b, isC (some 0) c = some b → PySem.W.exmOne K (.ref (G.cls c)) (.ref (G.cls 0)) = some b
  k_BadNumber : ∀ c b, isC (some 0) c = some b → ExcC K (G.cls c) ∧ PySem.W.kitOne K (.ref (G.cls c)) (.ref (G.cls 0)) = some b
  x_BadName : ∀ c b, isC (some 1) c = some b → PySem.W.exmOne K (.ref (G.cls c)) (.ref (G.cls 1)) = some b
  k_BadName : ∀ c b, isC (some 1) c = some b → ExcC K (G.cls c) ∧ PySem.W.kitOne K (.ref (G.cls c)) (.ref (G.cls 1)) = some b
  k_BadLots : ∀ c b, isC (some 2) c = some b → ExcC K (G.cls c) ∧ PySem.W.kitOne K (.ref (G.cls c)) (.ref (G.cls 2)) = some b
  k_BadHouses : ∀ c b, isC (some 3) c = some b → ExcC K (G.cls c) ∧ PySem.W.kitOne K (.ref (G.cls c)) (.ref (G.cls 3)) = some b
  k_BadLetter : ∀ c b, isC (some 4) c = some b → ExcC K (G.cls c) ∧ PySem.W.kitOne K (.ref (G.cls c)) (.ref (G.cls 4)) = some b
  k_BadProgram : ∀ c b, isC (some 5) c = some b → ExcC K (G.cls c) ∧ PySem.W.kitOne K (.ref (G.cls c)) (.ref (G.cls 5)) = some b
  k_BadBook : ∀ c b, isC (some 6) c = some b → ExcC K (G.cls c) ∧ PySem.W.kitOne K (.ref (G.cls c)) (.ref (G.cls 6)) = some b
  k_BadStand : ∀ c b, isC (some 7) c = some b → ExcC K (G.cls c) ∧ PySem.W.kitOne K (.ref (G.cls c)) (.ref (G.cls 7)) = some b
  k_BadLoad : ∀ c b, isC (some 8) c = some b → ExcC K (G.cls c) ∧ PySem.W.kitOne K (.ref (G.cls c)) (.ref (G.cls 8)) = some b
  k_BadBox : ∀ c b, isC (some 9) c = some b → ExcC K (G.cls c) ∧ PySem.W.kitOne K (.ref (G.cls c)) (.ref (G.cls 9)) = some b
  k_BadCast : ∀ c b, isC (some 10) c = some b → ExcC K (G.cls c) ∧ PySem.W.kitOne K (.ref (G.cls c)) (.ref (G.cls 10)) = some b
  k_BadMove : ∀ c b, isC (some 11) c = some b → ExcC K (G.cls c) ∧ PySem.W.kitOne K (.ref (G.cls c)) (.ref (G.cls 11)) = some b
  k_BadTarget : ∀ c b, isC (some 12) c = some b → ExcC K (G.cls c) ∧ PySem.W.kitOne K (.ref (G.cls c)) (.ref (G.cls 12)) = some b
  k_BadMark : ∀ c b, isC (some 13) c = some b → ExcC K (G.cls c) ∧ PySem.W.kitOne K (.ref (G.cls c)) (.ref (G.cls 13)) = some b
  k_BadRound : ∀ c b, isC (some 14) c = some b → ExcC K (G.cls c) ∧ PySem.W.kitOne K (.ref (G.cls c)) (.ref (G.cls 14)) = some b
  k_BadPaper : ∀ c b, isC (some 15) c = some b → ExcC K (G.cls c) ∧ PySem.W.kitOne K (.ref (G.cls c)) (.ref (G.cls 15)) = some b
  k_BadLink : ∀ c b, isC (some 16) c = some b → ExcC K (G.cls c) ∧ PySem.W.kitOne K (.ref (G.cls c)) (.ref (G.cls 16)) = some b
  k_BadEdit : ∀ c b, isC (some 17) c = some b → ExcC K (G.cls c) ∧ PySem.W.kitOne K (.ref (G.cls c)) (.ref (G.cls 17)) = some b
  k_BadCase : ∀ c b, isC (some 18) c = some b → ExcC K (G.cls c) ∧ PySem.W.kitOne K (.ref (G.cls c)) (.ref (G.cls 18)) = some b
  k_NoName : ∀ c b, isC (some 19) c = some b → ExcC K (G.cls c) ∧ PySem.W.kitOne K (.ref (G.cls c)) (.ref (G.cls 19)) = some b
  x_BadText : ∀ c b, isC (some 20) c = some b → PySem.W.exmOne K (.ref (G.cls c)) (.ref (G.cls 20)) = some b
  k_BadText : ∀ c b, isC (some 20) c = some b → ExcC K (G.cls c) ∧ PySem.W.kitOne K (.ref (G.cls c)) (.ref (G.cls 20)) = some b
  x_TooMany : ∀ c b, isC (some 21) c = some b → PySem.W.exmOne K (.ref (G.cls c)) (.ref (G.cls 21)) = some b
  k_TooMany : ∀ c b, isC (some 21) c = some b → ExcC K (G.cls c) ∧ PySem.W.kitOne K (.ref (G.cls c)) (.ref (G.cls 21)) = some b
  x_LastError : ∀ c b, isC none c = some b → PySem.W.exmOne K (.ref (G.cls c)) (.ref (G.cls 22)) = some b
  k_ValueError : ∀ c b, isC none c = some b → ExcC K (G.cls c) ∧ PySem.W.kitOne K (.ref (G.cls c)) (.type "ValueError") = some b
  f_at : ∀ c, at_at c = true → G.fld c = "at" ∧ ∃ fI qual, ErrC K (G.cls c) fI qual (G.fld c)
  f_limit : ∀ c, at_limit c = true → G.fld c = "limit" ∧ ∃ fI qual, ErrC K (G.cls c) fI qual (G.fld c)
  f_line : ∀ c, at_line c = true → G.fld c = "line" ∧ ∃ fI qual, ErrC K (G.cls c) fI qual (G.fld c)
variable {P : Program} {w : World} {K : PySem.W.Frag} {mg : Str → Option Value} {base : Heap} {G : Gi}
abbrev s_is_int : Stmt := top 28
theorem sc_is_int : FnScope ["x"] ["x"] (defScope s_is_int) := ⟨rfl, rfl, rfl, by decide +kernel, rfl, by decide +kernel, by decide +kernel⟩
theorem ok_is_int (C : Cn P w K mg base G) (A_is_int : At K mg "is_int" s_is_int ["x"]) : Doe P w K mg base G 1 "is_int" ["x"] 1 f_is_int :=
  A_is_int.doe sc_is_int rfl rfl (by decide) fun f cdv A outer s H E hgu hr => by
    have cx := cx_of (G := G) (N := ["x"]) (P := P) (w := w) (K := K) (mg := mg) (base := base) (f := f) (cd := cdv) (outer := outer) (H := H) (E := E) hgu hr sc_is_int.nd
    exact cs_one (cs_ret (ce_and (ce_isi C.hK rfl rfl C.n_isinstance (ce_var (pv 0)) rfl C.n_int b_int) (ce_one (ce_not (ce_isi C.hK rfl rfl C.n_isinstance (ce_var (pv 0)) rfl C.n_bool b_bool)))))
abbrev s_is_row : Stmt := top 29
theorem sc_is_row : FnScope ["x"] ["x"] (defScope s_is_row) := ⟨rfl, rfl, rfl, by decide +kernel, rfl, by decide +kernel, by decide +kernel⟩
theorem ok_is_row (C : Cn P w K mg base G) (A_is_row : At K mg "is_row" s_is_row ["x"]) : Doe P w K mg base G 1 "is_row" ["x"] 1 f_is_row :=
  A_is_row.doe sc_is_row rfl rfl (by decide) fun f cdv A outer s H E hgu hr => by
    have cx := cx_of (G := G) (N := ["x"]) (P := P) (w := w) (K := K) (mg := mg) (base := base) (f := f) (cd := cdv) (outer := outer) (H := H) (E := E) hgu hr sc_is_row.nd
    exact cs_one (cs_ret (ce_isi2 C.hK rfl rfl rfl C.n_isinstance (ce_var (pv 0)) rfl C.n_list b_list rfl C.n_tuple b_tuple))
abbrev s_is_name : Stmt := top 30
theorem sc_is_name : FnScope ["x", "sign"] ["x"] (defScope s_is_name) := ⟨rfl, rfl, rfl, by decide +kernel, rfl, by decide +kernel, by decide +kernel⟩
theorem ok_is_name (C : Cn P w K mg base G) (A_is_name : At K mg "is_name" s_is_name ["x"]) : Doe P w K mg base G 1 "is_name" ["x"] 1 f_is_name :=
  A_is_name.doe sc_is_name rfl rfl (by decide) fun f cdv A outer s H E hgu hr => by
    have cx := cx_of (G := G) (N := ["x", "sign"]) (P := P) (w := w) (K := K) (mg := mg) (base := base) (f := f) (cd := cdv) (outer := outer) (H := H) (E := E) hgu hr sc_is_name.nd
    exact cs_cons (cs_if (ct_not (ct_val (ce_isi C.hK rfl rfl C.n_isinstance (ce_var (pv 0)) rfl C.n_str b_str))) (cs_one (cs_ret ce_bl)) cs_nil) (cs_cons (cs_if (ct_w (cw_or (t_lt (d_len C.hK rfl C.n_len (ca_cons (ce_var (pv 0)) ca_nil)) ce_int) (cw_or (t_gt (d_len C.hK rfl C.n_len (ca_cons (ce_var (pv 0)) ca_nil)) (ce_globI rfl C.g_NAME_MOST)) (cw_or1 (t_notIn C.hK cx.rm (d_ix C.hK (ce_var (pv 0)) ce_int (fun _ _ => rfl)) (ce_globS rfl C.g_SMALL_LETTERS) (by with_unfolding_all rfl)))))) (cs_one (cs_ret ce_bl)) cs_nil) (cs_one (cs_ret (d_all C.hK rfl rfl C.n_all (ca_cons (ce_lc [("sign", 1)] rfl cx.nd (ci_str (ce_var (pv 0))) (blk_of (N := ["x", "sign"]) (sc := defScope s_is_name) (by decide +kernel)) (fun _ _ _ _ _ => (pg_name cx.nd (i := 1) rfl (by first | exact Or.inl rfl | exact Or.inr rfl))) tgN_ok (fun _ _ _ _ _ => ct_nil) (fun _ _ _ _ _ => d_in C.hK cx.rm (ce_var (pv 1)) (ce_globS rfl C.g_NAME_SIGNS) (by with_unfolding_all rfl))) ca_nil)))))
abbrev s_dense_key : Stmt := top 34
theorem sc_dense_key : FnScope ["box", "count"] ["box"] (defScope s_dense_key) := ⟨rfl, rfl, rfl, by decide +kernel, rfl, by decide +kernel, by decide +kernel⟩
theorem ok_dense_key (C : Cn P w K mg base G) (A_dense_key : At K mg "dense_key" s_dense_key ["box"]) : Doe P w K mg base G 1 "dense_key" ["box"] 1 f_dense_key :=
  A_dense_key.doe sc_dense_key rfl rfl (by decide) fun f cdv A outer s H E hgu hr => by
    have cx := cx_of (G := G) (N := ["box", "count"]) (P := P) (w := w) (K := K) (mg := mg) (base := base) (f := f) (cd := cdv) (outer := outer) (H := H) (E := E) hgu hr sc_dense_key.nd
    exact cs_one (cs_ret (d_tuple C.hK rfl C.n_tuple (ca_cons (ce_lc [("count", 1)] rfl cx.nd (ci_seq C.hK (ce_var (pv 0))) (blk_of (N := ["box", "count"]) (sc := defScope s_dense_key) (by decide +kernel)) (fun _ _ _ _ _ => (pg_name cx.nd (i := 1) rfl (by first | exact Or.inl rfl | exact Or.inr rfl))) tgN_ok (fun _ _ _ _ _ => ct_nil) (fun _ _ _ _ _ => ce_if (t_eq C.hK cx.rm (ce_var (pv 1)) ce_str) (ce_tup (ca_cons ce_int (ca_cons ce_int ca_nil))) (ce_tup (ca_cons ce_int (ca_cons (ce_var (pv 1)) ca_nil))))) ca_nil)))
abbrev s_is_less : Stmt := top 35
theorem sc_is_less : FnScope ["u", "v", "at", "count"] ["u", "v"] (defScope s_is_less) := ⟨rfl, rfl, rfl, by decide +kernel, rfl, by decide +kernel, by decide +kernel⟩
theorem ok_is_less (C : Cn P w K mg base G) (A_is_less : At K mg "is_less" s_is_less ["u", "v"]) : Doe P w K mg base G 1 "is_less" ["u", "v"] 2 f_is_less :=
  A_is_less.doe sc_is_less rfl rfl (by decide) fun f cdv A outer s H E hgu hr => by
    have cx := cx_of (G := G) (N := ["u", "v", "at", "count"]) (P := P) (w := w) (K := K) (mg := mg) (base := base) (f := f) (cd := cdv) (outer := outer) (H := H) (E := E) hgu hr sc_is_less.nd
    exact cs_cons (cs_for cx.ow rfl (ci_enum C.hK rfl C.n_enumerate (ce_var (pv 0))) (pg_either (pg_tup rfl (pgs_cons (pg_name cx.nd (i := 2) rfl (by first | exact Or.inl rfl | exact Or.inr rfl)) (pgs_cons (pg_name cx.nd (i := 3) rfl (by first | exact Or.inl rfl | exact Or.inr rfl)) (pgs_nil)))) (pg_lst rfl (pgs_cons (pg_name cx.nd (i := 2) rfl (by first | exact Or.inl rfl | exact Or.inr rfl)) (pgs_cons (pg_name cx.nd (i := 3) rfl (by first | exact Or.inl rfl | exact Or.inr rfl)) (pgs_nil))))) (tgU_ok C.hK) (cs_one (cs_if (t_ne C.hK cx.rm (d_ix C.hK (ce_var (pv 1)) (ce_var (pv 2)) (fun _ _ => rfl)) ce_str) (cs_one (cs_if (ct_w (cw_or (t_eq C.hK cx.rm (ce_var (pv 3)) ce_str) (cw_or1 (t_gt (ce_var (pv 3)) (d_ix C.hK (ce_var (pv 1)) (ce_var (pv 2)) (fun _ _ => rfl)))))) (cs_one (cs_ret ce_bl)) cs_nil)) cs_nil))) (cs_one (cs_ret ce_bl))
abbrev s__law_deck : Stmt := top 39
theorem sc__law_deck : FnScope ["script", "deck", "at", "number", "turn"] ["script"] (defScope s__law_deck) := ⟨rfl, rfl, rfl, by decide +kernel, rfl, by decide +kernel, by decide +kernel⟩
theorem ok__law_deck (C : Cn P w K mg base G) (A__law_deck : At K mg "_law_deck" s__law_deck ["script"]) : Doe P w K mg base G 1 "_law_deck" ["script"] 1 f__law_deck :=
  A__law_deck.doe sc__law_deck rfl rfl (by decide) fun f cdv A outer s H E hgu hr => by
    have cx := cx_of (G := G) (N := ["script", "deck", "at", "number", "turn"]) (P := P) (w := w) (K := K) (mg := mg) (base := base) (f := f) (cd := cdv) (outer := outer) (H := H) (E := E) hgu hr sc__law_deck.nd
    exact cs_cons (cs_set (i := 1) cx.nd rfl (by first | exact Or.inl rfl | exact Or.inr rfl) (ce_lst (ca_cons ce_int ca_nil))) (cs_cons (cs_for cx.ow rfl (ci_range1 rfl C.n_range (ca_cons (d_min rfl rfl C.n_min (ca_cons (ce_lenS C.hK (pv 0) rfl C.n_len b_len) (ca_cons ce_int ca_nil))) ca_nil)) (pg_name cx.nd (i := 2) rfl (by first | exact Or.inl rfl | exact Or.inr rfl)) tgN_ok (cs_cons (cs_set (i := 3) cx.nd rfl (by first | exact Or.inl rfl | exact Or.inr rfl) (d_int rfl C.n_int (ca_cons (ce_ixS C.hK (pv 0) (ce_var (pv 2)) (fun _ _ => rfl)) ca_nil))) (cs_cons (cs_if (t_lt (ce_var (pv 3)) ce_int) (cs_one (cs_set (i := 3) cx.nd rfl (by first | exact Or.inl rfl | exact Or.inr rfl) (d_sub C.hK ce_int (d_mul C.hK ce_int (ce_var (pv 3)))))) cs_nil) (cs_cons (cs_set (i := 3) cx.nd rfl (by first | exact Or.inl rfl | exact Or.inr rfl) (d_mod C.hK (ce_var (pv 3)) (d_pow C.hK ce_int ce_int))) (cs_one (cs_for cx.ow rfl (ci_range1 rfl C.n_range (ca_cons ce_int ca_nil)) (pg_name cx.nd (i := 4) rfl (by first | exact Or.inl rfl | exact Or.inr rfl)) tgN_ok (cs_cons (cs_app (i := 1) C.hK (pv 1) (d_mod C.hK (ce_var (pv 3)) ce_int)) (cs_cons (cs_set (i := 3) cx.nd rfl (by first | exact Or.inl rfl | exact Or.inr rfl) (d_div C.hK (ce_var (pv 3)) ce_int)) (cs_one (cs_if (t_eq C.hK cx.rm (ce_var (pv 3)) ce_int) (cs_one cs_break) cs_nil)))))))))) (cs_one (cs_ret (ce_var (pv 1)))))
abbrev s__law_pick : Stmt := top 40
theorem sc__law_pick : FnScope ["deck", "many"] ["deck", "many"] (defScope s__law_pick) := ⟨rfl, rfl, rfl, by decide +kernel, rfl, by decide +kernel, by decide +kernel⟩
theorem ok__law_pick (C : Cn P w K mg base G) (A__law_pick : At K mg "_law_pick" s__law_pick ["deck", "many"]) : Doe P w K mg base G 1 "_law_pick" ["deck", "many"] 2 f__law_pick :=
  A__law_pick.doe sc__law_pick rfl rfl (by decide) fun f cdv A outer s H E hgu hr => by
    have cx := cx_of (G := G) (N := ["deck", "many"]) (P := P) (w := w) (K := K) (mg := mg) (base := base) (f := f) (cd := cdv) (outer := outer) (H := H) (E := E) hgu hr sc__law_pick.nd
    exact cs_cons (cs_put (i := 0) (pv 0) ce_int (d_add C.hK (d_ix C.hK (ce_var (pv 0)) ce_int (fun _ _ => rfl)) ce_int) (by intros; rfl)) (cs_cons (cs_if (t_ge (d_ix C.hK (ce_var (pv 0)) ce_int (fun _ _ => rfl)) (d_len C.hK rfl C.n_len (ca_cons (ce_var (pv 0)) ca_nil))) (cs_one (cs_ret ce_int)) cs_nil) (cs_one (cs_ret (d_mod C.hK (d_ix C.hK (ce_var (pv 0)) (d_ix C.hK (ce_var (pv 0)) ce_int (fun _ _ => rfl)) (fun _ _ => rfl)) (ce_var (pv 1))))))
abbrev s__law_is_whole : Stmt := top 46
theorem sc__law_is_whole : FnScope ["thing"] ["thing"] (defScope s__law_is_whole) := ⟨rfl, rfl, rfl, by decide +kernel, rfl, by decide +kernel, by decide +kernel⟩
theorem ok__law_is_whole (C : Cn P w K mg base G) (A__law_is_whole : At K mg "_law_is_whole" s__law_is_whole ["thing"]) : Doe P w K mg base G 1 "_law_is_whole" ["thing"] 1 f__law_is_whole :=
  A__law_is_whole.doe sc__law_is_whole rfl rfl (by decide) fun f cdv A outer s H E hgu hr => by
    have cx := cx_of (G := G) (N := ["thing"]) (P := P) (w := w) (K := K) (mg := mg) (base := base) (f := f) (cd := cdv) (outer := outer) (H := H) (E := E) hgu hr sc__law_is_whole.nd
    exact cs_one (cs_ret (ce_and (ce_isi C.hK rfl rfl C.n_isinstance (ce_var (pv 0)) rfl C.n_int b_int) (ce_one (ce_not (ce_isi C.hK rfl rfl C.n_isinstance (ce_var (pv 0)) rfl C.n_bool b_bool)))))
abbrev s__law_named : Stmt := top 47
theorem sc__law_named : FnScope ["thing", "sign"] ["thing"] (defScope s__law_named) := ⟨rfl, rfl, rfl, by decide +kernel, rfl, by decide +kernel, by decide +kernel⟩
theorem ok__law_named (C : Cn P w K mg base G) (A__law_named : At K mg "_law_named" s__law_named ["thing"]) : Doe P w K mg base G 1 "_law_named" ["thing"] 1 f__law_named :=
  A__law_named.doe sc__law_named rfl rfl (by decide) fun f cdv A outer s H E hgu hr => by
    have cx := cx_of (G := G) (N := ["thing", "sign"]) (P := P) (w := w) (K := K) (mg := mg) (base := base) (f := f) (cd := cdv) (outer := outer) (H := H) (E := E) hgu hr sc__law_named.nd
    exact cs_cons (cs_if (ct_not (ct_val (ce_isi C.hK rfl rfl C.n_isinstance (ce_var (pv 0)) rfl C.n_str b_str))) (cs_one (cs_ret ce_bl)) cs_nil) (cs_cons (cs_if (ct_w (cw_or (t_eq C.hK cx.rm (d_len C.hK rfl C.n_len (ca_cons (ce_var (pv 0)) ca_nil)) ce_int) (cw_or (t_gt (d_len C.hK rfl C.n_len (ca_cons (ce_var (pv 0)) ca_nil)) ce_int) (cw_or1 (t_notIn C.hK cx.rm (d_ix C.hK (ce_var (pv 0)) ce_int (fun _ _ => rfl)) ce_str (by with_unfolding_all rfl)))))) (cs_one (cs_ret ce_bl)) cs_nil) (cs_one (cs_ret (d_eq C.hK cx.rm (d_len C.hK rfl C.n_len (ca_cons (ce_lc [("sign", 1)] rfl cx.nd (ci_str (ce_var (pv 0))) (blk_of (N := ["thing", "sign"]) (sc := defScope s__law_named) (by decide +kernel)) (fun _ _ _ _ _ => (pg_name cx.nd (i := 1) rfl (by first | exact Or.inl rfl | exact Or.inr rfl))) tgN_ok (fun _ _ _ _ _ => ct_one (t_notIn C.hK cx.rm (ce_var (pv 1)) ce_str (by with_unfolding_all rfl))) (fun _ _ _ _ _ => ce_var (pv 1))) ca_nil)) ce_int))))
abbrev s__law_at_most : Stmt := top 52
theorem sc__law_at_most : FnScope ["low", "high", "at"] ["low", "high"] (defScope s__law_at_most) := ⟨rfl, rfl, rfl, by decide +kernel, rfl, by decide +kernel, by decide +kernel⟩
theorem ok__law_at_most (C : Cn P w K mg base G) (A__law_at_most : At K mg "_law_at_most" s__law_at_most ["low", "high"]) : Doe P w K mg base G 1 "_law_at_most" ["low", "high"] 2 f__law_at_most :=
  A__law_at_most.doe sc__law_at_most rfl rfl (by decide) fun f cdv A outer s H E hgu hr => by
    have cx := cx_of (G := G) (N := ["low", "high", "at"]) (P := P) (w := w) (K := K) (mg := mg) (base := base) (f := f) (cd := cdv) (outer := outer) (H := H) (E := E) hgu hr sc__law_at_most.nd
    exact cs_cons (cs_for cx.ow rfl (ci_range1 rfl C.n_range (ca_cons (d_len C.hK rfl C.n_len (ca_cons (ce_var (pv 0)) ca_nil)) ca_nil)) (pg_name cx.nd (i := 2) rfl (by first | exact Or.inl rfl | exact Or.inr rfl)) tgN_ok (cs_one (cs_if (ct_w (cw_and (t_ne C.hK cx.rm (d_ix C.hK (ce_var (pv 1)) (ce_var (pv 2)) (fun _ _ => rfl)) ce_str) (cw_and1 (ct_w (cw_or (t_eq C.hK cx.rm (d_ix C.hK (ce_var (pv 0)) (ce_var (pv 2)) (fun _ _ => rfl)) ce_str) (cw_or1 (t_gt (d_ix C.hK (ce_var (pv 0)) (ce_var (pv 2)) (fun _ _ => rfl)) (d_ix C.hK (ce_var (pv 1)) (ce_var (pv 2)) (fun _ _ => rfl))))))))) (cs_one (cs_ret ce_bl)) cs_nil))) (cs_one (cs_ret ce_bl))
abbrev s__law_raise : Stmt := top 54
theorem sc__law_raise : FnScope ["which", "at"] ["which", "at"] (defScope s__law_raise) := ⟨rfl, rfl, rfl, by decide +kernel, rfl, by decide +kernel, by decide +kernel⟩
theorem ok__law_raise (C : Cn P w K mg base G) (A__law_raise : At K mg "_law_raise" s__law_raise ["which", "at"]) : Doe P w K mg base G 1 "_law_raise" ["which", "at"] 2 f__law_raise :=
  A__law_raise.doe sc__law_raise rfl rfl (by decide) fun f cdv A outer s H E hgu hr => by
    have cx := cx_of (G := G) (N := ["which", "at"]) (P := P) (w := w) (K := K) (mg := mg) (base := base) (f := f) (cd := cdv) (outer := outer) (H := H) (E := E) hgu hr sc__law_raise.nd
    exact cs_cons (cs_if (t_eq C.hK cx.rm (ce_var (pv 0)) ce_int) (cs_one (cs_raise (c := 0) rfl cx.tk C.T (by decide) cx.rm C.m_BadNumber (ce_var (pv 1)) rfl)) cs_nil) (cs_cons (cs_if (t_eq C.hK cx.rm (ce_var (pv 0)) ce_int) (cs_one (cs_raise (c := 1) rfl cx.tk C.T (by decide) cx.rm C.m_BadName (ce_var (pv 1)) rfl)) cs_nil) (cs_cons (cs_if (t_eq C.hK cx.rm (ce_var (pv 0)) ce_int) (cs_one (cs_raise (c := 2) rfl cx.tk C.T (by decide) cx.rm C.m_BadLots (ce_var (pv 1)) rfl)) cs_nil) (cs_cons (cs_if (t_eq C.hK cx.rm (ce_var (pv 0)) ce_int) (cs_one (cs_raise (c := 3) rfl cx.tk C.T (by decide) cx.rm C.m_BadHouses (ce_var (pv 1)) rfl)) cs_nil) (cs_cons (cs_if (t_eq C.hK cx.rm (ce_var (pv 0)) ce_int) (cs_one (cs_raise (c := 4) rfl cx.tk C.T (by decide) cx.rm C.m_BadLetter (ce_var (pv 1)) rfl)) cs_nil) (cs_cons (cs_if (t_eq C.hK cx.rm (ce_var (pv 0)) ce_int) (cs_one (cs_raise (c := 5) rfl cx.tk C.T (by decide) cx.rm C.m_BadProgram (ce_var (pv 1)) rfl)) cs_nil) (cs_cons (cs_if (t_eq C.hK cx.rm (ce_var (pv 0)) ce_int) (cs_one (cs_raise (c := 6) rfl cx.tk C.T (by decide) cx.rm C.m_BadBook (ce_var (pv 1)) rfl)) cs_nil) (cs_cons (cs_if (t_eq C.hK cx.rm (ce_var (pv 0)) ce_int) (cs_one (cs_raise (c := 7) rfl cx.tk C.T (by decide) cx.rm C.m_BadStand (ce_var (pv 1)) rfl)) cs_nil) (cs_cons (cs_if (t_eq C.hK cx.rm (ce_var (pv 0)) ce_int) (cs_one (cs_raise (c := 8) rfl cx.tk C.T (by decide) cx.rm C.m_BadLoad (ce_var (pv 1)) rfl)) cs_nil) (cs_cons (cs_if (t_eq C.hK cx.rm (ce_var (pv 0)) ce_int) (cs_one (cs_raise (c := 9) rfl cx.tk C.T (by decide) cx.rm C.m_BadBox (ce_var (pv 1)) rfl)) cs_nil) (cs_cons (cs_if (t_eq C.hK cx.rm (ce_var (pv 0)) ce_int) (cs_one (cs_raise (c := 10) rfl cx.tk C.T (by decide) cx.rm C.m_BadCast (ce_var (pv 1)) rfl)) cs_nil) (cs_cons (cs_if (t_eq C.hK cx.rm (ce_var (pv 0)) ce_int) (cs_one (cs_raise (c := 11) rfl cx.tk C.T (by decide) cx.rm C.m_BadMove (ce_var (pv 1)) rfl)) cs_nil) (cs_cons (cs_if (t_eq C.hK cx.rm (ce_var (pv 0)) ce_int) (cs_one (cs_raise (c := 12) rfl cx.tk C.T (by decide) cx.rm C.m_BadTarget (ce_var (pv 1)) rfl)) cs_nil) (cs_cons (cs_if (t_eq C.hK cx.rm (ce_var (pv 0)) ce_int) (cs_one (cs_raise (c := 13) rfl cx.tk C.T (by decide) cx.rm C.m_BadMark (ce_var (pv 1)) rfl)) cs_nil) (cs_cons (cs_if (t_eq C.hK cx.rm (ce_var (pv 0)) ce_int) (cs_one (cs_raise (c := 14) rfl cx.tk C.T (by decide) cx.rm C.m_BadRound (ce_var (pv 1)) rfl)) cs_nil) (cs_cons (cs_if (t_eq C.hK cx.rm (ce_var (pv 0)) ce_int) (cs_one (cs_raise (c := 15) rfl cx.tk C.T (by decide) cx.rm C.m_BadPaper (ce_var (pv 1)) rfl)) cs_nil) (cs_cons (cs_if (t_eq C.hK cx.rm (ce_var (pv 0)) ce_int) (cs_one (cs_raise (c := 16) rfl cx.tk C.T (by decide) cx.rm C.m_BadLink (ce_var (pv 1)) rfl)) cs_nil) (cs_cons (cs_if (t_eq C.hK cx.rm (ce_var (pv 0)) ce_int) (cs_one (cs_raise (c := 17) rfl cx.tk C.T (by decide) cx.rm C.m_BadEdit (ce_var (pv 1)) rfl)) cs_nil) (cs_cons (cs_if (t_eq C.hK cx.rm (ce_var (pv 0)) ce_int) (cs_one (cs_raise (c := 18) rfl cx.tk C.T (by decide) cx.rm C.m_BadCase (ce_var (pv 1)) rfl)) cs_nil) (cs_cons (cs_if (t_eq C.hK cx.rm (ce_var (pv 0)) ce_int) (cs_one (cs_raise (c := 19) rfl cx.tk C.T (by decide) cx.rm C.m_NoName (ce_var (pv 1)) rfl)) cs_nil) (cs_cons (cs_if (t_eq C.hK cx.rm (ce_var (pv 0)) ce_int) (cs_one (cs_raise (c := 20) rfl cx.tk C.T (by decide) cx.rm C.m_BadText (ce_var (pv 1)) rfl)) cs_nil) (cs_one (cs_raise (c := 21) rfl cx.tk C.T (by decide) cx.rm C.m_TooMany (ce_var (pv 1)) rfl))))))))))))))))))))))
abbrev s_plain_form : Stmt := top 31
theorem sc_plain_form : FnScope ["x", "rows", "at", "inner", "part", "whole", "end", "place", "turn", "parts"] ["x"] (defScope s_plain_form) := ⟨rfl, rfl, rfl, by decide +kernel, rfl, by decide +kernel, by decide +kernel⟩
theorem ok_plain_form (C : Cn P w K mg base G) (A_plain_form : At K mg "plain_form" s_plain_form ["x"]) (D_is_row : Doe P w K mg base G 1 "is_row" ["x"] 1 f_is_row) : Doe P w K mg base G 2 "plain_form" ["x"] 1 f_plain_form :=
  A_plain_form.doe sc_plain_form rfl rfl (by decide) fun f cdv A outer s H E hgu hr => by
    have cx := cx_of (G := G) (N := ["x", "rows", "at", "inner", "part", "whole", "end", "place", "turn", "parts"]) (P := P) (w := w) (K := K) (mg := mg) (base := base) (f := f) (cd := cdv) (outer := outer) (H := H) (E := E) hgu hr sc_plain_form.nd
    exact cs_cons (cs_if (ct_not (ct_val (d_call [false] D_is_row cx.gu cx.rm cx.tk rfl (ca_cons (ce_var (pv 0)) ca_nil)))) (cs_one (cs_ret (ce_var (pv 0)))) cs_nil) (cs_cons (cs_set (i := 1) cx.nd rfl (by first | exact Or.inl rfl | exact Or.inr rfl) (ce_lst (ca_cons (ce_var (pv 0)) ca_nil))) (cs_cons (cs_set (i := 2) cx.nd rfl (by first | exact Or.inl rfl | exact Or.inr rfl) ce_int) (cs_cons (cs_while fuel cx.ow (t_lt (ce_var (pv 2)) (d_len C.hK rfl C.n_len (ca_cons (ce_var (pv 1)) ca_nil))) (cs_cons (cs_setLc (i := 3) [("part", 4)] rfl cx.nd rfl rfl rfl (ci_seq C.hK (d_ix C.hK (ce_var (pv 1)) (ce_var (pv 2)) (fun _ _ => rfl))) (blk_of (N := ["x", "rows", "at", "inner", "part", "whole", "end", "place", "turn", "parts"]) (sc := defScope s_plain_form) (by decide +kernel)) (fun _ _ _ _ _ => (pg_name cx.nd (i := 4) rfl (by first | exact Or.inl rfl | exact Or.inr rfl))) tgN_ok (fun _ _ _ _ _ => ct_one (ct_val (ce_isi2 C.hK rfl rfl rfl C.n_isinstance (ce_var (pv 4)) rfl C.n_list b_list rfl C.n_tuple b_tuple))) (fun _ _ _ _ _ => ce_var (pv 4))) (cs_cons (cs_ext (i := 1) C.hK (pv 1) (ce_var (pv 3))) (cs_one (cs_add (i := 2) cx.nd rfl (by first | exact Or.inl rfl | exact Or.inr rfl) ce_int))))) (cs_cons (cs_set (i := 5) cx.nd rfl (by first | exact Or.inl rfl | exact Or.inr rfl) (d_mul C.hK (ce_lst (ca_cons (ce_tup ca_nil) ca_nil)) (d_len C.hK rfl C.n_len (ca_cons (ce_var (pv 1)) ca_nil)))) (cs_cons (cs_set (i := 6) cx.nd rfl (by first | exact Or.inl rfl | exact Or.inr rfl) (d_len C.hK rfl C.n_len (ca_cons (ce_var (pv 1)) ca_nil))) (cs_cons (cs_for cx.ow rfl (ci_rev rfl C.n_reversed rfl C.n_range (d_len C.hK rfl C.n_len (ca_cons (ce_var (pv 1)) ca_nil))) (pg_name cx.nd (i := 7) rfl (by first | exact Or.inl rfl | exact Or.inr rfl)) tgN_ok (cs_cons (cs_setLc (i := 3) [("part", 4)] rfl cx.nd rfl rfl rfl (ci_seq C.hK (d_ix C.hK (ce_var (pv 1)) (ce_var (pv 7)) (fun _ _ => rfl))) (blk_of (N := ["x", "rows", "at", "inner", "part", "whole", "end", "place", "turn", "parts"]) (sc := defScope s_plain_form) (by decide +kernel)) (fun _ _ _ _ _ => (pg_name cx.nd (i := 4) rfl (by first | exact Or.inl rfl | exact Or.inr rfl))) tgN_ok (fun _ _ _ _ _ => ct_one (ct_val (ce_isi2 C.hK rfl rfl rfl C.n_isinstance (ce_var (pv 4)) rfl C.n_list b_list rfl C.n_tuple b_tuple))) (fun _ _ _ _ _ => ce_var (pv 4))) (cs_cons (cs_set (i := 6) cx.nd rfl (by first | exact Or.inl rfl | exact Or.inr rfl) (d_sub C.hK (ce_var (pv 6)) (d_len C.hK rfl C.n_len (ca_cons (ce_var (pv 3)) ca_nil)))) (cs_cons (cs_set (i := 8) cx.nd rfl (by first | exact Or.inl rfl | exact Or.inr rfl) (ce_var (pv 6))) (cs_cons (cs_set (i := 9) cx.nd rfl (by first | exact Or.inl rfl | exact Or.inr rfl) (ce_lst ca_nil)) (cs_cons (cs_for cx.ow rfl (ci_seq C.hK (d_ix C.hK (ce_var (pv 1)) (ce_var (pv 7)) (fun _ _ => rfl))) (pg_name cx.nd (i := 4) rfl (by first | exact Or.inl rfl | exact Or.inr rfl)) tgN_ok (cs_one (cs_if (ct_val (ce_isi2 C.hK rfl rfl rfl C.n_isinstance (ce_var (pv 4)) rfl C.n_list b_list rfl C.n_tuple b_tuple)) (cs_cons (cs_app (i := 9) C.hK (pv 9) (d_ix C.hK (ce_var (pv 5)) (ce_var (pv 8)) (fun _ _ => rfl))) (cs_one (cs_add (i := 8) cx.nd rfl (by first | exact Or.inl rfl | exact Or.inr rfl) ce_int))) (cs_one (cs_app (i := 9) C.hK (pv 9) (ce_var (pv 4))))))) (cs_one (cs_put (i := 5) (pv 5) (ce_var (pv 7)) (d_tuple C.hK rfl C.n_tuple (ca_cons (ce_var (pv 9)) ca_nil)) (by intros; rfl))))))))) (cs_one (cs_ret (d_ix C.hK (ce_var (pv 5)) ce_int (fun _ _ => rfl))))))))))
abbrev s__law_great : Stmt := top 41
theorem sc__law_great : FnScope ["deck", "number", "turn"] ["deck"] (defScope s__law_great) := ⟨rfl, rfl, rfl, by decide +kernel, rfl, by decide +kernel, by decide +kernel⟩
theorem ok__law_great (C : Cn P w K mg base G) (A__law_great : At K mg "_law_great" s__law_great ["deck"]) (D__law_pick : Doe P w K mg base G 1 "_law_pick" ["deck", "many"] 2 f__law_pick) : Doe P w K mg base G 2 "_law_great" ["deck"] 1 f__law_great :=
  A__law_great.doe sc__law_great rfl rfl (by decide) fun f cdv A outer s H E hgu hr => by
    have cx := cx_of (G := G) (N := ["deck", "number", "turn"]) (P := P) (w := w) (K := K) (mg := mg) (base := base) (f := f) (cd := cdv) (outer := outer) (H := H) (E := E) hgu hr sc__law_great.nd
    exact cs_cons (cs_set (i := 1) cx.nd rfl (by first | exact Or.inl rfl | exact Or.inr rfl) ce_int) (cs_cons (cs_for cx.ow rfl (ci_range1 rfl C.n_range (ca_cons (d_ix C.hK (ce_tup (ca_cons ce_int (ca_cons ce_int (ca_cons ce_int (ca_cons ce_int (ca_cons ce_int ca_nil)))))) (d_call [true, false] D__law_pick cx.gu cx.rm cx.tk rfl (ca_cons (ce_var (pv 0)) (ca_cons ce_int ca_nil))) (fun _ _ => rfl)) ca_nil)) (pg_name cx.nd (i := 2) rfl (by first | exact Or.inl rfl | exact Or.inr rfl)) tgN_ok (cs_one (cs_set (i := 1) cx.nd rfl (by first | exact Or.inl rfl | exact Or.inr rfl) (d_add C.hK (d_mul C.hK (ce_var (pv 1)) ce_int) (d_call [true, false] D__law_pick cx.gu cx.rm cx.tk rfl (ca_cons (ce_var (pv 0)) (ca_cons ce_int ca_nil))))))) (cs_cons (cs_if (t_eq C.hK cx.rm (d_call [true, false] D__law_pick cx.gu cx.rm cx.tk rfl (ca_cons (ce_var (pv 0)) (ca_cons ce_int ca_nil))) ce_int) (cs_one (cs_ret (d_neg (ce_var (pv 1))))) cs_nil) (cs_one (cs_ret (ce_var (pv 1))))))
abbrev s__law_text : Stmt := top 42
theorem sc__law_text : FnScope ["deck", "signs", "many", "text", "turn", "kind", "at"] ["deck"] (defScope s__law_text) := ⟨rfl, rfl, rfl, by decide +kernel, rfl, by decide +kernel, by decide +kernel⟩
theorem ok__law_text (C : Cn P w K mg base G) (A__law_text : At K mg "_law_text" s__law_text ["deck"]) (D__law_pick : Doe P w K mg base G 1 "_law_pick" ["deck", "many"] 2 f__law_pick) : Doe P w K mg base G 2 "_law_text" ["deck"] 1 f__law_text :=
  A__law_text.doe sc__law_text rfl rfl (by decide) fun f cdv A outer s H E hgu hr => by
    have cx := cx_of (G := G) (N := ["deck", "signs", "many", "text", "turn", "kind", "at"]) (P := P) (w := w) (K := K) (mg := mg) (base := base) (f := f) (cd := cdv) (outer := outer) (H := H) (E := E) hgu hr sc__law_text.nd
    exact cs_cons (cs_set (i := 1) cx.nd rfl (by first | exact Or.inl rfl | exact Or.inr rfl) ce_str) (cs_cons (cs_set (i := 2) cx.nd rfl (by first | exact Or.inl rfl | exact Or.inr rfl) (d_ix C.hK (ce_tup (ca_cons ce_int (ca_cons ce_int (ca_cons ce_int (ca_cons ce_int (ca_cons ce_int (ca_cons ce_int (ca_cons ce_int (ca_cons ce_int ca_nil))))))))) (d_call [true, false] D__law_pick cx.gu cx.rm cx.tk rfl (ca_cons (ce_var (pv 0)) (ca_cons ce_int ca_nil))) (fun _ _ => rfl))) (cs_cons (cs_set (i := 3) cx.nd rfl (by first | exact Or.inl rfl | exact Or.inr rfl) (d_join C.hK ce_str (ca_cons (ce_lc [("turn", 4)] rfl cx.nd (ci_range1 rfl C.n_range (ca_cons (ce_var (pv 2)) ca_nil)) (blk_of (N := ["deck", "signs", "many", "text", "turn", "kind", "at"]) (sc := defScope s__law_text) (by decide +kernel)) (fun _ _ _ _ _ => (pg_name cx.nd (i := 4) rfl (by first | exact Or.inl rfl | exact Or.inr rfl))) tgN_ok (fun _ _ _ _ _ => ct_nil) (fun _ _ _ _ _ => d_ix C.hK (ce_var (pv 1)) (d_call [true, false] D__law_pick cx.gu cx.rm takes_none5 rfl (ca_cons (ce_var (pv 0)) (ca_cons ce_int ca_nil))) (fun _ _ => rfl))) ca_nil))) (cs_cons (cs_set (i := 5) cx.nd rfl (by first | exact Or.inl rfl | exact Or.inr rfl) (d_call [true, false] D__law_pick cx.gu cx.rm cx.tk rfl (ca_cons (ce_var (pv 0)) (ca_cons ce_int ca_nil)))) (cs_cons (cs_if (t_lt (ce_var (pv 5)) ce_int) (cs_one (cs_ret (ce_var (pv 3)))) cs_nil) (cs_cons (cs_set (i := 6) cx.nd rfl (by first | exact Or.inl rfl | exact Or.inr rfl) (d_call [true, false] D__law_pick cx.gu cx.rm cx.tk rfl (ca_cons (ce_var (pv 0)) (ca_cons (d_add C.hK (ce_var (pv 2)) ce_int) ca_nil)))) (cs_one (cs_ret (d_add C.hK (d_add C.hK (d_sl C.hK (ce_var (pv 3)) co_none (co_some (ce_var (pv 6)))) (d_ix C.hK (ce_tup (ca_cons ce_str (ca_cons ce_str (ca_cons ce_str (ca_cons ce_str (ca_cons ce_str (ca_cons ce_str ca_nil))))))) (d_call [true, false] D__law_pick cx.gu cx.rm cx.tk rfl (ca_cons (ce_var (pv 0)) (ca_cons ce_int ca_nil))) (fun _ _ => rfl))) (d_sl C.hK (ce_var (pv 3)) (co_some (ce_var (pv 6))) co_none)))))))))
abbrev s__law_bent_box : Stmt := top 51
theorem sc__law_bent_box : FnScope ["deck", "box", "other", "turn", "at", "kind"] ["deck", "box"] (defScope s__law_bent_box) := ⟨rfl, rfl, rfl, by decide +kernel, rfl, by decide +kernel, by decide +kernel⟩
theorem ok__law_bent_box (C : Cn P w K mg base G) (A__law_bent_box : At K mg "_law_bent_box" s__law_bent_box ["deck", "box"]) (D__law_pick : Doe P w K mg base G 1 "_law_pick" ["deck", "many"] 2 f__law_pick) : Doe P w K mg base G 2 "_law_bent_box" ["deck", "box"] 2 f__law_bent_box :=
  A__law_bent_box.doe sc__law_bent_box rfl rfl (by decide) fun f cdv A outer s H E hgu hr => by
    have cx := cx_of (G := G) (N := ["deck", "box", "other", "turn", "at", "kind"]) (P := P) (w := w) (K := K) (mg := mg) (base := base) (f := f) (cd := cdv) (outer := outer) (H := H) (E := E) hgu hr sc__law_bent_box.nd
    exact cs_cons (cs_set (i := 2) cx.nd rfl (by first | exact Or.inl rfl | exact Or.inr rfl) (d_list C.hK rfl C.n_list (ca_cons (ce_var (pv 1)) ca_nil))) (cs_cons (cs_for cx.ow rfl (ci_range1 rfl C.n_range (ca_cons (d_call [true, false] D__law_pick cx.gu cx.rm cx.tk rfl (ca_cons (ce_var (pv 0)) (ca_cons ce_int ca_nil))) ca_nil)) (pg_name cx.nd (i := 3) rfl (by first | exact Or.inl rfl | exact Or.inr rfl)) tgN_ok (cs_one (cs_if (t_gt (d_len C.hK rfl C.n_len (ca_cons (ce_var (pv 2)) ca_nil)) ce_int) (cs_cons (cs_set (i := 4) cx.nd rfl (by first | exact Or.inl rfl | exact Or.inr rfl) (d_call [true, false] D__law_pick cx.gu cx.rm cx.tk rfl (ca_cons (ce_var (pv 0)) (ca_cons (d_len C.hK rfl C.n_len (ca_cons (ce_var (pv 2)) ca_nil)) ca_nil)))) (cs_cons (cs_set (i := 5) cx.nd rfl (by first | exact Or.inl rfl | exact Or.inr rfl) (d_call [true, false] D__law_pick cx.gu cx.rm cx.tk rfl (ca_cons (ce_var (pv 0)) (ca_cons ce_int ca_nil)))) (cs_one (cs_if (t_eq C.hK cx.rm (ce_var (pv 5)) ce_int) (cs_one (cs_put (i := 2) (pv 2) (ce_var (pv 4)) ce_str (by intros; rfl))) (cs_one (cs_if (t_eq C.hK cx.rm (d_ix C.hK (ce_var (pv 2)) (ce_var (pv 4)) (fun _ _ => rfl)) ce_str) (cs_one (cs_put (i := 2) (pv 2) (ce_var (pv 4)) (d_call [true, false] D__law_pick cx.gu cx.rm cx.tk rfl (ca_cons (ce_var (pv 0)) (ca_cons ce_int ca_nil))) (by intros; rfl))) (cs_one (cs_put (i := 2) (pv 2) (ce_var (pv 4)) (d_max rfl rfl C.n_max (ca_cons ce_int (ca_cons (d_add C.hK (d_ix C.hK (ce_var (pv 2)) (ce_var (pv 4)) (fun _ _ => rfl)) (d_ix C.hK (ce_tup (ca_cons ce_int (ca_cons (d_neg ce_int) (ca_cons ce_int ca_nil)))) (ce_var (pv 5)) (fun _ _ => rfl))) ca_nil))) (by intros; rfl))))))))) cs_nil))) (cs_one (cs_ret (ce_var (pv 2)))))
abbrev s__law_classes : Stmt := top 55
theorem sc__law_classes : FnScope ["which", "at", "marks", "raised", "first", "second", "third", "fourth", "fifth", "sixth", "last"] ["which", "at"] (defScope s__law_classes) := ⟨rfl, rfl, rfl, by decide +kernel, rfl, by decide +kernel, by decide +kernel⟩
theorem ok__law_classes (C : Cn P w K mg base G) (A__law_classes : At K mg "_law_classes" s__law_classes ["which", "at"]) (D__law_raise : Doe P w K mg base G 1 "_law_raise" ["which", "at"] 2 f__law_raise) : Doe P w K mg base G 2 "_law_classes" ["which", "at"] 2 f__law_classes :=
  A__law_classes.doe sc__law_classes rfl rfl (by decide) fun f cdv A outer s H E hgu hr => by
    have cx := cx_of (G := G) (N := ["which", "at", "marks", "raised", "first", "second", "third", "fourth", "fifth", "sixth", "last"]) (P := P) (w := w) (K := K) (mg := mg) (base := base) (f := f) (cd := cdv) (outer := outer) (H := H) (E := E) hgu hr sc__law_classes.nd
    exact cs_cons (cs_set (i := 2) cx.nd rfl (by first | exact Or.inl rfl | exact Or.inr rfl) (ce_lst ca_nil)) (cs_cons (cs_try (L := [(.ref (G.cls 22), ⟨isC none, (some 3), sSeq (sSet 4 (eLst (aCons (eIsE (isC (some 0)) 3) (aCons (eIsE (isC (some 1)) 3) (aCons (eIsE (isC (some 2)) 3) aNil))))) (sSeq (sSet 5 (eLst (aCons (eIsE (isC (some 3)) 3) (aCons (eIsE (isC (some 4)) 3) (aCons (eIsE (isC (some 5)) 3) aNil))))) (sSeq (sSet 6 (eLst (aCons (eIsE (isC (some 6)) 3) (aCons (eIsE (isC (some 7)) 3) (aCons (eIsE (isC (some 8)) 3) aNil))))) (sSeq (sSet 7 (eLst (aCons (eIsE (isC (some 9)) 3) (aCons (eIsE (isC (some 10)) 3) (aCons (eIsE (isC (some 11)) 3) aNil))))) (sSeq (sSet 8 (eLst (aCons (eIsE (isC (some 12)) 3) (aCons (eIsE (isC (some 13)) 3) (aCons (eIsE (isC (some 14)) 3) aNil))))) (sSeq (sSet 9 (eLst (aCons (eIsE (isC (some 15)) 3) (aCons (eIsE (isC (some 16)) 3) (aCons (eIsE (isC (some 17)) 3) aNil))))) (sSeq (sSet 10 (eLst (aCons (eIsE (isC (some 18)) 3) (aCons (eIsE (isC (some 19)) 3) (aCons (eIsE (isC (some 20)) 3) aNil))))) (sSeq (sSet 2 (e2 gAdd (e2 gAdd (e2 gAdd (e2 gAdd (e2 gAdd (e2 gAdd (eVar 4) (eVar 5)) (eVar 6)) (eVar 7)) (eVar 8)) (eVar 9)) (eVar 10))) (sSet 2 (e2 gAdd (eVar 2) (eLst (aCons (eIsE (isC (some 21)) 3) (aCons (eIsE (isC none) 3) aNil))))))))))))⟩)]) rfl rfl cx.nd cx.tk (fun W1 pn1 xe1 tk1 ow1 => cs_one (cs_expr (d_call [false, false] D__law_raise cx.gu cx.rm tk1 rfl (ca_cons (ce_var (pv 0)) (ca_cons (ce_var (pv 1)) ca_nil))))) (ClsOk.named rfl rfl ⟨rfl, by decide, Or.inl C.m_LastError⟩ (fun a oe cls d pn hz hf => cs_cons (cs_set (i := 4) (by exact cx.nd) rfl (by first | exact Or.inl rfl | exact Or.inr rfl) (ce_lst (ca_cons (ce_isE (cV := .ref (G.cls 0)) hz hf C.k_BadNumber (fun _ h => h) (pv 3) (pe_glob rfl C.m_BadNumber rfl) rfl C.n_isinstance) (ca_cons (ce_isE (cV := .ref (G.cls 1)) hz hf C.k_BadName (fun _ h => h) (pv 3) (pe_glob rfl C.m_BadName rfl) rfl C.n_isinstance) (ca_cons (ce_isE (cV := .ref (G.cls 2)) hz hf C.k_BadLots (fun _ h => h) (pv 3) (pe_glob rfl C.m_BadLots rfl) rfl C.n_isinstance) ca_nil))))) (cs_cons (cs_set (i := 5) (by exact cx.nd) rfl (by first | exact Or.inl rfl | exact Or.inr rfl) (ce_lst (ca_cons (ce_isE (cV := .ref (G.cls 3)) hz hf C.k_BadHouses (fun _ h => h) (pv 3) (pe_glob rfl C.m_BadHouses rfl) rfl C.n_isinstance) (ca_cons (ce_isE (cV := .ref (G.cls 4)) hz hf C.k_BadLetter (fun _ h => h) (pv 3) (pe_glob rfl C.m_BadLetter rfl) rfl C.n_isinstance) (ca_cons (ce_isE (cV := .ref (G.cls 5)) hz hf C.k_BadProgram (fun _ h => h) (pv 3) (pe_glob rfl C.m_BadProgram rfl) rfl C.n_isinstance) ca_nil))))) (cs_cons (cs_set (i := 6) (by exact cx.nd) rfl (by first | exact Or.inl rfl | exact Or.inr rfl) (ce_lst (ca_cons (ce_isE (cV := .ref (G.cls 6)) hz hf C.k_BadBook (fun _ h => h) (pv 3) (pe_glob rfl C.m_BadBook rfl) rfl C.n_isinstance) (ca_cons (ce_isE (cV := .ref (G.cls 7)) hz hf C.k_BadStand (fun _ h => h) (pv 3) (pe_glob rfl C.m_BadStand rfl) rfl C.n_isinstance) (ca_cons (ce_isE (cV := .ref (G.cls 8)) hz hf C.k_BadLoad (fun _ h => h) (pv 3) (pe_glob rfl C.m_BadLoad rfl) rfl C.n_isinstance) ca_nil))))) (cs_cons (cs_set (i := 7) (by exact cx.nd) rfl (by first | exact Or.inl rfl | exact Or.inr rfl) (ce_lst (ca_cons (ce_isE (cV := .ref (G.cls 9)) hz hf C.k_BadBox (fun _ h => h) (pv 3) (pe_glob rfl C.m_BadBox rfl) rfl C.n_isinstance) (ca_cons (ce_isE (cV := .ref (G.cls 10)) hz hf C.k_BadCast (fun _ h => h) (pv 3) (pe_glob rfl C.m_BadCast rfl) rfl C.n_isinstance) (ca_cons (ce_isE (cV := .ref (G.cls 11)) hz hf C.k_BadMove (fun _ h => h) (pv 3) (pe_glob rfl C.m_BadMove rfl) rfl C.n_isinstance) ca_nil))))) (cs_cons (cs_set (i := 8) (by exact cx.nd) rfl (by first | exact Or.inl rfl | exact Or.inr rfl) (ce_lst (ca_cons (ce_isE (cV := .ref (G.cls 12)) hz hf C.k_BadTarget (fun _ h => h) (pv 3) (pe_glob rfl C.m_BadTarget rfl) rfl C.n_isinstance) (ca_cons (ce_isE (cV := .ref (G.cls 13)) hz hf C.k_BadMark (fun _ h => h) (pv 3) (pe_glob rfl C.m_BadMark rfl) rfl C.n_isinstance) (ca_cons (ce_isE (cV := .ref (G.cls 14)) hz hf C.k_BadRound (fun _ h => h) (pv 3) (pe_glob rfl C.m_BadRound rfl) rfl C.n_isinstance) ca_nil))))) (cs_cons (cs_set (i := 9) (by exact cx.nd) rfl (by first | exact Or.inl rfl | exact Or.inr rfl) (ce_lst (ca_cons (ce_isE (cV := .ref (G.cls 15)) hz hf C.k_BadPaper (fun _ h => h) (pv 3) (pe_glob rfl C.m_BadPaper rfl) rfl C.n_isinstance) (ca_cons (ce_isE (cV := .ref (G.cls 16)) hz hf C.k_BadLink (fun _ h => h) (pv 3) (pe_glob rfl C.m_BadLink rfl) rfl C.n_isinstance) (ca_cons (ce_isE (cV := .ref (G.cls 17)) hz hf C.k_BadEdit (fun _ h => h) (pv 3) (pe_glob rfl C.m_BadEdit rfl) rfl C.n_isinstance) ca_nil))))) (cs_cons (cs_set (i := 10) (by exact cx.nd) rfl (by first | exact Or.inl rfl | exact Or.inr rfl) (ce_lst (ca_cons (ce_isE (cV := .ref (G.cls 18)) hz hf C.k_BadCase (fun _ h => h) (pv 3) (pe_glob rfl C.m_BadCase rfl) rfl C.n_isinstance) (ca_cons (ce_isE (cV := .ref (G.cls 19)) hz hf C.k_NoName (fun _ h => h) (pv 3) (pe_glob rfl C.m_NoName rfl) rfl C.n_isinstance) (ca_cons (ce_isE (cV := .ref (G.cls 20)) hz hf C.k_BadText (fun _ h => h) (pv 3) (pe_glob rfl C.m_BadText rfl) rfl C.n_isinstance) ca_nil))))) (cs_cons (cs_set (i := 2) (by exact cx.nd) rfl (by first | exact Or.inl rfl | exact Or.inr rfl) (d_add C.hK (d_add C.hK (d_add C.hK (d_add C.hK (d_add C.hK (d_add C.hK (ce_var (pv 4)) (ce_var (pv 5))) (ce_var (pv 6))) (ce_var (pv 7))) (ce_var (pv 8))) (ce_var (pv 9))) (ce_var (pv 10)))) (cs_one (cs_set (i := 2) (by exact cx.nd) rfl (by first | exact Or.inl rfl | exact Or.inr rfl) (d_add C.hK (ce_var (pv 2)) (ce_lst (ca_cons (ce_isE (cV := .ref (G.cls 21)) hz hf C.k_TooMany (fun _ h => h) (pv 3) (pe_glob rfl C.m_TooMany rfl) rfl C.n_isinstance) (ca_cons (ce_isE (cV := .ty "ValueError") hz hf C.k_ValueError (fun _ h => h) (pv 3) (pe_cls rfl C.n_ValueError b_VE) rfl C.n_isinstance) ca_nil)))))))))))))) (ClsOk.nil)) (hp_cons C.x_LastError (hp_nil))) (cs_one (cs_ret (ce_var (pv 2)))))
abbrev s__law_kept : Stmt := top 56
theorem sc__law_kept : FnScope ["which", "at", "told", "raised"] ["which", "at"] (defScope s__law_kept) := ⟨rfl, rfl, rfl, by decide +kernel, rfl, by decide +kernel, by decide +kernel⟩
theorem ok__law_kept (C : Cn P w K mg base G) (A__law_kept : At K mg "_law_kept" s__law_kept ["which", "at"]) (D__law_raise : Doe P w K mg base G 1 "_law_raise" ["which", "at"] 2 f__law_raise) : Doe P w K mg base G 2 "_law_kept" ["which", "at"] 2 f__law_kept :=
  A__law_kept.doe sc__law_kept rfl rfl (by decide) fun f cdv A outer s H E hgu hr => by
    have cx := cx_of (G := G) (N := ["which", "at", "told", "raised"]) (P := P) (w := w) (K := K) (mg := mg) (base := base) (f := f) (cd := cdv) (outer := outer) (H := H) (E := E) hgu hr sc__law_kept.nd
    exact cs_cons (cs_set (i := 2) cx.nd rfl (by first | exact Or.inl rfl | exact Or.inr rfl) (ce_tup (ca_cons ce_str ca_nil))) (cs_cons (cs_try (L := [(.ref (G.cls 20), ⟨isC (some 20), (some 3), sSet 2 (eTup (aCons (eC (.str "line")) (aCons (eFld at_line 3) aNil)))⟩), (.ref (G.cls 21), ⟨isC (some 21), (some 3), sSet 2 (eTup (aCons (eC (.str "limit")) (aCons (eFld at_limit 3) aNil)))⟩), (.ref (G.cls 22), ⟨isC none, (some 3), sSet 2 (eTup (aCons (eC (.str "at")) (aCons (eFld at_at 3) aNil)))⟩)]) rfl rfl cx.nd cx.tk (fun W1 pn1 xe1 tk1 ow1 => cs_one (cs_expr (d_call [false, false] D__law_raise cx.gu cx.rm tk1 rfl (ca_cons (ce_var (pv 0)) (ca_cons (ce_var (pv 1)) ca_nil))))) (ClsOk.named rfl rfl ⟨rfl, by decide, Or.inl C.m_BadText⟩ (fun a oe cls d pn hz hf => cs_one (cs_set (i := 2) (by exact cx.nd) rfl (by first | exact Or.inl rfl | exact Or.inr rfl) (ce_tup (ca_cons ce_str (ca_cons (ce_fld hz hf C.f_line (pv 3)) ca_nil))))) (ClsOk.named rfl rfl ⟨rfl, by decide, Or.inl C.m_TooMany⟩ (fun a oe cls d pn hz hf => cs_one (cs_set (i := 2) (by exact cx.nd) rfl (by first | exact Or.inl rfl | exact Or.inr rfl) (ce_tup (ca_cons ce_str (ca_cons (ce_fld hz hf C.f_limit (pv 3)) ca_nil))))) (ClsOk.named rfl rfl ⟨rfl, by decide, Or.inl C.m_LastError⟩ (fun a oe cls d pn hz hf => cs_one (cs_set (i := 2) (by exact cx.nd) rfl (by first | exact Or.inl rfl | exact Or.inr rfl) (ce_tup (ca_cons ce_str (ca_cons (ce_fld hz hf C.f_at (pv 3)) ca_nil))))) (ClsOk.nil)))) (hp_cons C.x_BadText (hp_cons C.x_TooMany (hp_cons C.x_LastError (hp_nil))))) (cs_one (cs_ret (d_repr C.hK cx.gu cx.rm C.sy rfl C.n_repr (ca_cons (ce_var (pv 2)) ca_nil)))))
abbrev s_check_number : Stmt := top 32
theorem sc_check_number : FnScope ["x", "least"] ["x", "least"] (defScope s_check_number) := ⟨rfl, rfl, rfl, by decide +kernel, rfl, by decide +kernel, by decide +kernel⟩
theorem ok_check_number (C : Cn P w K mg base G) (A_check_number : At K mg "check_number" s_check_number ["x", "least"]) (D_is_int : Doe P w K mg base G 1 "is_int" ["x"] 1 f_is_int) (D_plain_form : Doe P w K mg base G 2 "plain_form" ["x"] 1 f_plain_form) : Doe P w K mg base G 3 "check_number" ["x", "least"] 2 f_check_number :=
  A_check_number.doe sc_check_number rfl rfl (by decide) fun f cdv A outer s H E hgu hr => by
    have cx := cx_of (G := G) (N := ["x", "least"]) (P := P) (w := w) (K := K) (mg := mg) (base := base) (f := f) (cd := cdv) (outer := outer) (H := H) (E := E) hgu hr sc_check_number.nd
    exact cs_cons (cs_if (ct_not (ct_val (d_call [false] D_is_int cx.gu cx.rm cx.tk rfl (ca_cons (ce_var (pv 0)) ca_nil)))) (cs_one (cs_raise (c := 0) rfl cx.tk C.T (by decide) cx.rm C.m_BadNumber (d_call [false] D_plain_form cx.gu cx.rm cx.tk rfl (ca_cons (ce_var (pv 0)) ca_nil)) rfl)) cs_nil) (cs_cons (cs_if (t_lt (ce_var (pv 0)) (ce_var (pv 1))) (cs_one (cs_raise (c := 0) rfl cx.tk C.T (by decide) cx.rm C.m_BadNumber (ce_var (pv 0)) rfl)) cs_nil) (cs_one (cs_ret (ce_var (pv 0)))))
abbrev s_check_name : Stmt := top 33
theorem sc_check_name : FnScope ["x"] ["x"] (defScope s_check_name) := ⟨rfl, rfl, rfl, by decide +kernel, rfl, by decide +kernel, by decide +kernel⟩
theorem ok_check_name (C : Cn P w K mg base G) (A_check_name : At K mg "check_name" s_check_name ["x"]) (D_is_name : Doe P w K mg base G 1 "is_name" ["x"] 1 f_is_name) (D_plain_form : Doe P w K mg base G 2 "plain_form" ["x"] 1 f_plain_form) : Doe P w K mg base G 3 "check_name" ["x"] 1 f_check_name :=
  A_check_name.doe sc_check_name rfl rfl (by decide) fun f cdv A outer s H E hgu hr => by
    have cx := cx_of (G := G) (N := ["x"]) (P := P) (w := w) (K := K) (mg := mg) (base := base) (f := f) (cd := cdv) (outer := outer) (H := H) (E := E) hgu hr sc_check_name.nd
    exact cs_cons (cs_if (ct_not (ct_val (d_call [false] D_is_name cx.gu cx.rm cx.tk rfl (ca_cons (ce_var (pv 0)) ca_nil)))) (cs_one (cs_raise (c := 1) rfl cx.tk C.T (by decide) cx.rm C.m_BadName (d_call [false] D_plain_form cx.gu cx.rm cx.tk rfl (ca_cons (ce_var (pv 0)) ca_nil)) rfl)) cs_nil) (cs_one (cs_ret (ce_var (pv 0))))
abbrev s__law_leaf : Stmt := top 43
theorem sc__law_leaf : FnScope ["deck", "kind"] ["deck"] (defScope s__law_leaf) := ⟨rfl, rfl, rfl, by decide +kernel, rfl, by decide +kernel, by decide +kernel⟩
theorem ok__law_leaf (C : Cn P w K mg base G) (A__law_leaf : At K mg "_law_leaf" s__law_leaf ["deck"]) (D__law_pick : Doe P w K mg base G 1 "_law_pick" ["deck", "many"] 2 f__law_pick) (D__law_text : Doe P w K mg base G 2 "_law_text" ["deck"] 1 f__law_text) (D__law_great : Doe P w K mg base G 2 "_law_great" ["deck"] 1 f__law_great) : Doe P w K mg base G 3 "_law_leaf" ["deck"] 1 f__law_leaf :=
  A__law_leaf.doe sc__law_leaf rfl rfl (by decide) fun f cdv A outer s H E hgu hr => by
    have cx := cx_of (G := G) (N := ["deck", "kind"]) (P := P) (w := w) (K := K) (mg := mg) (base := base) (f := f) (cd := cdv) (outer := outer) (H := H) (E := E) hgu hr sc__law_leaf.nd
    exact cs_cons (cs_set (i := 1) cx.nd rfl (by first | exact Or.inl rfl | exact Or.inr rfl) (d_call [true, false] D__law_pick cx.gu cx.rm cx.tk rfl (ca_cons (ce_var (pv 0)) (ca_cons ce_int ca_nil)))) (cs_cons (cs_if (t_eq C.hK cx.rm (ce_var (pv 1)) ce_int) (cs_one (cs_ret ce_bl)) cs_nil) (cs_cons (cs_if (t_eq C.hK cx.rm (ce_var (pv 1)) ce_int) (cs_one (cs_ret ce_bl)) cs_nil) (cs_cons (cs_if (t_eq C.hK cx.rm (ce_var (pv 1)) ce_int) (cs_one (cs_ret ce_non)) cs_nil) (cs_cons (cs_if (ct_w (cw_or (t_eq C.hK cx.rm (ce_var (pv 1)) ce_int) (cw_or1 (t_eq C.hK cx.rm (ce_var (pv 1)) ce_int)))) (cs_one (cs_ret (d_call [true] D__law_text cx.gu cx.rm cx.tk rfl (ca_cons (ce_var (pv 0)) ca_nil)))) cs_nil) (cs_cons (cs_if (t_eq C.hK cx.rm (ce_var (pv 1)) ce_int) (cs_one (cs_ret (ce_dict (ce_lst (ca_cons (d_call [true, false] D__law_pick cx.gu cx.rm cx.tk rfl (ca_cons (ce_var (pv 0)) (ca_cons ce_int ca_nil))) (ca_cons (ce_tup (ca_cons ce_int (ca_cons (ce_lst (ca_cons ce_int ca_nil)) ca_nil))) ca_nil)))))) cs_nil) (cs_one (cs_ret (d_call [true] D__law_great cx.gu cx.rm cx.tk rfl (ca_cons (ce_var (pv 0)) ca_nil)))))))))
abbrev s__law_box : Stmt := top 50
theorem sc__law_box : FnScope ["deck", "many", "row", "turn", "kind"] ["deck", "many"] (defScope s__law_box) := ⟨rfl, rfl, rfl, by decide +kernel, rfl, by decide +kernel, by decide +kernel⟩
theorem ok__law_box (C : Cn P w K mg base G) (A__law_box : At K mg "_law_box" s__law_box ["deck", "many"]) (D__law_pick : Doe P w K mg base G 1 "_law_pick" ["deck", "many"] 2 f__law_pick) (D__law_great : Doe P w K mg base G 2 "_law_great" ["deck"] 1 f__law_great) : Doe P w K mg base G 3 "_law_box" ["deck", "many"] 2 f__law_box :=
  A__law_box.doe sc__law_box rfl rfl (by decide) fun f cdv A outer s H E hgu hr => by
    have cx := cx_of (G := G) (N := ["deck", "many", "row", "turn", "kind"]) (P := P) (w := w) (K := K) (mg := mg) (base := base) (f := f) (cd := cdv) (outer := outer) (H := H) (E := E) hgu hr sc__law_box.nd
    exact cs_cons (cs_set (i := 2) cx.nd rfl (by first | exact Or.inl rfl | exact Or.inr rfl) (ce_lst ca_nil)) (cs_cons (cs_for cx.ow rfl (ci_range1 rfl C.n_range (ca_cons (ce_var (pv 1)) ca_nil)) (pg_name cx.nd (i := 3) rfl (by first | exact Or.inl rfl | exact Or.inr rfl)) tgN_ok (cs_cons (cs_set (i := 4) cx.nd rfl (by first | exact Or.inl rfl | exact Or.inr rfl) (d_call [true, false] D__law_pick cx.gu cx.rm cx.tk rfl (ca_cons (ce_var (pv 0)) (ca_cons ce_int ca_nil)))) (cs_one (cs_if (t_eq C.hK cx.rm (ce_var (pv 4)) ce_int) (cs_one (cs_app (i := 2) C.hK (pv 2) ce_str)) (cs_one (cs_if (t_eq C.hK cx.rm (ce_var (pv 4)) ce_int) (cs_one (cs_app (i := 2) C.hK (pv 2) (d_mod C.hK (d_abs rfl C.n_abs (ca_cons (d_call [true] D__law_great cx.gu cx.rm cx.tk rfl (ca_cons (ce_var (pv 0)) ca_nil)) ca_nil)) (d_pow C.hK ce_int ce_int)))) (cs_one (cs_app (i := 2) C.hK (pv 2) (d_call [true, false] D__law_pick cx.gu cx.rm cx.tk rfl (ca_cons (ce_var (pv 0)) (ca_cons ce_int ca_nil))))))))))) (cs_one (cs_ret (ce_var (pv 2)))))
abbrev s__law_errors_right : Stmt := top 57
theorem sc__law_errors_right : FnScope ["at", "which", "k", "word"] ["at"] (defScope s__law_errors_right) := ⟨rfl, rfl, rfl, by decide +kernel, rfl, by decide +kernel, by decide +kernel⟩
theorem ok__law_errors_right (C : Cn P w K mg base G) (A__law_errors_right : At K mg "_law_errors_right" s__law_errors_right ["at"]) (D__law_classes : Doe P w K mg base G 2 "_law_classes" ["which", "at"] 2 f__law_classes) (D__law_kept : Doe P w K mg base G 2 "_law_kept" ["which", "at"] 2 f__law_kept) : Doe P w K mg base G 3 "_law_errors_right" ["at"] 1 f__law_errors_right :=
  A__law_errors_right.doe sc__law_errors_right rfl rfl (by decide) fun f cdv A outer s H E hgu hr => by
    have cx := cx_of (G := G) (N := ["at", "which", "k", "word"]) (P := P) (w := w) (K := K) (mg := mg) (base := base) (f := f) (cd := cdv) (outer := outer) (H := H) (E := E) hgu hr sc__law_errors_right.nd
    exact cs_cons (cs_for cx.ow rfl (ci_range1 rfl C.n_range (ca_cons ce_int ca_nil)) (pg_name cx.nd (i := 1) rfl (by first | exact Or.inl rfl | exact Or.inr rfl)) tgN_ok (cs_cons (cs_if (t_ne C.hK cx.rm (d_repr C.hK cx.gu cx.rm C.sy rfl C.n_repr (ca_cons (d_call [false, false] D__law_classes cx.gu cx.rm cx.tk rfl (ca_cons (ce_var (pv 1)) (ca_cons (ce_var (pv 0)) ca_nil))) ca_nil)) (d_repr C.hK cx.gu cx.rm C.sy rfl C.n_repr (ca_cons (d_add C.hK (ce_lc [("k", 2)] rfl cx.nd (ci_range1 rfl C.n_range (ca_cons ce_int ca_nil)) (blk_of (N := ["at", "which", "k", "word"]) (sc := defScope s__law_errors_right) (by decide +kernel)) (fun _ _ _ _ _ => (pg_name cx.nd (i := 2) rfl (by first | exact Or.inl rfl | exact Or.inr rfl))) tgN_ok (fun _ _ _ _ _ => ct_nil) (fun _ _ _ _ _ => d_eq C.hK cx.rm (ce_var (pv 2)) (ce_var (pv 1)))) (ce_lst (ca_cons ce_bl ca_nil))) ca_nil))) (cs_one (cs_ret ce_bl)) cs_nil) (cs_cons (cs_set (i := 3) cx.nd rfl (by first | exact Or.inl rfl | exact Or.inr rfl) ce_str) (cs_cons (cs_if (t_eq C.hK cx.rm (ce_var (pv 1)) ce_int) (cs_one (cs_set (i := 3) cx.nd rfl (by first | exact Or.inl rfl | exact Or.inr rfl) ce_str)) cs_nil) (cs_cons (cs_if (t_eq C.hK cx.rm (ce_var (pv 1)) ce_int) (cs_one (cs_set (i := 3) cx.nd rfl (by first | exact Or.inl rfl | exact Or.inr rfl) ce_str)) cs_nil) (cs_one (cs_if (t_ne C.hK cx.rm (d_call [false, false] D__law_kept cx.gu cx.rm cx.tk rfl (ca_cons (ce_var (pv 1)) (ca_cons (ce_var (pv 0)) ca_nil))) (d_repr C.hK cx.gu cx.rm C.sy rfl C.n_repr (ca_cons (ce_tup (ca_cons (ce_var (pv 3)) (ca_cons (ce_var (pv 0)) ca_nil))) ca_nil))) (cs_one (cs_ret ce_bl)) cs_nil))))))) (cs_one (cs_ret ce_bl))
abbrev s_choose : Stmt := top 37
theorem sc_choose : FnScope ["n", "k", "told", "step"] ["n", "k"] (defScope s_choose) := ⟨rfl, rfl, rfl, by decide +kernel, rfl, by decide +kernel, by decide +kernel⟩
theorem ok_choose (C : Cn P w K mg base G) (A_choose : At K mg "choose" s_choose ["n", "k"]) (D_check_number : Doe P w K mg base G 3 "check_number" ["x", "least"] 2 f_check_number) : Doe P w K mg base G 4 "choose" ["n", "k"] 2 f_choose :=
  A_choose.doe sc_choose rfl rfl (by decide) fun f cdv A outer s H E hgu hr => by
    have cx := cx_of (G := G) (N := ["n", "k", "told", "step"]) (P := P) (w := w) (K := K) (mg := mg) (base := base) (f := f) (cd := cdv) (outer := outer) (H := H) (E := E) hgu hr sc_choose.nd
    exact cs_cons (cs_expr (d_call [false, false] D_check_number cx.gu cx.rm cx.tk rfl (ca_cons (ce_var (pv 0)) (ca_cons ce_int ca_nil)))) (cs_cons (cs_expr (d_call [false, false] D_check_number cx.gu cx.rm cx.tk rfl (ca_cons (ce_var (pv 1)) (ca_cons ce_int ca_nil)))) (cs_cons (cs_if (t_gt (ce_var (pv 1)) (ce_var (pv 0))) (cs_one (cs_ret ce_int)) cs_nil) (cs_cons (cs_set (i := 2) cx.nd rfl (by first | exact Or.inl rfl | exact Or.inr rfl) ce_int) (cs_cons (cs_for cx.ow rfl (ci_range1 rfl C.n_range (ca_cons (d_min rfl rfl C.n_min (ca_cons (ce_var (pv 1)) (ca_cons (d_sub C.hK (ce_var (pv 0)) (ce_var (pv 1))) ca_nil))) ca_nil)) (pg_name cx.nd (i := 3) rfl (by first | exact Or.inl rfl | exact Or.inr rfl)) tgN_ok (cs_one (cs_set (i := 2) cx.nd rfl (by first | exact Or.inl rfl | exact Or.inr rfl) (d_div C.hK (d_mul C.hK (ce_var (pv 2)) (d_sub C.hK (ce_var (pv 0)) (ce_var (pv 3)))) (d_add C.hK (ce_var (pv 3)) ce_int))))) (cs_one (cs_ret (ce_var (pv 2))))))))
abbrev s__law_beside : Stmt := top 44
theorem sc__law_beside : FnScope ["deck", "kind", "leaf", "one"] ["deck"] (defScope s__law_beside) := ⟨rfl, rfl, rfl, by decide +kernel, rfl, by decide +kernel, by decide +kernel⟩
theorem ok__law_beside (C : Cn P w K mg base G) (A__law_beside : At K mg "_law_beside" s__law_beside ["deck"]) (D__law_pick : Doe P w K mg base G 1 "_law_pick" ["deck", "many"] 2 f__law_pick) (D__law_leaf : Doe P w K mg base G 3 "_law_leaf" ["deck"] 1 f__law_leaf) : Doe P w K mg base G 4 "_law_beside" ["deck"] 1 f__law_beside :=
  A__law_beside.doe sc__law_beside rfl rfl (by decide) fun f cdv A outer s H E hgu hr => by
    have cx := cx_of (G := G) (N := ["deck", "kind", "leaf", "one"]) (P := P) (w := w) (K := K) (mg := mg) (base := base) (f := f) (cd := cdv) (outer := outer) (H := H) (E := E) hgu hr sc__law_beside.nd
    exact cs_cons (cs_set (i := 1) cx.nd rfl (by first | exact Or.inl rfl | exact Or.inr rfl) (d_call [true, false] D__law_pick cx.gu cx.rm cx.tk rfl (ca_cons (ce_var (pv 0)) (ca_cons ce_int ca_nil)))) (cs_cons (cs_set (i := 2) cx.nd rfl (by first | exact Or.inl rfl | exact Or.inr rfl) (d_call [true] D__law_leaf cx.gu cx.rm cx.tk rfl (ca_cons (ce_var (pv 0)) ca_nil))) (cs_cons (cs_if (t_eq C.hK cx.rm (ce_var (pv 1)) ce_int) (cs_one (cs_ret (ce_tup (ca_cons (ce_lst ca_nil) (ca_cons (ce_tup ca_nil) ca_nil))))) cs_nil) (cs_cons (cs_if (t_eq C.hK cx.rm (ce_var (pv 1)) ce_int) (cs_one (cs_ret (ce_tup (ca_cons (ce_lst (ca_cons (ce_var (pv 2)) (ca_cons (ce_tup (ca_cons (ce_var (pv 2)) (ca_cons (ce_lst ca_nil) ca_nil))) ca_nil))) (ca_cons (ce_tup (ca_cons (ce_var (pv 2)) (ca_cons (ce_tup (ca_cons (ce_var (pv 2)) (ca_cons (ce_tup ca_nil) ca_nil))) ca_nil))) ca_nil))))) cs_nil) (cs_cons (cs_if (t_eq C.hK cx.rm (ce_var (pv 1)) ce_int) (cs_cons (cs_set (i := 3) cx.nd rfl (by first | exact Or.inl rfl | exact Or.inr rfl) (ce_lst (ca_cons (ce_var (pv 2)) ca_nil))) (cs_one (cs_ret (ce_tup (ca_cons (ce_tup (ca_cons (ce_var (pv 3)) (ca_cons (ce_var (pv 3)) ca_nil))) (ca_cons (ce_tup (ca_cons (ce_tup (ca_cons (ce_var (pv 2)) ca_nil)) (ca_cons (ce_tup (ca_cons (ce_var (pv 2)) ca_nil)) ca_nil))) ca_nil)))))) cs_nil) (cs_cons (cs_if (t_eq C.hK cx.rm (ce_var (pv 1)) ce_int) (cs_one (cs_ret (ce_tup (ca_cons (ce_tup (ca_cons (ce_var (pv 2)) (ca_cons (ce_var (pv 2)) ca_nil))) (ca_cons (ce_tup (ca_cons (ce_var (pv 2)) (ca_cons (ce_var (pv 2)) ca_nil))) ca_nil))))) cs_nil) (cs_one (cs_ret (ce_tup (ca_cons (ce_var (pv 2)) (ca_cons (ce_var (pv 2)) ca_nil))))))))))
abbrev s__law_boxes_right : Stmt := top 53
theorem sc__law_boxes_right : FnScope ["deck", "box", "other", "copy", "low", "high", "row", "due", "entry"] ["deck"] (defScope s__law_boxes_right) := ⟨rfl, rfl, rfl, by decide +kernel, rfl, by decide +kernel, by decide +kernel⟩
theorem ok__law_boxes_right (C : Cn P w K mg base G) (A__law_boxes_right : At K mg "_law_boxes_right" s__law_boxes_right ["deck"]) (D__law_box : Doe P w K mg base G 3 "_law_box" ["deck", "many"] 2 f__law_box) (D__law_pick : Doe P w K mg base G 1 "_law_pick" ["deck", "many"] 2 f__law_pick) (D__law_bent_box : Doe P w K mg base G 2 "_law_bent_box" ["deck", "box"] 2 f__law_bent_box) (D_is_less : Doe P w K mg base G 1 "is_less" ["u", "v"] 2 f_is_less) (D__law_at_most : Doe P w K mg base G 1 "_law_at_most" ["low", "high"] 2 f__law_at_most) (D_dense_key : Doe P w K mg base G 1 "dense_key" ["box"] 1 f_dense_key) : Doe P w K mg base G 4 "_law_boxes_right" ["deck"] 1 f__law_boxes_right :=
  A__law_boxes_right.doe sc__law_boxes_right rfl rfl (by decide) fun f cdv A outer s H E hgu hr => by
    have cx := cx_of (G := G) (N := ["deck", "box", "other", "copy", "low", "high", "row", "due", "entry"]) (P := P) (w := w) (K := K) (mg := mg) (base := base) (f := f) (cd := cdv) (outer := outer) (H := H) (E := E) hgu hr sc__law_boxes_right.nd
    exact cs_cons (cs_set (i := 1) cx.nd rfl (by first | exact Or.inl rfl | exact Or.inr rfl) (d_call [true, false] D__law_box cx.gu cx.rm cx.tk rfl (ca_cons (ce_var (pv 0)) (ca_cons (d_ix C.hK (ce_tup (ca_cons ce_int (ca_cons ce_int (ca_cons ce_int (ca_cons ce_int (ca_cons ce_int ca_nil)))))) (d_call [true, false] D__law_pick cx.gu cx.rm cx.tk rfl (ca_cons (ce_var (pv 0)) (ca_cons ce_int ca_nil))) (fun _ _ => rfl)) ca_nil)))) (cs_cons (cs_set (i := 2) cx.nd rfl (by first | exact Or.inl rfl | exact Or.inr rfl) (d_call [true, false] D__law_bent_box cx.gu cx.rm cx.tk rfl (ca_cons (ce_var (pv 0)) (ca_cons (ce_var (pv 1)) ca_nil)))) (cs_cons (cs_set (i := 3) cx.nd rfl (by first | exact Or.inl rfl | exact Or.inr rfl) (d_repr C.hK cx.gu cx.rm C.sy rfl C.n_repr (ca_cons (ce_tup (ca_cons (ce_var (pv 1)) (ca_cons (ce_var (pv 2)) ca_nil))) ca_nil))) (cs_cons (cs_for cx.ow rfl (ci_seq C.hK (ce_tup (ca_cons (ce_tup (ca_cons (ce_var (pv 1)) (ca_cons (ce_var (pv 2)) ca_nil))) (ca_cons (ce_tup (ca_cons (ce_var (pv 2)) (ca_cons (ce_var (pv 1)) ca_nil))) (ca_cons (ce_tup (ca_cons (ce_var (pv 2)) (ca_cons (ce_var (pv 2)) ca_nil))) ca_nil))))) (pg_either (pg_tup rfl (pgs_cons (pg_name cx.nd (i := 4) rfl (by first | exact Or.inl rfl | exact Or.inr rfl)) (pgs_cons (pg_name cx.nd (i := 5) rfl (by first | exact Or.inl rfl | exact Or.inr rfl)) (pgs_nil)))) (pg_lst rfl (pgs_cons (pg_name cx.nd (i := 4) rfl (by first | exact Or.inl rfl | exact Or.inr rfl)) (pgs_cons (pg_name cx.nd (i := 5) rfl (by first | exact Or.inl rfl | exact Or.inr rfl)) (pgs_nil))))) (tgU_ok C.hK) (cs_one (cs_if (t_ne C.hK cx.rm (d_repr C.hK cx.gu cx.rm C.sy rfl C.n_repr (ca_cons (d_call [false, false] D_is_less cx.gu cx.rm cx.tk rfl (ca_cons (ce_var (pv 4)) (ca_cons (d_tuple C.hK rfl C.n_tuple (ca_cons (ce_var (pv 5)) ca_nil)) ca_nil))) ca_nil)) (d_repr C.hK cx.gu cx.rm C.sy rfl C.n_repr (ca_cons (d_call [false, false] D__law_at_most cx.gu cx.rm cx.tk rfl (ca_cons (ce_var (pv 4)) (ca_cons (ce_var (pv 5)) ca_nil))) ca_nil))) (cs_one (cs_ret ce_bl)) cs_nil))) (cs_cons (cs_for cx.ow rfl (ci_seq C.hK (ce_tup (ca_cons (ce_var (pv 1)) (ca_cons (ce_var (pv 2)) ca_nil)))) (pg_name cx.nd (i := 6) rfl (by first | exact Or.inl rfl | exact Or.inr rfl)) tgN_ok (cs_cons (cs_set (i := 7) cx.nd rfl (by first | exact Or.inl rfl | exact Or.inr rfl) (ce_lst ca_nil)) (cs_cons (cs_for cx.ow rfl (ci_seq C.hK (ce_var (pv 6))) (pg_name cx.nd (i := 8) rfl (by first | exact Or.inl rfl | exact Or.inr rfl)) tgN_ok (cs_one (cs_if (t_eq C.hK cx.rm (ce_var (pv 8)) ce_str) (cs_one (cs_app (i := 7) C.hK (pv 7) (ce_tup (ca_cons ce_int (ca_cons ce_int ca_nil))))) (cs_one (cs_app (i := 7) C.hK (pv 7) (ce_tup (ca_cons ce_int (ca_cons (ce_var (pv 8)) ca_nil)))))))) (cs_one (cs_if (ct_w (cw_or (t_ne C.hK cx.rm (d_repr C.hK cx.gu cx.rm C.sy rfl C.n_repr (ca_cons (d_call [false] D_dense_key cx.gu cx.rm cx.tk rfl (ca_cons (ce_var (pv 6)) ca_nil)) ca_nil)) (d_repr C.hK cx.gu cx.rm C.sy rfl C.n_repr (ca_cons (d_tuple C.hK rfl C.n_tuple (ca_cons (ce_var (pv 7)) ca_nil)) ca_nil))) (cw_or1 (t_ne C.hK cx.rm (d_repr C.hK cx.gu cx.rm C.sy rfl C.n_repr (ca_cons (d_call [false] D_dense_key cx.gu cx.rm cx.tk rfl (ca_cons (d_tuple C.hK rfl C.n_tuple (ca_cons (ce_var (pv 6)) ca_nil)) ca_nil)) ca_nil)) (d_repr C.hK cx.gu cx.rm C.sy rfl C.n_repr (ca_cons (d_tuple C.hK rfl C.n_tuple (ca_cons (ce_var (pv 7)) ca_nil)) ca_nil)))))) (cs_one (cs_ret ce_bl)) cs_nil))))) (cs_one (cs_ret (d_eq C.hK cx.rm (d_repr C.hK cx.gu cx.rm C.sy rfl C.n_repr (ca_cons (ce_tup (ca_cons (ce_var (pv 1)) (ca_cons (ce_var (pv 2)) ca_nil))) ca_nil)) (ce_var (pv 3)))))))))
abbrev s__law_thing : Stmt := top 45
theorem sc__law_thing : FnScope ["deck", "thing", "due", "turn", "row", "dues", "k", "other", "spot"] ["deck"] (defScope s__law_thing) := ⟨rfl, rfl, rfl, by decide +kernel, rfl, by decide +kernel, by decide +kernel⟩
theorem ok__law_thing (C : Cn P w K mg base G) (A__law_thing : At K mg "_law_thing" s__law_thing ["deck"]) (D__law_leaf : Doe P w K mg base G 3 "_law_leaf" ["deck"] 1 f__law_leaf) (D__law_pick : Doe P w K mg base G 1 "_law_pick" ["deck", "many"] 2 f__law_pick) (D__law_beside : Doe P w K mg base G 4 "_law_beside" ["deck"] 1 f__law_beside) : Doe P w K mg base G 5 "_law_thing" ["deck"] 1 f__law_thing :=
  A__law_thing.doe sc__law_thing rfl rfl (by decide) fun f cdv A outer s H E hgu hr => by
    have cx := cx_of (G := G) (N := ["deck", "thing", "due", "turn", "row", "dues", "k", "other", "spot"]) (P := P) (w := w) (K := K) (mg := mg) (base := base) (f := f) (cd := cdv) (outer := outer) (H := H) (E := E) hgu hr sc__law_thing.nd
    exact cs_cons (cs_set (i := 1) cx.nd rfl (by first | exact Or.inl rfl | exact Or.inr rfl) (d_call [true] D__law_leaf cx.gu cx.rm cx.tk rfl (ca_cons (ce_var (pv 0)) ca_nil))) (cs_cons (cs_set (i := 2) cx.nd rfl (by first | exact Or.inl rfl | exact Or.inr rfl) (ce_var (pv 1))) (cs_cons (cs_for cx.ow rfl (ci_range1 rfl C.n_range (ca_cons (d_call [true, false] D__law_pick cx.gu cx.rm cx.tk rfl (ca_cons (ce_var (pv 0)) (ca_cons ce_int ca_nil))) ca_nil)) (pg_name cx.nd (i := 3) rfl (by first | exact Or.inl rfl | exact Or.inr rfl)) tgN_ok (cs_cons (cs_set (i := 4) cx.nd rfl (by first | exact Or.inl rfl | exact Or.inr rfl) (ce_lst (ca_cons (ce_var (pv 1)) ca_nil))) (cs_cons (cs_set (i := 5) cx.nd rfl (by first | exact Or.inl rfl | exact Or.inr rfl) (ce_lst (ca_cons (ce_var (pv 2)) ca_nil))) (cs_cons (cs_for cx.ow rfl (ci_range1 rfl C.n_range (ca_cons (d_call [true, false] D__law_pick cx.gu cx.rm cx.tk rfl (ca_cons (ce_var (pv 0)) (ca_cons ce_int ca_nil))) ca_nil)) (pg_name cx.nd (i := 6) rfl (by first | exact Or.inl rfl | exact Or.inr rfl)) tgN_ok (cs_cons (cs_set (i := 7) cx.nd rfl (by first | exact Or.inl rfl | exact Or.inr rfl) (d_call [true] D__law_beside cx.gu cx.rm cx.tk rfl (ca_cons (ce_var (pv 0)) ca_nil))) (cs_cons (cs_set (i := 8) cx.nd rfl (by first | exact Or.inl rfl | exact Or.inr rfl) (d_call [true, false] D__law_pick cx.gu cx.rm cx.tk rfl (ca_cons (ce_var (pv 0)) (ca_cons (d_add C.hK (d_len C.hK rfl C.n_len (ca_cons (ce_var (pv 4)) ca_nil)) ce_int) ca_nil)))) (cs_cons (cs_ins (i := 4) C.hK (pv 4) (ca_cons (ce_var (pv 8)) (ca_cons (d_ix C.hK (ce_var (pv 7)) ce_int (fun _ _ => rfl)) ca_nil))) (cs_one (cs_ins (i := 5) C.hK (pv 5) (ca_cons (ce_var (pv 8)) (ca_cons (d_ix C.hK (ce_var (pv 7)) ce_int (fun _ _ => rfl)) ca_nil)))))))) (cs_cons (cs_set (i := 2) cx.nd rfl (by first | exact Or.inl rfl | exact Or.inr rfl) (d_tuple C.hK rfl C.n_tuple (ca_cons (ce_var (pv 5)) ca_nil))) (cs_cons (cs_set (i := 1) cx.nd rfl (by first | exact Or.inl rfl | exact Or.inr rfl) (ce_var (pv 4))) (cs_one (cs_if (t_eq C.hK cx.rm (d_call [true, false] D__law_pick cx.gu cx.rm cx.tk rfl (ca_cons (ce_var (pv 0)) (ca_cons ce_int ca_nil))) ce_int) (cs_one (cs_set (i := 1) cx.nd rfl (by first | exact Or.inl rfl | exact Or.inr rfl) (d_tuple C.hK rfl C.n_tuple (ca_cons (ce_var (pv 4)) ca_nil)))) cs_nil)))))))) (cs_one (cs_ret (ce_tup (ca_cons (ce_var (pv 1)) (ca_cons (ce_var (pv 2)) ca_nil)))))))
abbrev s__law_asked : Stmt := top 48
theorem sc__law_asked : FnScope ["door", "thing", "other", "told", "raised"] ["door", "thing", "other"] (defScope s__law_asked) := ⟨rfl, rfl, rfl, by decide +kernel, rfl, by decide +kernel, by decide +kernel⟩
theorem ok__law_asked (C : Cn P w K mg base G) (A__law_asked : At K mg "_law_asked" s__law_asked ["door", "thing", "other"]) (D_check_number : Doe P w K mg base G 3 "check_number" ["x", "least"] 2 f_check_number) (D_check_name : Doe P w K mg base G 3 "check_name" ["x"] 1 f_check_name) (D_choose : Doe P w K mg base G 4 "choose" ["n", "k"] 2 f_choose) : Doe P w K mg base G 5 "_law_asked" ["door", "thing", "other"] 3 f__law_asked :=
  A__law_asked.doe sc__law_asked rfl rfl (by decide) fun f cdv A outer s H E hgu hr => by
    have cx := cx_of (G := G) (N := ["door", "thing", "other", "told", "raised"]) (P := P) (w := w) (K := K) (mg := mg) (base := base) (f := f) (cd := cdv) (outer := outer) (H := H) (E := E) hgu hr sc__law_asked.nd
    exact cs_cons (cs_set (i := 3) cx.nd rfl (by first | exact Or.inl rfl | exact Or.inr rfl) (ce_tup (ca_cons ce_str ca_nil))) (cs_cons (cs_try (L := [(.ref (G.cls 0), ⟨isC (some 0), (some 4), sSet 3 (eTup (aCons (eC (.str "number")) (aCons (eFld at_at 4) aNil)))⟩), (.ref (G.cls 1), ⟨isC (some 1), (some 4), sSet 3 (eTup (aCons (eC (.str "name")) (aCons (eFld at_at 4) aNil)))⟩), (.ref (G.cls 22), ⟨isC none, none, sSet 3 (eTup (aCons (eC (.str "another error")) aNil))⟩)]) rfl rfl cx.nd cx.tk (fun W1 pn1 xe1 tk1 ow1 => cs_one (cs_if (t_eq C.hK cx.rm (ce_var (pv 0)) ce_int) (cs_one (cs_set (i := 3) cx.nd rfl (by first | exact Or.inl rfl | exact Or.inr rfl) (ce_tup (ca_cons ce_str (ca_cons (d_call [false, false] D_check_number cx.gu cx.rm tk1 rfl (ca_cons (ce_var (pv 1)) (ca_cons (ce_var (pv 2)) ca_nil))) ca_nil))))) (cs_one (cs_if (t_eq C.hK cx.rm (ce_var (pv 0)) ce_int) (cs_one (cs_set (i := 3) cx.nd rfl (by first | exact Or.inl rfl | exact Or.inr rfl) (ce_tup (ca_cons ce_str (ca_cons (d_call [false] D_check_name cx.gu cx.rm tk1 rfl (ca_cons (ce_var (pv 1)) ca_nil)) ca_nil))))) (cs_one (cs_if (t_eq C.hK cx.rm (ce_var (pv 0)) ce_int) (cs_one (cs_set (i := 3) cx.nd rfl (by first | exact Or.inl rfl | exact Or.inr rfl) (ce_tup (ca_cons ce_str (ca_cons (d_call [false, false] D_choose cx.gu cx.rm tk1 rfl (ca_cons (ce_var (pv 1)) (ca_cons (ce_var (pv 2)) ca_nil))) ca_nil))))) (cs_one (cs_set (i := 3) cx.nd rfl (by first | exact Or.inl rfl | exact Or.inr rfl) (ce_tup (ca_cons ce_str (ca_cons (d_call [false, false] D_choose cx.gu cx.rm tk1 rfl (ca_cons (ce_var (pv 2)) (ca_cons (ce_var (pv 1)) ca_nil))) ca_nil))))))))))) (ClsOk.named rfl rfl ⟨rfl, by decide, Or.inl C.m_BadNumber⟩ (fun a oe cls d pn hz hf => cs_one (cs_set (i := 3) (by exact cx.nd) rfl (by first | exact Or.inl rfl | exact Or.inr rfl) (ce_tup (ca_cons ce_str (ca_cons (ce_fld hz hf C.f_at (pv 4)) ca_nil))))) (ClsOk.named rfl rfl ⟨rfl, by decide, Or.inl C.m_BadName⟩ (fun a oe cls d pn hz hf => cs_one (cs_set (i := 3) (by exact cx.nd) rfl (by first | exact Or.inl rfl | exact Or.inr rfl) (ce_tup (ca_cons ce_str (ca_cons (ce_fld hz hf C.f_at (pv 4)) ca_nil))))) (ClsOk.bare ⟨rfl, by decide, Or.inl C.m_LastError⟩ (fun a oe cls d pn hz hf => cs_one (cs_set (i := 3) (by exact cx.nd) rfl (by first | exact Or.inl rfl | exact Or.inr rfl) (ce_tup (ca_cons ce_str ca_nil)))) (ClsOk.nil)))) (hp_cons C.x_BadNumber (hp_cons C.x_BadName (hp_cons C.x_LastError (hp_nil))))) (cs_one (cs_ret (d_repr C.hK cx.gu cx.rm C.sy rfl C.n_repr (ca_cons (ce_var (pv 3)) ca_nil)))))
abbrev s__law_forms_right : Stmt := top 49
theorem sc__law_forms_right : FnScope ["deck", "thing", "due", "copy", "whole", "named", "least", "wanted"] ["deck", "thing", "due"] (defScope s__law_forms_right) := ⟨rfl, rfl, rfl, by decide +kernel, rfl, by decide +kernel, by decide +kernel⟩
theorem ok__law_forms_right (C : Cn P w K mg base G) (A__law_forms_right : At K mg "_law_forms_right" s__law_forms_right ["deck", "thing", "due"]) (D__law_is_whole : Doe P w K mg base G 1 "_law_is_whole" ["thing"] 1 f__law_is_whole) (D__law_named : Doe P w K mg base G 1 "_law_named" ["thing"] 1 f__law_named) (D_is_int : Doe P w K mg base G 1 "is_int" ["x"] 1 f_is_int) (D_is_name : Doe P w K mg base G 1 "is_name" ["x"] 1 f_is_name) (D_plain_form : Doe P w K mg base G 2 "plain_form" ["x"] 1 f_plain_form) (D__law_great : Doe P w K mg base G 2 "_law_great" ["deck"] 1 f__law_great) (D__law_pick : Doe P w K mg base G 1 "_law_pick" ["deck", "many"] 2 f__law_pick) (D__law_asked : Doe P w K mg base G 5 "_law_asked" ["door", "thing", "other"] 3 f__law_asked) : Doe P w K mg base G 6 "_law_forms_right" ["deck", "thing", "due"] 3 f__law_forms_right :=
  A__law_forms_right.doe sc__law_forms_right rfl rfl (by decide) fun f cdv A outer s H E hgu hr => by
    have cx := cx_of (G := G) (N := ["deck", "thing", "due", "copy", "whole", "named", "least", "wanted"]) (P := P) (w := w) (K := K) (mg := mg) (base := base) (f := f) (cd := cdv) (outer := outer) (H := H) (E := E) hgu hr sc__law_forms_right.nd
    exact cs_cons (cs_set (i := 3) cx.nd rfl (by first | exact Or.inl rfl | exact Or.inr rfl) (d_repr C.hK cx.gu cx.rm C.sy rfl C.n_repr (ca_cons (ce_var (pv 1)) ca_nil))) (cs_cons (cs_set (i := 4) cx.nd rfl (by first | exact Or.inl rfl | exact Or.inr rfl) (d_call [false] D__law_is_whole cx.gu cx.rm cx.tk rfl (ca_cons (ce_var (pv 1)) ca_nil))) (cs_cons (cs_set (i := 5) cx.nd rfl (by first | exact Or.inl rfl | exact Or.inr rfl) (d_call [false] D__law_named cx.gu cx.rm cx.tk rfl (ca_cons (ce_var (pv 1)) ca_nil))) (cs_cons (cs_if (ct_w (cw_or (t_ne C.hK cx.rm (d_repr C.hK cx.gu cx.rm C.sy rfl C.n_repr (ca_cons (d_call [false] D_is_int cx.gu cx.rm cx.tk rfl (ca_cons (ce_var (pv 1)) ca_nil)) ca_nil)) (d_repr C.hK cx.gu cx.rm C.sy rfl C.n_repr (ca_cons (ce_var (pv 4)) ca_nil))) (cw_or1 (t_ne C.hK cx.rm (d_repr C.hK cx.gu cx.rm C.sy rfl C.n_repr (ca_cons (d_call [false] D_is_name cx.gu cx.rm cx.tk rfl (ca_cons (ce_var (pv 1)) ca_nil)) ca_nil)) (d_repr C.hK cx.gu cx.rm C.sy rfl C.n_repr (ca_cons (ce_var (pv 5)) ca_nil)))))) (cs_one (cs_ret ce_bl)) cs_nil) (cs_cons (cs_if (ct_w (cw_or (t_ne C.hK cx.rm (d_repr C.hK cx.gu cx.rm C.sy rfl C.n_repr (ca_cons (d_call [false] D_plain_form cx.gu cx.rm cx.tk rfl (ca_cons (ce_var (pv 1)) ca_nil)) ca_nil)) (d_repr C.hK cx.gu cx.rm C.sy rfl C.n_repr (ca_cons (ce_var (pv 2)) ca_nil))) (cw_or1 (t_ne C.hK cx.rm (d_repr C.hK cx.gu cx.rm C.sy rfl C.n_repr (ca_cons (d_call [false] D_plain_form cx.gu cx.rm cx.tk rfl (ca_cons (ce_var (pv 2)) ca_nil)) ca_nil)) (d_repr C.hK cx.gu cx.rm C.sy rfl C.n_repr (ca_cons (ce_var (pv 2)) ca_nil)))))) (cs_one (cs_ret ce_bl)) cs_nil) (cs_cons (cs_set (i := 6) cx.nd rfl (by first | exact Or.inl rfl | exact Or.inr rfl) (d_call [true] D__law_great cx.gu cx.rm cx.tk rfl (ca_cons (ce_var (pv 0)) ca_nil))) (cs_cons (cs_if (ct_w (cw_and (ct_val (ce_var (pv 4))) (cw_and1 (t_gt (d_call [true, false] D__law_pick cx.gu cx.rm cx.tk rfl (ca_cons (ce_var (pv 0)) (ca_cons ce_int ca_nil))) ce_int)))) (cs_one (cs_set (i := 6) cx.nd rfl (by first | exact Or.inl rfl | exact Or.inr rfl) (d_sub C.hK (d_add C.hK (ce_var (pv 1)) (d_call [true, false] D__law_pick cx.gu cx.rm cx.tk rfl (ca_cons (ce_var (pv 0)) (ca_cons ce_int ca_nil)))) ce_int))) cs_nil) (cs_cons (cs_set (i := 7) cx.nd rfl (by first | exact Or.inl rfl | exact Or.inr rfl) (ce_tup (ca_cons ce_str (ca_cons (ce_var (pv 2)) ca_nil)))) (cs_cons (cs_if (ct_w (cw_and (ct_val (ce_var (pv 4))) (cw_and1 (t_ge (ce_var (pv 1)) (ce_var (pv 6)))))) (cs_one (cs_set (i := 7) cx.nd rfl (by first | exact Or.inl rfl | exact Or.inr rfl) (ce_tup (ca_cons ce_str (ca_cons (ce_var (pv 1)) ca_nil))))) cs_nil) (cs_cons (cs_if (t_ne C.hK cx.rm (d_call [false, false, false] D__law_asked cx.gu cx.rm cx.tk rfl (ca_cons ce_int (ca_cons (ce_var (pv 1)) (ca_cons (ce_var (pv 6)) ca_nil)))) (d_repr C.hK cx.gu cx.rm C.sy rfl C.n_repr (ca_cons (ce_var (pv 7)) ca_nil))) (cs_one (cs_ret ce_bl)) cs_nil) (cs_cons (cs_set (i := 7) cx.nd rfl (by first | exact Or.inl rfl | exact Or.inr rfl) (ce_tup (ca_cons ce_str (ca_cons (ce_var (pv 2)) ca_nil)))) (cs_cons (cs_if (ct_val (ce_var (pv 5))) (cs_one (cs_set (i := 7) cx.nd rfl (by first | exact Or.inl rfl | exact Or.inr rfl) (ce_tup (ca_cons ce_str (ca_cons (ce_var (pv 1)) ca_nil))))) cs_nil) (cs_cons (cs_if (t_ne C.hK cx.rm (d_call [false, false, false] D__law_asked cx.gu cx.rm cx.tk rfl (ca_cons ce_int (ca_cons (ce_var (pv 1)) (ca_cons ce_int ca_nil)))) (d_repr C.hK cx.gu cx.rm C.sy rfl C.n_repr (ca_cons (ce_var (pv 7)) ca_nil))) (cs_one (cs_ret ce_bl)) cs_nil) (cs_cons (cs_if (ct_w (cw_or (ct_not (ct_val (ce_var (pv 4)))) (cw_or1 (t_lt (ce_var (pv 1)) ce_int)))) (cs_cons (cs_set (i := 7) cx.nd rfl (by first | exact Or.inl rfl | exact Or.inr rfl) (d_repr C.hK cx.gu cx.rm C.sy rfl C.n_repr (ca_cons (ce_tup (ca_cons ce_str (ca_cons (ce_var (pv 2)) ca_nil))) ca_nil))) (cs_one (cs_if (ct_w (cw_or (t_ne C.hK cx.rm (d_call [false, false, false] D__law_asked cx.gu cx.rm cx.tk rfl (ca_cons ce_int (ca_cons (ce_var (pv 1)) (ca_cons ce_int ca_nil)))) (ce_var (pv 7))) (cw_or (t_ne C.hK cx.rm (d_call [false, false, false] D__law_asked cx.gu cx.rm cx.tk rfl (ca_cons ce_int (ca_cons (ce_var (pv 1)) (ca_cons ce_int ca_nil)))) (ce_var (pv 7))) (cw_or1 (t_ne C.hK cx.rm (d_call [false, false, false] D__law_asked cx.gu cx.rm cx.tk rfl (ca_cons ce_int (ca_cons (ce_var (pv 1)) (ca_cons (d_neg ce_int) ca_nil)))) (ce_var (pv 7))))))) (cs_one (cs_ret ce_bl)) cs_nil))) (cs_one (cs_if (ct_w (cw_and (t_lt (ce_var (pv 1)) (d_pow C.hK ce_int ce_int)) (cw_and1 (t_ne C.hK cx.rm (d_call [false, false, false] D__law_asked cx.gu cx.rm cx.tk rfl (ca_cons ce_int (ca_cons (ce_var (pv 1)) (ca_cons ce_int ca_nil)))) (d_repr C.hK cx.gu cx.rm C.sy rfl C.n_repr (ca_cons (ce_tup (ca_cons ce_str (ca_cons (d_div C.hK (d_mul C.hK (ce_var (pv 1)) (d_sub C.hK (ce_var (pv 1)) ce_int)) ce_int) ca_nil))) ca_nil)))))) (cs_one (cs_ret ce_bl)) cs_nil))) (cs_one (cs_ret (d_eq C.hK cx.rm (d_repr C.hK cx.gu cx.rm C.sy rfl C.n_repr (ca_cons (ce_var (pv 1)) ca_nil)) (ce_var (pv 3))))))))))))))))))
abbrev s_law : Stmt := top 58
theorem sc_law : FnScope ["script", "deck", "turn", "thing", "due"] ["script"] (defScope s_law) := ⟨rfl, rfl, rfl, by decide +kernel, rfl, by decide +kernel, by decide +kernel⟩
theorem ok_law (C : Cn P w K mg base G) {fa : Addr} {fd : FuncData} (F : Fun K "law" "law" s_law fa fd) (D__law_deck : Doe P w K mg base G 1 "_law_deck" ["script"] 1 f__law_deck) (D__law_thing : Doe P w K mg base G 5 "_law_thing" ["deck"] 1 f__law_thing) (D__law_forms_right : Doe P w K mg base G 6 "_law_forms_right" ["deck", "thing", "due"] 3 f__law_forms_right) (D__law_boxes_right : Doe P w K mg base G 4 "_law_boxes_right" ["deck"] 1 f__law_boxes_right) (D__law_errors_right : Doe P w K mg base G 3 "_law_errors_right" ["at"] 1 f__law_errors_right) : FnG P w K mg base 7 fa fd ["script"] (spF G 1 f_law) :=
  fn_known F sc_law rfl rfl (by decide) fun f cdv A outer s H E hgu hr => by
    have cx := cx_of (G := G) (N := ["script", "deck", "turn", "thing", "due"]) (P := P) (w := w) (K := K) (mg := mg) (base := base) (f := f) (cd := cdv) (outer := outer) (H := H) (E := E) hgu hr sc_law.nd
    exact cs_cons (cs_set (i := 1) cx.nd rfl (by first | exact Or.inl rfl | exact Or.inr rfl) (d_call [true] D__law_deck cx.gu cx.rm cx.tk rfl (ca_cons (ce_var (pv 0)) ca_nil))) (cs_cons (cs_for cx.ow rfl (ci_range1 rfl C.n_range (ca_cons ce_int ca_nil)) (pg_name cx.nd (i := 2) rfl (by first | exact Or.inl rfl | exact Or.inr rfl)) tgN_ok (cs_cons (cs_unp (is := [3, 4]) rfl C.hK (pgs_cons (pg_name cx.nd (i := 3) rfl (by first | exact Or.inl rfl | exact Or.inr rfl)) (pgs_cons (pg_name cx.nd (i := 4) rfl (by first | exact Or.inl rfl | exact Or.inr rfl)) (pgs_nil))) (d_call [true] D__law_thing cx.gu cx.rm cx.tk rfl (ca_cons (ce_var (pv 1)) ca_nil))) (cs_cons (cs_if (ct_not (ct_val (d_call [true, false, false] D__law_forms_right cx.gu cx.rm cx.tk rfl (ca_cons (ce_var (pv 1)) (ca_cons (ce_var (pv 3)) (ca_cons (ce_var (pv 4)) ca_nil)))))) (cs_one (cs_ret ce_bl)) cs_nil) (cs_one (cs_if (ct_not (ct_val (d_call [true] D__law_boxes_right cx.gu cx.rm cx.tk rfl (ca_cons (ce_var (pv 1)) ca_nil)))) (cs_one (cs_ret ce_bl)) cs_nil))))) (cs_one (cs_ret (d_call [false] D__law_errors_right cx.gu cx.rm cx.tk rfl (ca_cons (ce_var (pv 4)) ca_nil)))))
end K04
/-! # VsV -/
set_option Elab.async false
set_option linter.all false
set_option maxRecDepth 100000
set_option maxHeartbeats 4000000
/-! Vs, part V: computing with meanings. -/
namespace Vs
open PySem L2
section
variable {α β : Type} {E E' : En} {x y : Dt} {i : Nat}
@[simp] theorem go_ok {a : α} {k : α → M β} : (Rs.ok a E).go k = k a E := rfl
@[simp] theorem go_ex {c : Nat} {k : α → M β} : (Rs.ex c x E : Rs α).go k = .ex c x E := rfl
@[simp] theorem go_no {k : α → M β} : (Rs.no : Rs α).go k = .no := rfl
@[simp] theorem bnd_ap {m : M α} {k : α → M β} : bnd m k E = (m E).go k := rfl
@[simp] theorem ret_ap {a : α} : ret a E = .ok a E := rfl
@[simp] theorem fail_ap : (fail : M α) E = .no := rfl
@[simp] theorem opt_some {a : α} : opt (some a) E = .ok a E := rfl
@[simp] theorem opt_none : (opt none : M α) E = .no := rfl
@[simp] theorem fz_d : fz (.d x) = .d x := rfl
@[simp] theorem fz_v : fz (.v i) = .v i := rfl
@[simp] theorem fz_o {xs : List Dt} : fz (.o xs) = .d (.list xs) := rfl
theorem fz_fz {r : Rv} : fz (fz r) = fz r := by cases r <;> rfl
@[simp] theorem val_d : val (.d x) E = .ok x E := rfl
@[simp] theorem val_o {xs : List Dt} : val (.o xs) E = .ok (.list xs) E := rfl
theorem val_v : val (.v i) E = match (E[i]?).bind slotD with
    | some x => .ok x E
    | none => .no := rfl
@[simp] theorem keep_d : keep (.d x) E = .ok x E := rfl
@[simp] theorem keep_o {xs : List Dt} : keep (.o xs) E = .ok (.list xs) E := rfl
theorem keep_v : keep (.v i) E = match (E[i]?).bind frzS with
    | some (x, s) => .ok x (E.set i s)
    | none => .no := rfl
@[simp] theorem slotD_d : slotD (.d x) = some x := rfl
@[simp] theorem slotD_l {xs : List Dt} : slotD (.l xs) = some (.list xs) := rfl
@[simp] theorem slotD_r {f : Bool} {xs : List Dt} : slotD (.r f xs) = some (.list xs) := rfl
@[simp] theorem frzS_d : frzS (.d x) = some (x, .d x) := rfl
@[simp] theorem frzS_l {xs : List Dt} : frzS (.l xs) = some (.list xs, .d (.list xs)) := rfl
@[simp] theorem frzS_r {f : Bool} {xs : List Dt} : frzS (.r f xs) = some (.list xs, .r true xs) := rfl
@[simp] theorem ownL_l {xs : List Dt} : ownL (.l xs) = some xs := rfl
@[simp] theorem ownL_r {xs : List Dt} : ownL (.r false xs) = some xs := rfl
@[simp] theorem putL_l {xs ys : List Dt} : putL (.l xs) ys = .l ys := rfl
@[simp] theorem putL_r {f : Bool} {xs ys : List Dt} : putL (.r f xs) ys = .r f ys := rfl
/-- a name that holds data, or a list of one's own -/
theorem eVar_d (h : E[i]? = some (.d x)) : eVar i E = .ok (.v i) E := by unfold eVar; rw [h]
theorem eVar_l {xs : List Dt} (h : E[i]? = some (.l xs)) : eVar i E = .ok (.v i) E := by unfold eVar; rw [h]
end
theorem okLen_of {xs : List Dt} (h : xs.length ≤ 100000) : okLen xs = true := decide_eq_true h
@[simp] theorem okLen_0 : okLen [] = true := okLen_of (show 0 ≤ 100000 by decide)
@[simp] theorem okLen_1 {x0 : Dt} : okLen [x0] = true := okLen_of (show 1 ≤ 100000 by decide)
@[simp] theorem okLen_2 {x0 x1 : Dt} : okLen [x0, x1] = true := okLen_of (show 2 ≤ 100000 by decide)
@[simp] theorem okLen_3 {x0 x1 x2 : Dt} : okLen [x0, x1, x2] = true := okLen_of (show 3 ≤ 100000 by decide)
@[simp] theorem okLen_4 {x0 x1 x2 x3 : Dt} : okLen [x0, x1, x2, x3] = true := okLen_of (show 4 ≤ 100000 by decide)
@[simp] theorem okLen_5 {x0 x1 x2 x3 x4 : Dt} : okLen [x0, x1, x2, x3, x4] = true := okLen_of (show 5 ≤ 100000 by decide)
@[simp] theorem okLen_6 {x0 x1 x2 x3 x4 x5 : Dt} : okLen [x0, x1, x2, x3, x4, x5] = true := okLen_of (show 6 ≤ 100000 by decide)
@[simp] theorem okLen_7 {x0 x1 x2 x3 x4 x5 x6 : Dt} : okLen [x0, x1, x2, x3, x4, x5, x6] = true := okLen_of (show 7 ≤ 100000 by decide)
@[simp] theorem okLen_8 {x0 x1 x2 x3 x4 x5 x6 x7 : Dt} : okLen [x0, x1, x2, x3, x4, x5, x6, x7] = true := okLen_of (show 8 ≤ 100000 by decide)
@[simp] theorem okLen_9 {x0 x1 x2 x3 x4 x5 x6 x7 x8 : Dt} : okLen [x0, x1, x2, x3, x4, x5, x6, x7, x8] = true := okLen_of (show 9 ≤ 100000 by decide)
@[simp] theorem okLen_10 {x0 x1 x2 x3 x4 x5 x6 x7 x8 x9 : Dt} : okLen [x0, x1, x2, x3, x4, x5, x6, x7, x8, x9] = true := okLen_of (show 10 ≤ 100000 by decide)
@[simp] theorem okLen_11 {x0 x1 x2 x3 x4 x5 x6 x7 x8 x9 x10 : Dt} : okLen [x0, x1, x2, x3, x4, x5, x6, x7, x8, x9, x10] = true := okLen_of (show 11 ≤ 100000 by decide)
@[simp] theorem okLen_12 {x0 x1 x2 x3 x4 x5 x6 x7 x8 x9 x10 x11 : Dt} : okLen [x0, x1, x2, x3, x4, x5, x6, x7, x8, x9, x10, x11] = true := okLen_of (show 12 ≤ 100000 by decide)
theorem okI_nat {n : Nat} (hn : n ≤ 1000000000) : okI (n : Int) = true := by
  unfold okI
  have h1 : -(2 ^ 62) ≤ (n : Int) := by omega
  have h2 : (n : Int) < 2 ^ 62 := by omega
  exact decide_eq_true ⟨h1, h2⟩
theorem iRev_ok {me : M Rv} {E E' : En} {r : Rv} {n : Nat} (h : me E = .ok r E') (hv : val (fz r) E' = .ok (.int (n : Int)) E') (hn : n ≤ 1000000000) : Vs.iRev me E = .ok (revD n) E' := by
  unfold Vs.iRev
  rw [bnd_ap, h]
  rw [go_ok, bnd_ap, hv]
  rw [go_ok]
  simp only []
  rw [if_pos (okI_nat hn), Int.toNat_natCast]
  rfl
theorem iRng1_ok {ma : M (List Rv)} {E E' : En} {rs : List Rv} {n : Nat} (h : ma E = .ok rs E') (hv : vals rs E' = .ok [.int (n : Int)] E') (hn : n ≤ 1000000000) : iRng rng1 ma E = .ok (rngD 0 n) E' := by
  unfold iRng
  rw [bnd_ap, h, go_ok, bnd_ap, hv, go_ok]
  have e : rng1 [.int (n : Int)] = some (rngD 0 n) := by
    show (if okI (n : Int) = true then some (rngD 0 ((n : Int)).toNat) else none) = _
    rw [if_pos (okI_nat hn), Int.toNat_natCast]
  rw [e]
  rfl
theorem e2_go {g : Dt → Dt → Option Rv} {ma mb : M Rv} {E : En} {r1 r2 : Rv} {x y : Dt} {z : Rv} (h1 : ma E = .ok r1 E) (h2 : mb E = .ok r2 E) (v1 : val (fz r1) E = .ok x E) (v2 : val (fz r2) E = .ok y E) (h : g x y = some z) : e2 g ma mb E = .ok z E := by
  unfold e2
  simp only [bnd_ap, h1, go_ok, h2, v1, v2, h, opt_some]
theorem seq_nx {m n : M Fl} {E E1 : En} (h : m E = .ok .nx E1) : sSeq m n E = n E1 := by
  unfold sSeq
  rw [bnd_ap, h]
  rfl
theorem seq_rt {m n : M Fl} {E E1 : En} {r : Rv} (h : m E = .ok (.rt r) E1) : sSeq m n E = .ok (.rt r) E1 := by
  unfold sSeq
  rw [bnd_ap, h]
  rfl
theorem seq_ex {m n : M Fl} {E E1 : En} {c : Nat} {x : Dt} (h : m E = .ex c x E1) : sSeq m n E = .ex c x E1 := by
  unfold sSeq
  rw [bnd_ap, h]
  rfl
/-! ### loops -/
theorem forM_all {g : Dt → M Fl} {mb : M Fl} (P : List Dt → En → Prop) (R : Rs Fl → Prop) (hnil : ∀ E, P [] E → R (.ok .nx E))
    (hstep : ∀ x rest E, P (x :: rest) E → ∃ E1, g x E = .ok .nx E1 ∧ ((∃ E2, (mb E1 = .ok .nx E2 ∨ mb E1 = .ok .ct E2) ∧ P rest E2) ∨ (∃ E2, mb E1 = .ok .bk E2 ∧ R (.ok .nx E2)) ∨ (∃ r E2, mb E1 = .ok (.rt r) E2 ∧ R (.ok (.rt r) E2)) ∨ ∃ c x E2, mb E1 = .ex c x E2 ∧ R (.ex c x E2))) :
    ∀ (xs : List Dt) (E : En), P xs E → R (forM g mb xs E)
  | [], E, h => hnil E h
  | x :: xs, E, h => by
    obtain ⟨E1, e1, h1⟩ := hstep x xs E h
    show R (match g x E with
      | .ok .nx E1 => bnd mb (aft (forM g mb xs)) E1
      | _ => .no)
    rw [e1]
    simp only [bnd_ap]
    rcases h1 with ⟨E2, e2 | e2, h2⟩ | ⟨E2, e2, h2⟩ | ⟨r, E2, e2, h2⟩ | ⟨c, y, E2, e2, h2⟩
    · rw [e2]; exact forM_all P R hnil hstep xs E2 h2
    · rw [e2]; exact forM_all P R hnil hstep xs E2 h2
    · rw [e2]; exact h2
    · rw [e2]; exact h2
    · rw [e2]; exact h2
theorem lcM_all {vs : List Nat} {g : Dt → M Fl} {mt : M Bool} {me : M Rv} (P : List Dt → List Dt → En → Prop)
    (hstep : ∀ x rest acc E, P (x :: rest) acc E → ∃ E1, g x (wipeE E vs) = .ok .nx E1 ∧ ∃ b E2, mt E1 = .ok b E2 ∧ (b = false → P rest acc E2) ∧ (b = true → acc.length ≤ 100000 ∧ ∃ r E3 y E4, me E2 = .ok r E3 ∧ keep (fz r) E3 = .ok y E4 ∧ P rest (acc ++ [y]) E4)) :
    ∀ (xs acc : List Dt) (E : En), P xs acc E → ∃ ys E', lcM vs g mt me xs acc E = .ok ys E' ∧ P [] ys E'
  | [], acc, E, h => ⟨acc, E, rfl, h⟩
  | x :: xs, acc, E, h => by
    obtain ⟨E1, e1, b, E2, e2, hf, ht⟩ := hstep x xs acc E h
    have e0 : lcM vs g mt me (x :: xs) acc E = (match g x (wipeE E vs) with
      | .ok .nx E1 => (bnd mt fun b => if b then bnd me fun r => bnd (keep (fz r)) fun y => if okLen acc then lcM vs g mt me xs (acc ++ [y]) else fail else lcM vs g mt me xs acc) E1
      | _ => .no) := rfl
    rw [e0, e1]
    simp only [bnd_ap]
    rw [e2]
    simp only [go_ok]
    cases b with
    | false => exact lcM_all P hstep xs acc E2 (hf rfl)
    | true =>
      obtain ⟨hz, r, E3, y, E4, e3, e4, h4⟩ := ht rfl
      simp only [if_true, bnd_ap]
      rw [e3]
      simp only [go_ok, bnd_ap, e4, okLen_of hz, if_true]
      exact lcM_all P hstep xs (acc ++ [y]) E4 h4
theorem set_set_same {α : Type} {l : List α} {i : Nat} {a b : α} : (l.set i a).set i b = l.set i b := by simp
/-- a comprehension that changes nothing -/
theorem eLc_pure {v : Nat} {mt : M Bool} {me : M Rv} {mi : M (List Dt)} {E E0 : En} {xs : List Dt} {s : Sl} (p : Dt → Bool) (f : Dt → Dt) (hi : mi E0 = .ok xs E) (hs : E[v]? = some s) (hd : s = .un ∨ ∃ y, s = .d y) (hl : xs.length ≤ 100000)
    (ht : ∀ x ∈ xs, mt (E.set v (.d x)) = .ok (p x) (E.set v (.d x))) (he : ∀ x ∈ xs, p x = true → ∃ r, me (E.set v (.d x)) = .ok r (E.set v (.d x)) ∧ keep (fz r) (E.set v (.d x)) = .ok (f x) (E.set v (.d x))) :
    eLc [v] (tgN v) mt me mi E0 = .ok (.o ((xs.filter p).map f)) E := by
  have hv : v < E.length := (List.getElem?_eq_some_iff.mp hs).1
  have key := lcM_all (vs := [v]) (g := tgN v) (mt := mt) (me := me) (fun rest acc E1 => (∃ done, xs = done ++ rest ∧ acc = (done.filter p).map f) ∧ ∃ t, E1 = E.set v t) (fun x rest acc E1 h => by
    obtain ⟨⟨done, hx, ha⟩, t, rfl⟩ := h
    have hw : wipeE (E.set v t) [v] = E.set v .un := by simp [wipeE]
    have hm : x ∈ xs := by rw [hx]; simp
    refine ⟨E.set v (.d x), ?_, p x, E.set v (.d x), ht x hm, fun hb => ⟨⟨done ++ [x], by rw [hx]; simp, by rw [ha]; simp [hb]⟩, _, rfl⟩, fun hb => ?_⟩
    · rw [hw]
      simp [val_v, keep_v, sRet, sSeq, sIf, sSet, putV, setS, sNil, sBrk, sCnt, sExp, sUnp, unp, setAll, sAdd, sApp, sExt, sPut, mutL, sIns, sRetN, sRaise, rtV, endF, cutR, cut1, eAnd, eOr, eNot, eIf, e1, e2, eB, eC, eVar, eTup, eLst, aNil, aCons, vals, keeps, isB, tB1, tAndM, tOrM, tNotM, eSl, part, eCall, callM, prep, slotsOf, slotOf, refsOf, goBack, backs, unref, eDict, eM, gAdd, Vs.gSub, gDiv, gMod, gPow, gNeg, gCmp, gLt, gLe, gGt, gGe, gIsN, gNotN, isNone, gIsi, gIsi2, gLen, gList, gTuple, gMin, gMax, gInt, gAbs, iSeq, iEn, iCh, sFor, tgN, tgU, hv]
    · obtain ⟨r, e1, e2⟩ := he x hm hb
      refine ⟨?_, r, _, f x, _, e1, e2, ⟨done ++ [x], by rw [hx]; simp, by rw [ha]; simp [hb]⟩, _, rfl⟩
      have h1 : acc.length ≤ done.length := by rw [ha, List.length_map]; exact List.length_filter_le _ _
      have h2 : done.length ≤ xs.length := by rw [hx]; simp
      omega) xs [] E ⟨⟨[], by simp, by simp⟩, s, (set_self hs).symm⟩
  obtain ⟨ys, E', e, ⟨done, hx, ha⟩, t, rfl⟩ := key
  have hok : okOwn E [v] = true := by
    unfold okOwn
    rw [List.all_cons, List.all_nil, hs]
    rcases hd with rfl | ⟨y, rfl⟩ <;> rfl
  unfold eLc
  simp only [bnd_ap, hi, go_ok, hok, if_true, e]
  rw [List.append_nil] at hx
  subst hx; subst ha
  congr 1
  show (match E[v]? with
    | some s => (E.set v t).set v s
    | none => E.set v t) = E
  rw [hs]
  simp only [set_set_same]
  exact set_self hs
theorem while_all {mc : M Bool} {mb : M Fl} (P : Nat → En → Prop) (R : Rs Fl → Prop) (hstep : ∀ n E, P n E → ∃ b E1, mc E = .ok b E1 ∧ (b = false → R (.ok .nx E1)) ∧ (b = true → ∃ n' E2, n = n' + 1 ∧ mb E1 = .ok .nx E2 ∧ P n' E2)) :
    ∀ (n fuel : Nat) (E : En), n < fuel → P n E → R (whileM mc mb fuel E) := by
  intro n
  induction n with
  | zero =>
    intro fuel E hf h
    obtain ⟨k, rfl⟩ : ∃ k, fuel = k + 1 := ⟨fuel - 1, by omega⟩
    obtain ⟨b, E1, e1, h1, h2⟩ := hstep 0 E h
    show R ((bnd mc fun b => if b then bnd mb (aft (whileM mc mb k)) else ret .nx) E)
    simp only [bnd_ap, e1, go_ok]
    cases b with
    | false => exact h1 rfl
    | true => obtain ⟨n', E2, hn, _⟩ := h2 rfl; omega
  | succ n ih =>
    intro fuel E hf h
    obtain ⟨k, rfl⟩ : ∃ k, fuel = k + 1 := ⟨fuel - 1, by omega⟩
    obtain ⟨b, E1, e1, h1, h2⟩ := hstep (n + 1) E h
    show R ((bnd mc fun b => if b then bnd mb (aft (whileM mc mb k)) else ret .nx) E)
    simp only [bnd_ap, e1, go_ok]
    cases b with
    | false => exact h1 rfl
    | true =>
      obtain ⟨n', E2, hn, e2, h3⟩ := h2 rfl
      have : n' = n := by omega
      subst this
      simp only [if_true, bnd_ap, e2, go_ok]
      exact ih k E2 (by omega) h3
end Vs
/-! # VsW -/
set_option Elab.async false
set_option linter.all false
set_option maxRecDepth 100000
set_option maxHeartbeats 4000000
/-! Vs, part W: how long a repr is. -/
namespace Vs
open PySem L2
mutual
/-- data of small ints and short texts -/
def okD : Dt → Bool
  | .none => true
  | .bool _ => true
  | .int i => decide (-(10 ^ 60) < i ∧ i < 10 ^ 60)
  | .str z => decide (z.length ≤ 1000) && z.cps.toList.all fun c => decide (c < 0x110000)
  | .list xs => okDs xs
  | .tuple xs => okDs xs
  | .dict kvs => okKv kvs
def okDs : List Dt → Bool
  | [] => true
  | x :: xs => okD x && okDs xs
def okKv : List (Dt × Dt) → Bool
  | [] => true
  | (k, v) :: r => okD k && okD v && okKv r
end
mutual
def bd : Dt → Nat
  | .none => 4
  | .bool _ => 5
  | .int _ => 62
  | .str z => 10 * z.length + 2
  | .list xs => 2 + bds xs
  | .tuple xs => 3 + bds xs
  | .dict kvs => 2 + bkv kvs
def bds : List Dt → Nat
  | [] => 0
  | x :: xs => bd x + 2 + bds xs
def bkv : List (Dt × Dt) → Nat
  | [] => 0
  | (k, v) :: r => bd k + 2 + bd v + 2 + bkv r
end
theorem toString_len {i : Int} (h : -(10 ^ 60) < i ∧ i < 10 ^ 60) : (Str.ofString (toString i)).length ≤ 62 := by
  by_cases h0 : 0 ≤ i
  · have := PyProof.Rows.toString_length_le (k := 60) h0 (by decide) h.2
    omega
  · obtain ⟨n, hn⟩ : ∃ n : Nat, i = Int.negSucc n := ⟨(-i - 1).toNat, by omega⟩
    subst hn
    have e : toString (Int.negSucc n) = "-" ++ toString (n + 1) := rfl
    have hb : ((n + 1 : Nat) : Int) < 10 ^ 60 := by
      have : Int.negSucc n = -((n + 1 : Nat) : Int) := rfl
      omega
    have h1 := PyProof.Rows.toString_length_le (v := ((n + 1 : Nat) : Int)) (k := 60) (by omega) (by decide) hb
    have e2 : toString ((n + 1 : Nat) : Int) = toString (n + 1) := rfl
    rw [e2, ofString_length] at h1
    rw [e, ofString_length, String.length_append]
    have : ("-" : String).length = 1 := rfl
    omega
theorem join_le (ts : List Str) : (Str.join ", " ts).length ≤ piled ts := by
  by_cases h : ts = []
  · subst h
    decide +kernel
  · have := join_length_add ts h
    omega
theorem lt_16_8 {z : Str} (h : (z.cps.toList.all fun c => decide (c < 0x110000)) = true) : ∀ c ∈ z.cps.toList, c < 16 ^ 8 := fun c hc => by
  have := of_decide_eq_true (List.all_eq_true.mp h c hc)
  exact Nat.lt_trans this (by decide)
mutual
theorem shown_le : ∀ x : Dt, okD x = true → x.shown.length ≤ bd x
  | .none, _ => by simp only [PyData.shown, bd]; decide +kernel
  | .bool b, _ => by cases b <;> (simp only [PyData.shown, bd]; decide +kernel)
  | .int i, h => by
    simp only [PyData.shown, bd]
    exact toString_len (of_decide_eq_true h)
  | .str z, h => by
    simp only [okD, Bool.and_eq_true] at h
    simp only [PyData.shown, bd]
    exact PySem.StrLaws.reprText_len z (lt_16_8 h.2)
  | .list xs, h => by
    have h1 := shownAll_le xs h
    have h2 := join_le (PyData.shownAll xs)
    simp only [PyData.shown, bd]
    rw [listText_eq_join, strLen_append, strLen_append]
    have e1 : (("[" : String) : Str).length = 1 := by decide +kernel
    have e2 : (("]" : String) : Str).length = 1 := by decide +kernel
    omega
  | .tuple xs, h => by
    have h1 := shownAll_le xs h
    have h2 := join_le (PyData.shownAll xs)
    simp only [PyData.shown, bd]
    unfold tupleText
    rw [strLen_append, strLen_append]
    have e1 : (("(" : String) : Str).length = 1 := by decide +kernel
    have e2 : (((if (PyData.shownAll xs).length == 1 then ",)" else ")" : String)) : Str).length ≤ 2 := by
      split <;> decide +kernel
    omega
  | .dict kvs, h => by
    have h1 := shownKv_le kvs h
    have h2 := join_le (PyData.shownKv kvs)
    simp only [PyData.shown, bd]
    unfold dictText
    rw [strLen_append, strLen_append]
    have e1 : (("{" : String) : Str).length = 1 := by decide +kernel
    have e2 : (("}" : String) : Str).length = 1 := by decide +kernel
    omega
theorem shownAll_le : ∀ xs : List Dt, okDs xs = true → piled (PyData.shownAll xs) ≤ bds xs
  | [], _ => by simp [PyData.shownAll, piled, bds]
  | x :: xs, h => by
    simp only [okDs, Bool.and_eq_true] at h
    have h1 := shown_le x h.1
    have h2 := shownAll_le xs h.2
    simp only [PyData.shownAll, bds]
    rw [piled_cons]
    omega
theorem shownKv_le : ∀ kvs : List (Dt × Dt), okKv kvs = true → piled (PyData.shownKv kvs) ≤ bkv kvs
  | [], _ => by simp [PyData.shownKv, piled, bkv]
  | (k, v) :: r, h => by
    simp only [okKv, Bool.and_eq_true] at h
    have h1 := shown_le k h.1.1
    have h2 := shown_le v h.1.2
    have h3 := shownKv_le r h.2
    simp only [PyData.shownKv, bkv]
    rw [piled_cons, strLen_append, strLen_append]
    have e1 : ((": " : String) : Str).length = 2 := by decide +kernel
    omega
end
mutual
theorem showable_ok : ∀ x : Dt, okD x = true → x.showable = true
  | .none, _ => rfl
  | .bool b, _ => rfl
  | .int i, h => by
    have h := of_decide_eq_true h
    simp only [PyData.showable]
    refine decide_eq_true ?_
    by_cases hz : i.natAbs = 0
    · rw [hz]; decide
    · refine (Nat.log2_lt hz).mpr ?_
      have h1 : i.natAbs < 10 ^ 60 := by omega
      exact Nat.lt_of_lt_of_le h1 (Nat.le_trans (show 10 ^ 60 ≤ 2 ^ 200 by decide) (Nat.pow_le_pow_right (by decide) (by decide)))
  | .str z, _ => rfl
  | .list xs, h => showableAll_ok xs h
  | .tuple xs, h => showableAll_ok xs h
  | .dict kvs, h => showableKv_ok kvs h
theorem showableAll_ok : ∀ xs : List Dt, okDs xs = true → PyData.showableAll xs = true
  | [], _ => rfl
  | x :: xs, h => by
    simp only [okDs, Bool.and_eq_true] at h
    simp only [PyData.showableAll, showable_ok x h.1, showableAll_ok xs h.2, Bool.and_self]
theorem showableKv_ok : ∀ kvs : List (Dt × Dt), okKv kvs = true → PyData.showableKv kvs = true
  | [], _ => rfl
  | (k, v) :: r, h => by
    simp only [okKv, Bool.and_eq_true] at h
    simp only [PyData.showableKv, showable_ok k h.1.1, showable_ok v h.1.2, showableKv_ok r h.2, Bool.and_self]
end
theorem okRepr_of {x : Dt} (h : okD x = true) (hd : x.depth ≤ 60) (hb : bd x ≤ 16000000) : okRepr x = true := by
  unfold okRepr
  rw [showable_ok x h, decide_eq_true hd, decide_eq_true (Nat.le_trans (shown_le x h) hb)]
  rfl
theorem gRepr_of {x : Dt} (h : okD x = true) (hd : x.depth ≤ 60) (hb : bd x ≤ 16000000) : gRepr [x] = some (.d (.str x.shown)) := if_pos (okRepr_of h hd hb)
end Vs
/-! # K04A -/
set_option Elab.async false
set_option linter.all false
set_option maxRecDepth 100000
set_option maxHeartbeats 4000000
/-! k04, the plain law: plain_form. -/
namespace K04
open PySem L2 Vs
def isRow (x : Dt) : Bool := isT "list" x || isT "tuple" x
def kids : Dt → List Dt
  | .list xs => xs
  | .tuple xs => xs
  | _ => []
def inner (x : Dt) : List Dt := (kids x).filter isRow
mutual
def pf : Dt → Dt
  | .list xs => .tuple (pfs xs)
  | .tuple xs => .tuple (pfs xs)
  | .none => .none
  | .bool b => .bool b
  | .int i => .int i
  | .str s => .str s
  | .dict k => .dict k
def pfs : List Dt → List Dt
  | [] => []
  | x :: xs => pf x :: pfs xs
end
theorem pfs_map : ∀ xs : List Dt, pfs xs = xs.map pf
  | [] => rfl
  | x :: xs => by show pf x :: pfs xs = _; rw [pfs_map xs]; rfl
mutual
def cnt : Dt → Nat
  | .list xs => 1 + cnts xs
  | .tuple xs => 1 + cnts xs
  | _ => 0
def cnts : List Dt → Nat
  | [] => 0
  | x :: xs => cnt x + cnts xs
end
theorem row_list (xs : List Dt) : isRow (.list xs) = true := rfl
theorem row_tuple (xs : List Dt) : isRow (.tuple xs) = true := rfl
theorem pf_row {x : Dt} (h : isRow x = true) : pf x = .tuple ((kids x).map pf) := by
  cases x with
  | list xs => show PyData.tuple (pfs xs) = _; rw [pfs_map]; rfl
  | tuple xs => show PyData.tuple (pfs xs) = _; rw [pfs_map]; rfl
  | _ => cases h
theorem pf_leaf {x : Dt} (h : isRow x = false) : pf x = x := by
  cases x with
  | list xs => cases h
  | tuple xs => cases h
  | _ => rfl
theorem cnts_inner : ∀ xs : List Dt, cnts (xs.filter isRow) = cnts xs
  | [] => rfl
  | x :: xs => by
    rw [List.filter_cons]
    cases h : isRow x with
    | true =>
      rw [if_pos rfl]
      show cnt x + cnts (xs.filter isRow) = cnt x + cnts xs
      rw [cnts_inner xs]
    | false =>
      rw [if_neg Bool.false_ne_true]
      have h0 : cnt x = 0 := by
        cases x with
        | list xs => cases h
        | tuple xs => cases h
        | _ => rfl
      show cnts (xs.filter isRow) = cnt x + cnts xs
      rw [cnts_inner xs, h0, Nat.zero_add]
theorem cnt_row {x : Dt} (h : isRow x = true) : cnt x = 1 + cnts (inner x) := by
  unfold inner
  rw [cnts_inner]
  cases x with
  | list xs => rfl
  | tuple xs => rfl
  | _ => cases h
theorem cnts_app : ∀ xs ys : List Dt, cnts (xs ++ ys) = cnts xs + cnts ys
  | [], ys => by simp [cnts]
  | x :: xs, ys => by
    show cnt x + cnts (xs ++ ys) = cnt x + cnts xs + cnts ys
    rw [cnts_app xs ys, Nat.add_assoc]
theorem len_cnts : ∀ xs : List Dt, (∀ x ∈ xs, isRow x = true) → xs.length ≤ cnts xs
  | [], _ => Nat.le_refl _
  | x :: xs, h => by
    have h1 := len_cnts xs fun y hy => h y (List.mem_cons_of_mem _ hy)
    have h2 := cnt_row (h x List.mem_cons_self)
    show xs.length + 1 ≤ cnt x + cnts xs
    omega
theorem atI_nat {α : Type} {xs : List α} {k : Nat} {x : α} (h : xs[k]? = some x) : atI xs (k : Int) = some x := by
  have hk : k < xs.length := (List.getElem?_eq_some_iff.mp h).1
  unfold atI ixN
  rw [if_pos (by omega), if_pos (by omega)]
  simpa using h
theorem is_row_ok (x : Dt) : f_is_row [.d x] = .ok (.d (.bool (isRow x))) [.un] := by
  simp [f_is_row, mkFn, m_is_row, val_v, keep_v, sRet, sSeq, sIf, sSet, putV, setS, sNil, sBrk, sCnt, sExp, sUnp, unp, setAll, sAdd, sApp, sExt, sPut, mutL, sIns, sRetN, sRaise, rtV, endF, cutR, cut1, eAnd, eOr, eNot, eIf, e1, e2, eB, eC, eVar, eTup, eLst, aNil, aCons, vals, keeps, isB, tB1, tAndM, tOrM, tNotM, eSl, part, eCall, callM, prep, slotsOf, slotOf, refsOf, goBack, backs, unref, eDict, eM, gAdd, Vs.gSub, gDiv, gMod, gPow, gNeg, gCmp, gLt, gLe, gGt, gGe, gIsN, gNotN, isNone, gIsi, gIsi2, gLen, gList, gTuple, gMin, gMax, gInt, gAbs, iSeq, iEn, iCh, sFor, tgN, tgU, isRow]

def envW (x : Dt) (rows : List Dt) (k : Nat) (s : Sl) : En := [.d x, .l rows, .d (.int k), s, .un, .un, .un, .un, .un, .un]
def body1 : M Fl := sSeq (sSet 3 (eLc [4] (tgN 4) (tB1 (e1 (gIsi2 "list" "tuple") (eVar 4))) (eVar 4) (iSeq (e2 gIx (eVar 1) (eVar 2))))) (sSeq (sExt 1 (eVar 3)) (sAdd 2 (eC (.int 1))))
theorem seq_row {x : Dt} {E E0 : En} {me : M Rv} (h : isRow x = true) (he : me E0 = .ok (.d x) E) : iSeq me E0 = .ok (kids x) E := by
  unfold iSeq
  simp only [bnd_ap, he, go_ok, fz_d, keep_d]
  cases x with
  | list xs => rfl
  | tuple xs => rfl
  | _ => cases h
theorem body1_ok {x y : Dt} {rows : List Dt} {k : Nat} {s : Sl} (hs : s = .un ∨ ∃ ys, s = .l ys) (hy : rows[k]? = some y) (hr : isRow y = true) (hk : (kids y).length ≤ 100000) (hz : rows.length ≤ 100000) :
    body1 (envW x rows k s) = .ok .nx (envW x (rows ++ inner y) (k + 1) (.l (inner y))) := by
  have hi : iSeq (e2 gIx (eVar 1) (eVar 2)) (envW x rows k s) = .ok (kids y) (envW x rows k s) := by
    refine seq_row hr ?_
    simp [envW, val_v, keep_v, sRet, sSeq, sIf, sSet, putV, setS, sNil, sBrk, sCnt, sExp, sUnp, unp, setAll, sAdd, sApp, sExt, sPut, mutL, sIns, sRetN, sRaise, rtV, endF, cutR, cut1, eAnd, eOr, eNot, eIf, e1, e2, eB, eC, eVar, eTup, eLst, aNil, aCons, vals, keeps, isB, tB1, tAndM, tOrM, tNotM, eSl, part, eCall, callM, prep, slotsOf, slotOf, refsOf, goBack, backs, unref, eDict, eM, gAdd, Vs.gSub, gDiv, gMod, gPow, gNeg, gCmp, gLt, gLe, gGt, gGe, gIsN, gNotN, isNone, gIsi, gIsi2, gLen, gList, gTuple, gMin, gMax, gInt, gAbs, iSeq, iEn, iCh, sFor, tgN, tgU, gIx, atI_nat hy]
  have hc : eLc [4] (tgN 4) (tB1 (e1 (gIsi2 "list" "tuple") (eVar 4))) (eVar 4) (iSeq (e2 gIx (eVar 1) (eVar 2))) (envW x rows k s) = .ok (.o (inner y)) (envW x rows k s) := by
    have := eLc_pure (v := 4) (mt := tB1 (e1 (gIsi2 "list" "tuple") (eVar 4))) (me := eVar 4) isRow id hi (s := .un) rfl (.inl rfl) hk (fun z _ => by simp [envW, val_v, keep_v, sRet, sSeq, sIf, sSet, putV, setS, sNil, sBrk, sCnt, sExp, sUnp, unp, setAll, sAdd, sApp, sExt, sPut, mutL, sIns, sRetN, sRaise, rtV, endF, cutR, cut1, eAnd, eOr, eNot, eIf, e1, e2, eB, eC, eVar, eTup, eLst, aNil, aCons, vals, keeps, isB, tB1, tAndM, tOrM, tNotM, eSl, part, eCall, callM, prep, slotsOf, slotOf, refsOf, goBack, backs, unref, eDict, eM, gAdd, Vs.gSub, gDiv, gMod, gPow, gNeg, gCmp, gLt, gLe, gGt, gGe, gIsN, gNotN, isNone, gIsi, gIsi2, gLen, gList, gTuple, gMin, gMax, gInt, gAbs, iSeq, iEn, iCh, sFor, tgN, tgU, isRow]) (fun z _ _ => ⟨.v 4, by simp [envW, val_v, keep_v, sRet, sSeq, sIf, sSet, putV, setS, sNil, sBrk, sCnt, sExp, sUnp, unp, setAll, sAdd, sApp, sExt, sPut, mutL, sIns, sRetN, sRaise, rtV, endF, cutR, cut1, eAnd, eOr, eNot, eIf, e1, e2, eB, eC, eVar, eTup, eLst, aNil, aCons, vals, keeps, isB, tB1, tAndM, tOrM, tNotM, eSl, part, eCall, callM, prep, slotsOf, slotOf, refsOf, goBack, backs, unref, eDict, eM, gAdd, Vs.gSub, gDiv, gMod, gPow, gNeg, gCmp, gLt, gLe, gGt, gGe, gIsN, gNotN, isNone, gIsi, gIsi2, gLen, gList, gTuple, gMin, gMax, gInt, gAbs, iSeq, iEn, iCh, sFor, tgN, tgU], by simp [envW, val_v, keep_v, sRet, sSeq, sIf, sSet, putV, setS, sNil, sBrk, sCnt, sExp, sUnp, unp, setAll, sAdd, sApp, sExt, sPut, mutL, sIns, sRetN, sRaise, rtV, endF, cutR, cut1, eAnd, eOr, eNot, eIf, e1, e2, eB, eC, eVar, eTup, eLst, aNil, aCons, vals, keeps, isB, tB1, tAndM, tOrM, tNotM, eSl, part, eCall, callM, prep, slotsOf, slotOf, refsOf, goBack, backs, unref, eDict, eM, gAdd, Vs.gSub, gDiv, gMod, gPow, gNeg, gCmp, gLt, gLe, gGt, gGe, gIsN, gNotN, isNone, gIsi, gIsi2, gLen, gList, gTuple, gMin, gMax, gInt, gAbs, iSeq, iEn, iCh, sFor, tgN, tgU]⟩)
    rw [List.map_id] at this
    exact this
  have hl : (inner y).length ≤ 100000 := Nat.le_trans (List.length_filter_le _ _) hk
  unfold body1
  simp only [sSeq, sSet, bnd_ap, hc, go_ok]
  rcases hs with rfl | ⟨ys, rfl⟩ <;> simp [envW, val_v, keep_v, sRet, sSeq, sIf, sSet, putV, setS, sNil, sBrk, sCnt, sExp, sUnp, unp, setAll, sAdd, sApp, sExt, sPut, mutL, sIns, sRetN, sRaise, rtV, endF, cutR, cut1, eAnd, eOr, eNot, eIf, e1, e2, eB, eC, eVar, eTup, eLst, aNil, aCons, vals, keeps, isB, tB1, tAndM, tOrM, tNotM, eSl, part, eCall, callM, prep, slotsOf, slotOf, refsOf, goBack, backs, unref, eDict, eM, gAdd, Vs.gSub, gDiv, gMod, gPow, gNeg, gCmp, gLt, gLe, gGt, gGe, gIsN, gNotN, isNone, gIsi, gIsi2, gLen, gList, gTuple, gMin, gMax, gInt, gAbs, iSeq, iEn, iCh, sFor, tgN, tgU, okLen_of hl, okLen_of hz]
/-- the first walk -/
structure W1 (x : Dt) (rows : List Dt) (k : Nat) : Prop where
  eq : rows = x :: (rows.take k).flatMap inner
  row : ∀ y ∈ rows, isRow y = true
  le : k ≤ rows.length
  lt : ∀ p < k, p < 1 + ((rows.take p).flatMap inner).length
theorem W1.next {x y : Dt} {rows : List Dt} {k : Nat} (h : W1 x rows k) (hy : rows[k]? = some y) : W1 x (rows ++ inner y) (k + 1) := by
  have hk : k < rows.length := (List.getElem?_eq_some_iff.mp hy).1
  have ht : (rows ++ inner y).take (k + 1) = rows.take k ++ [y] := by
    rw [List.take_append_of_le_length (by omega), List.take_succ, hy]
    rfl
  refine ⟨?_, fun z hz => ?_, by rw [List.length_append]; omega, fun p hp => ?_⟩
  · rw [ht, List.flatMap_append, List.flatMap_cons, List.flatMap_nil, List.append_nil, ← List.cons_append, ← h.eq]
  · rcases List.mem_append.mp hz with hz | hz
    · exact h.row z hz
    · exact (List.mem_filter.mp hz).2
  · rw [List.take_append_of_le_length (by omega)]
    by_cases hpk : p < k
    · exact h.lt p hpk
    · have : p = k := by omega
      subst this
      have e := congrArg List.length h.eq
      rw [List.length_cons] at e
      omega
mutual
def tot : Dt → Nat
  | .list xs => 1 + tots xs
  | .tuple xs => 1 + tots xs
  | _ => 1
def tots : List Dt → Nat
  | [] => 0
  | x :: xs => tot x + tots xs
end
theorem tot_pos (x : Dt) : 1 ≤ tot x := by cases x <;> simp [tot]
theorem tots_mem : ∀ {xs : List Dt} {x : Dt}, x ∈ xs → tot x ≤ tots xs
  | y :: xs, x, h => by
    show tot x ≤ tot y + tots xs
    rcases List.mem_cons.mp h with rfl | h
    · omega
    · have := tots_mem h
      omega
theorem tots_len : ∀ xs : List Dt, xs.length ≤ tots xs
  | [] => Nat.le_refl _
  | x :: xs => by
    have h1 := tots_len xs
    have h2 := tot_pos x
    show xs.length + 1 ≤ tot x + tots xs
    omega
theorem tot_kids (x : Dt) : tots (kids x) ≤ tot x := by
  cases x <;> simp [tot, kids, tots]
mutual
theorem cnt_tot : ∀ x : Dt, cnt x ≤ tot x
  | .list xs => by have := cnts_tots xs; show 1 + cnts xs ≤ 1 + tots xs; omega
  | .tuple xs => by have := cnts_tots xs; show 1 + cnts xs ≤ 1 + tots xs; omega
  | .none => by simp [cnt]
  | .bool _ => by simp [cnt]
  | .int _ => by simp [cnt]
  | .str _ => by simp [cnt]
  | .dict _ => by simp [cnt]
theorem cnts_tots : ∀ xs : List Dt, cnts xs ≤ tots xs
  | [] => Nat.le_refl _
  | x :: xs => by
    have h1 := cnt_tot x
    have h2 := cnts_tots xs
    show cnt x + cnts xs ≤ tot x + tots xs
    omega
end
def test1 : M Bool := tB1 (e2 gLt (eVar 2) (eB gLen (aCons (eVar 1) aNil)))
theorem test1_ok {x : Dt} {rows : List Dt} {k : Nat} {s : Sl} : test1 (envW x rows k s) = .ok (decide (k < rows.length)) (envW x rows k s) := by
  simp [test1, envW, val_v, keep_v, sRet, sSeq, sIf, sSet, putV, setS, sNil, sBrk, sCnt, sExp, sUnp, unp, setAll, sAdd, sApp, sExt, sPut, mutL, sIns, sRetN, sRaise, rtV, endF, cutR, cut1, eAnd, eOr, eNot, eIf, e1, e2, eB, eC, eVar, eTup, eLst, aNil, aCons, vals, keeps, isB, tB1, tAndM, tOrM, tNotM, eSl, part, eCall, callM, prep, slotsOf, slotOf, refsOf, goBack, backs, unref, eDict, eM, gAdd, Vs.gSub, gDiv, gMod, gPow, gNeg, gCmp, gLt, gLe, gGt, gGe, gIsN, gNotN, isNone, gIsi, gIsi2, gLen, gList, gTuple, gMin, gMax, gInt, gAbs, iSeq, iEn, iCh, sFor, tgN, tgU]
theorem while1 {x : Dt} (hr : isRow x = true) (hz : tot x ≤ 100000) :
    ∃ R s, whileM test1 body1 fuel (envW x [x] 0 .un) = .ok .nx (envW x R R.length s) ∧ W1 x R R.length ∧ (∀ y ∈ R, tot y ≤ tot x) ∧ R.length ≤ 100000 ∧ (s = .un ∨ ∃ ys, s = .l ys) := by
  have hc := cnt_tot x
  refine while_all (mc := test1) (mb := body1) (fun n E => ∃ rows k s, E = envW x rows k s ∧ W1 x rows k ∧ n = cnts (rows.drop k) ∧ k + cnts (rows.drop k) = cnt x ∧ (∀ y ∈ rows, tot y ≤ tot x) ∧ (s = .un ∨ ∃ ys, s = .l ys))
    (fun r => ∃ R s, r = .ok .nx (envW x R R.length s) ∧ W1 x R R.length ∧ (∀ y ∈ R, tot y ≤ tot x) ∧ R.length ≤ 100000 ∧ (s = .un ∨ ∃ ys, s = .l ys)) (fun n E h => ?_) (cnt x) fuel _ (by unfold fuel; omega)
    ⟨[x], 0, .un, rfl, ⟨rfl, fun y hy => by simp at hy; subst hy; exact hr, Nat.zero_le _, fun p hp => absurd hp (Nat.not_lt_zero _)⟩, by simp [cnts], by simp [cnts], fun y hy => by simp at hy; subst hy; exact Nat.le_refl _, .inl rfl⟩
  obtain ⟨rows, k, s, rfl, hw, hn, hkc, ht, hs⟩ := h
  have hlen : rows.length ≤ 100000 := by
    have h1 := len_cnts (rows.drop k) fun y hy => hw.row y (List.mem_of_mem_drop hy)
    rw [List.length_drop] at h1
    omega
  refine ⟨_, _, test1_ok, fun hb => ?_, fun hb => ?_⟩
  · have hk := of_decide_eq_false hb
    have : k = rows.length := by have := hw.le; omega
    subst this
    exact ⟨rows, s, rfl, hw, ht, hlen, hs⟩
  · have hk := of_decide_eq_true hb
    have hy : rows[k]? = some rows[k] := List.getElem?_eq_getElem hk
    have hry := hw.row _ (List.getElem_mem hk)
    have hty := ht _ (List.getElem_mem hk)
    have hd : rows.drop k = rows[k] :: rows.drop (k + 1) := List.drop_eq_getElem_cons hk
    have hcy := cnt_row hry
    have e1 : cnts (rows.drop k) = cnt rows[k] + cnts (rows.drop (k + 1)) := by rw [hd]; rfl
    have e2 : (rows ++ inner rows[k]).drop (k + 1) = rows.drop (k + 1) ++ inner rows[k] := by
      rw [List.drop_append_of_le_length (by omega)]
    have e3 : cnts ((rows ++ inner rows[k]).drop (k + 1)) = cnts (rows.drop (k + 1)) + cnts (inner rows[k]) := by rw [e2, cnts_app]
    have hkl : (kids rows[k]).length ≤ 100000 := by
      have h1 := tots_len (kids rows[k])
      have h2 := tot_kids rows[k]
      omega
    refine ⟨cnts ((rows ++ inner rows[k]).drop (k + 1)), _, by omega, body1_ok hs hy hry hkl hlen, rows ++ inner rows[k], k + 1, _, rfl, hw.next hy, rfl, by omega, fun y hm => ?_, .inr ⟨_, rfl⟩⟩
    rcases List.mem_append.mp hm with hm | hm
    · exact ht y hm
    · have h1 := tots_mem (List.mem_filter.mp hm).1
      have h2 := tot_kids rows[k]
      omega
end K04
/-! # K04B -/
set_option Elab.async false
set_option linter.all false
set_option maxRecDepth 100000
set_option maxHeartbeats 4000000
/-! k04, the plain law: plain_form, the second walk. -/
namespace K04
open PySem L2 Vs
def st (R : List Dt) (p : Nat) : Nat := 1 + ((R.take p).flatMap inner).length
theorem st_succ {R : List Dt} {p : Nat} {y : Dt} (h : R[p]? = some y) : st R (p + 1) = st R p + (inner y).length := by
  unfold st
  rw [List.take_succ, h]
  simp only [Option.toList, List.flatMap_append, List.flatMap_cons, List.flatMap_nil, List.append_nil, List.length_append]
  omega
theorem W1.at_ {x y : Dt} {R : List Dt} (h : W1 x R R.length) {p j : Nat} {z : Dt} (hy : R[p]? = some y) (hz : (inner y)[j]? = some z) : R[st R p + j]? = some z := by
  have e : R = x :: ((R.take p).flatMap inner ++ (inner y ++ (R.drop (p + 1)).flatMap inner)) := by
    have h1 := h.eq
    rw [List.take_length] at h1
    have hp : p < R.length := (List.getElem?_eq_some_iff.mp hy).1
    have h2 : R = R.take p ++ (y :: R.drop (p + 1)) := by
      have h3 : R[p] = y := by
        rw [List.getElem?_eq_getElem hp] at hy
        exact Option.some.inj hy
      rw [← h3, ← List.drop_eq_getElem_cons hp, List.take_append_drop]
    have h4 : R.flatMap inner = (R.take p).flatMap inner ++ (inner y ++ (R.drop (p + 1)).flatMap inner) := by
      conv => lhs; rw [h2]
      rw [List.flatMap_append, List.flatMap_cons]
    rw [← h4]
    exact h1
  have hj : j < (inner y).length := (List.getElem?_eq_some_iff.mp hz).1
  rw [e]
  have ei : st (x :: ((R.take p).flatMap inner ++ (inner y ++ (R.drop (p + 1)).flatMap inner))) p + j = (((R.take p).flatMap inner).length + j) + 1 := by
    rw [← e]
    unfold st
    omega
  rw [ei, List.getElem?_cons_succ, List.getElem?_append_right (by omega)]
  rw [show ((R.take p).flatMap inner).length + j - ((R.take p).flatMap inner).length = j by omega, List.getElem?_append_left hj]
  exact hz
theorem revD_succ (m : Nat) : revD (m + 1) = .int (m : Int) :: revD m := by
  unfold revD
  rw [List.range_succ_eq_map, List.map_cons, List.map_map]
  congr 1
  · congr 1
    omega
  · refine List.map_congr_left fun i _ => ?_
    show PyData.int _ = PyData.int _
    congr 1
    show ((m + 1 : Nat) : Int) - 1 - ((i + 1 : Nat) : Int) = (m : Int) - 1 - (i : Int)
    omega
def env2 (x : Dt) (R : List Dt) (k : Int) (s3 s4 : Sl) (whole : List Dt) (e : Int) (s7 s8 s9 : Sl) : En := [.d x, .l R, .d (.int k), s3, s4, .l whole, .d (.int e), s7, s8, s9]
def body3 : M Fl := sIf (tB1 (e1 (gIsi2 "list" "tuple") (eVar 4))) (sSeq (sApp 9 (e2 gIx (eVar 5) (eVar 8))) (sAdd 8 (eC (.int 1)))) (sApp 9 (eVar 4))
theorem for3 {x y : Dt} {R whole : List Dt} {k e p t0 : Int} {t : Nat} {s3 s4 : Sl} (ht : t0 = (t : Int)) (hy : (kids y).length ≤ 100000) (h4 : s4 = .un ∨ ∃ z, s4 = .d z) (hw : ∀ j z, (inner y)[j]? = some z → whole[t + j]? = some (pf z)) :
    ∃ s, (s = .un ∨ ∃ z, s = .d z) ∧ ∃ t1, forM (tgN 4) body3 (kids y) (env2 x R k s3 s4 whole e (.d (.int p)) (.d (.int t0)) (.l [])) = .ok .nx (env2 x R k s3 s whole e (.d (.int p)) (.d (.int t1)) (.l ((kids y).map pf))) := by
  subst ht
  refine forM_all (g := tgN 4) (mb := body3) (fun rest E => ∃ done s, kids y = done ++ rest ∧ (s = .un ∨ ∃ z, s = .d z) ∧ E = env2 x R k s3 s whole e (.d (.int p)) (.d (.int ((t + (done.filter isRow).length : Nat) : Int))) (.l (done.map pf)))
    (fun r => ∃ s, (s = .un ∨ ∃ z, s = .d z) ∧ ∃ t1, r = .ok .nx (env2 x R k s3 s whole e (.d (.int p)) (.d (.int t1)) (.l ((kids y).map pf)))) (fun E h => ?_) (fun z rest E h => ?_) (kids y) (env2 x R k s3 s4 whole e (.d (.int p)) (.d (.int (t : Int))) (.l [])) ⟨[], s4, rfl, h4, by simp⟩
  · obtain ⟨done, s, hk, hs, rfl⟩ := h
    rw [List.append_nil] at hk
    exact ⟨s, hs, _, by rw [hk]⟩
  · obtain ⟨done, s, hk, hs, rfl⟩ := h
    have hdl : done.length ≤ 100000 := by
      have := congrArg List.length hk
      rw [List.length_append] at this
      omega
    have hol : okLen (done.map pf) = true := okLen_of (by rw [List.length_map]; exact hdl)
    refine ⟨env2 x R k s3 (.d z) whole e (.d (.int p)) (.d (.int ((t + (done.filter isRow).length : Nat) : Int))) (.l (done.map pf)), ?_, .inl ?_⟩
    · rcases hs with rfl | ⟨u, rfl⟩ <;> simp [env2, val_v, keep_v, sRet, sSeq, sIf, sSet, putV, setS, sNil, sBrk, sCnt, sExp, sUnp, unp, setAll, sAdd, sApp, sExt, sPut, mutL, sIns, sRetN, sRaise, rtV, endF, cutR, cut1, eAnd, eOr, eNot, eIf, e1, e2, eB, eC, eVar, eTup, eLst, aNil, aCons, vals, keeps, isB, tB1, tAndM, tOrM, tNotM, eSl, part, eCall, callM, prep, slotsOf, slotOf, refsOf, goBack, backs, unref, eDict, eM, gAdd, Vs.gSub, gDiv, gMod, gPow, gNeg, gCmp, gLt, gLe, gGt, gGe, gIsN, gNotN, isNone, gIsi, gIsi2, gLen, gList, gTuple, gMin, gMax, gInt, gAbs, iSeq, iEn, iCh, sFor, tgN, tgU]
    · cases hz : isRow z with
      | true =>
        have hat : whole[t + (done.filter isRow).length]? = some (pf z) := by
          refine hw _ _ ?_
          unfold inner
          rw [hk, List.filter_append, List.filter_cons, hz, if_pos rfl, List.getElem?_append_right (Nat.le_refl _)]
          simp
        refine ⟨env2 x R k s3 (.d z) whole e (.d (.int p)) (.d (.int ((t + ((done ++ [z]).filter isRow).length : Nat) : Int))) (.l ((done ++ [z]).map pf)), .inl ?_, done ++ [z], _, by rw [hk]; simp, .inr ⟨_, rfl⟩, rfl⟩
        have hz' : (isT "list" z || isT "tuple" z) = true := hz
        have hf1 : (List.filter isRow [z]).length = 1 := by simp [hz]
        simp only [List.filter_append, List.length_append, hf1, List.map_append, List.map_cons, List.map_nil]
        have hat2 : L2.atI whole ((t : Int) + ((done.filter isRow).length : Int)) = some (pf z) := by
          have := atI_nat hat
          rwa [Int.natCast_add] at this
        simp [body3, env2, val_v, keep_v, sRet, sSeq, sIf, sSet, putV, setS, sNil, sBrk, sCnt, sExp, sUnp, unp, setAll, sAdd, sApp, sExt, sPut, mutL, sIns, sRetN, sRaise, rtV, endF, cutR, cut1, eAnd, eOr, eNot, eIf, e1, e2, eB, eC, eVar, eTup, eLst, aNil, aCons, vals, keeps, isB, tB1, tAndM, tOrM, tNotM, eSl, part, eCall, callM, prep, slotsOf, slotOf, refsOf, goBack, backs, unref, eDict, eM, gAdd, Vs.gSub, gDiv, gMod, gPow, gNeg, gCmp, gLt, gLe, gGt, gGe, gIsN, gNotN, isNone, gIsi, gIsi2, gLen, gList, gTuple, gMin, gMax, gInt, gAbs, iSeq, iEn, iCh, sFor, tgN, tgU, hz', gIx, hat2, hol]
        omega
      | false =>
        refine ⟨env2 x R k s3 (.d z) whole e (.d (.int p)) (.d (.int ((t + ((done ++ [z]).filter isRow).length : Nat) : Int))) (.l ((done ++ [z]).map pf)), .inl ?_, done ++ [z], _, by rw [hk]; simp, .inr ⟨_, rfl⟩, rfl⟩
        have hz' : (isT "list" z || isT "tuple" z) = false := hz
        have hf1 : (List.filter isRow [z]).length = 0 := by simp [hz]
        simp only [List.filter_append, List.length_append, hf1, List.map_append, List.map_cons, List.map_nil, pf_leaf hz, Nat.add_zero]
        simp [body3, env2, val_v, keep_v, sRet, sSeq, sIf, sSet, putV, setS, sNil, sBrk, sCnt, sExp, sUnp, unp, setAll, sAdd, sApp, sExt, sPut, mutL, sIns, sRetN, sRaise, rtV, endF, cutR, cut1, eAnd, eOr, eNot, eIf, e1, e2, eB, eC, eVar, eTup, eLst, aNil, aCons, vals, keeps, isB, tB1, tAndM, tOrM, tNotM, eSl, part, eCall, callM, prep, slotsOf, slotOf, refsOf, goBack, backs, unref, eDict, eM, gAdd, Vs.gSub, gDiv, gMod, gPow, gNeg, gCmp, gLt, gLe, gGt, gGe, gIsN, gNotN, isNone, gIsi, gIsi2, gLen, gList, gTuple, gMin, gMax, gInt, gAbs, iSeq, iEn, iCh, sFor, tgN, tgU, hz', hol]
def comp2 : M Rv := eLc [4] (tgN 4) (tB1 (e1 (gIsi2 "list" "tuple") (eVar 4))) (eVar 4) (iSeq (e2 gIx (eVar 1) (eVar 7)))
def body2 : M Fl := sSeq (sSet 3 comp2) (sSeq (sSet 6 (e2 Vs.gSub (eVar 6) (eB gLen (aCons (eVar 3) aNil)))) (sSeq (sSet 8 (eVar 6)) (sSeq (sSet 9 (eLst aNil)) (sSeq (sFor (tgN 4) (iSeq (e2 gIx (eVar 1) (eVar 7))) body3) (sPut 5 (eVar 7) (eB gTuple (aCons (eVar 9) aNil)))))))
/-- what the other slots may hold -/
structure Fr3 (s3 s4 s7 s8 s9 : Sl) : Prop where
  h3 : s3 = .un ∨ ∃ ys, s3 = .l ys
  h4 : s4 = .un ∨ ∃ z, s4 = .d z
  h7 : s7 = .un ∨ ∃ z, s7 = .d z
  h8 : s8 = .un ∨ ∃ z, s8 = .d z
  h9 : s9 = .un ∨ ∃ ys, s9 = .l ys
theorem body2_ok {x y : Dt} {R whole : List Dt} {k : Int} {p : Nat} {s3 s4 s8 s9 : Sl} (hw : W1 x R R.length) (hy : R[p]? = some y) (hk : (kids y).length ≤ 100000) (hl : whole.length = R.length) (hd : ∀ (q : Nat) (z : Dt), p < q → R[q]? = some z → whole[q]? = some (pf z))
    (fr : Fr3 s3 s4 (.d (.int p)) s8 s9) :
    ∃ s3' s4' s8' s9', Fr3 s3' s4' (.d (.int p)) s8' s9' ∧ body2 (env2 x R k s3 s4 whole (st R (p + 1) : Nat) (.d (.int p)) s8 s9) = .ok .nx (env2 x R k s3' s4' (whole.set p (pf y)) (st R p : Nat) (.d (.int p)) s8' s9') := by
  have hp : p < R.length := (List.getElem?_eq_some_iff.mp hy).1
  have hry := hw.row y (List.mem_of_getElem? hy)
  have hin : (inner y).length ≤ 100000 := Nat.le_trans (List.length_filter_le _ _) hk
  have hlt := hw.lt p hp
  have hsS := st_succ hy
  have hsub : ((st R (p + 1) : Nat) : Int) - ((inner y).length : Int) = (st R p : Nat) := by omega
  have hc : comp2 (env2 x R k s3 s4 whole (st R (p + 1) : Nat) (.d (.int p)) s8 s9) = .ok (.o (inner y)) (env2 x R k s3 s4 whole (st R (p + 1) : Nat) (.d (.int p)) s8 s9) := by
    have hi : iSeq (e2 gIx (eVar 1) (eVar 7)) (env2 x R k s3 s4 whole (st R (p + 1) : Nat) (.d (.int p)) s8 s9) = .ok (kids y) (env2 x R k s3 s4 whole (st R (p + 1) : Nat) (.d (.int p)) s8 s9) := by
      refine seq_row hry ?_
      simp [env2, val_v, keep_v, sRet, sSeq, sIf, sSet, putV, setS, sNil, sBrk, sCnt, sExp, sUnp, unp, setAll, sAdd, sApp, sExt, sPut, mutL, sIns, sRetN, sRaise, rtV, endF, cutR, cut1, eAnd, eOr, eNot, eIf, e1, e2, eB, eC, eVar, eTup, eLst, aNil, aCons, vals, keeps, isB, tB1, tAndM, tOrM, tNotM, eSl, part, eCall, callM, prep, slotsOf, slotOf, refsOf, goBack, backs, unref, eDict, eM, gAdd, Vs.gSub, gDiv, gMod, gPow, gNeg, gCmp, gLt, gLe, gGt, gGe, gIsN, gNotN, isNone, gIsi, gIsi2, gLen, gList, gTuple, gMin, gMax, gInt, gAbs, iSeq, iEn, iCh, sFor, tgN, tgU, gIx, atI_nat hy]
    have := eLc_pure (v := 4) (mt := tB1 (e1 (gIsi2 "list" "tuple") (eVar 4))) (me := eVar 4) isRow id hi (s := s4) rfl fr.h4 hk (fun z _ => by simp [env2, val_v, keep_v, sRet, sSeq, sIf, sSet, putV, setS, sNil, sBrk, sCnt, sExp, sUnp, unp, setAll, sAdd, sApp, sExt, sPut, mutL, sIns, sRetN, sRaise, rtV, endF, cutR, cut1, eAnd, eOr, eNot, eIf, e1, e2, eB, eC, eVar, eTup, eLst, aNil, aCons, vals, keeps, isB, tB1, tAndM, tOrM, tNotM, eSl, part, eCall, callM, prep, slotsOf, slotOf, refsOf, goBack, backs, unref, eDict, eM, gAdd, Vs.gSub, gDiv, gMod, gPow, gNeg, gCmp, gLt, gLe, gGt, gGe, gIsN, gNotN, isNone, gIsi, gIsi2, gLen, gList, gTuple, gMin, gMax, gInt, gAbs, iSeq, iEn, iCh, sFor, tgN, tgU, isRow]) (fun z _ _ => ⟨.v 4, by simp [env2, val_v, keep_v, sRet, sSeq, sIf, sSet, putV, setS, sNil, sBrk, sCnt, sExp, sUnp, unp, setAll, sAdd, sApp, sExt, sPut, mutL, sIns, sRetN, sRaise, rtV, endF, cutR, cut1, eAnd, eOr, eNot, eIf, e1, e2, eB, eC, eVar, eTup, eLst, aNil, aCons, vals, keeps, isB, tB1, tAndM, tOrM, tNotM, eSl, part, eCall, callM, prep, slotsOf, slotOf, refsOf, goBack, backs, unref, eDict, eM, gAdd, Vs.gSub, gDiv, gMod, gPow, gNeg, gCmp, gLt, gLe, gGt, gGe, gIsN, gNotN, isNone, gIsi, gIsi2, gLen, gList, gTuple, gMin, gMax, gInt, gAbs, iSeq, iEn, iCh, sFor, tgN, tgU], by simp [env2, val_v, keep_v, sRet, sSeq, sIf, sSet, putV, setS, sNil, sBrk, sCnt, sExp, sUnp, unp, setAll, sAdd, sApp, sExt, sPut, mutL, sIns, sRetN, sRaise, rtV, endF, cutR, cut1, eAnd, eOr, eNot, eIf, e1, e2, eB, eC, eVar, eTup, eLst, aNil, aCons, vals, keeps, isB, tB1, tAndM, tOrM, tNotM, eSl, part, eCall, callM, prep, slotsOf, slotOf, refsOf, goBack, backs, unref, eDict, eM, gAdd, Vs.gSub, gDiv, gMod, gPow, gNeg, gCmp, gLt, gLe, gGt, gGe, gIsN, gNotN, isNone, gIsi, gIsi2, gLen, gList, gTuple, gMin, gMax, gInt, gAbs, iSeq, iEn, iCh, sFor, tgN, tgU]⟩)
    rw [List.map_id] at this
    exact this
  obtain ⟨s4', h4', t1, h3⟩ := for3 (x := x) (y := y) (R := R) (whole := whole) (k := k) (e := (st R p : Nat)) (p := p) (t0 := (st R p : Nat)) (s3 := .l (inner y)) (s4 := s4) rfl hk fr.h4 fun j z hz => hd _ z (by unfold st; omega) (hw.at_ hy hz)
  have hi2 : iSeq (e2 gIx (eVar 1) (eVar 7)) (env2 x R k (.l (inner y)) s4 whole (st R p : Nat) (.d (.int p)) (.d (.int (st R p : Nat))) (.l [])) = .ok (kids y) (env2 x R k (.l (inner y)) s4 whole (st R p : Nat) (.d (.int p)) (.d (.int (st R p : Nat))) (.l [])) := by
    refine seq_row hry ?_
    simp [env2, val_v, keep_v, sRet, sSeq, sIf, sSet, putV, setS, sNil, sBrk, sCnt, sExp, sUnp, unp, setAll, sAdd, sApp, sExt, sPut, mutL, sIns, sRetN, sRaise, rtV, endF, cutR, cut1, eAnd, eOr, eNot, eIf, e1, e2, eB, eC, eVar, eTup, eLst, aNil, aCons, vals, keeps, isB, tB1, tAndM, tOrM, tNotM, eSl, part, eCall, callM, prep, slotsOf, slotOf, refsOf, goBack, backs, unref, eDict, eM, gAdd, Vs.gSub, gDiv, gMod, gPow, gNeg, gCmp, gLt, gLe, gGt, gGe, gIsN, gNotN, isNone, gIsi, gIsi2, gLen, gList, gTuple, gMin, gMax, gInt, gAbs, iSeq, iEn, iCh, sFor, tgN, tgU, gIx, atI_nat hy]
  refine ⟨.l (inner y), s4', .d (.int t1), .l ((kids y).map pf), ⟨.inr ⟨_, rfl⟩, h4', .inr ⟨_, rfl⟩, .inr ⟨_, rfl⟩, .inr ⟨_, rfl⟩⟩, ?_⟩
  -- step by step
  have q1 : sSet 3 comp2 (env2 x R k s3 s4 whole (st R (p + 1) : Nat) (.d (.int p)) s8 s9) = .ok .nx (env2 x R k (.l (inner y)) s4 whole (st R (p + 1) : Nat) (.d (.int p)) s8 s9) := by
    unfold sSet
    simp only [bnd_ap, hc, go_ok]
    rcases fr.h3 with rfl | ⟨u, rfl⟩ <;> simp [env2, val_v, keep_v, sRet, sSeq, sIf, sSet, putV, setS, sNil, sBrk, sCnt, sExp, sUnp, unp, setAll, sAdd, sApp, sExt, sPut, mutL, sIns, sRetN, sRaise, rtV, endF, cutR, cut1, eAnd, eOr, eNot, eIf, e1, e2, eB, eC, eVar, eTup, eLst, aNil, aCons, vals, keeps, isB, tB1, tAndM, tOrM, tNotM, eSl, part, eCall, callM, prep, slotsOf, slotOf, refsOf, goBack, backs, unref, eDict, eM, gAdd, Vs.gSub, gDiv, gMod, gPow, gNeg, gCmp, gLt, gLe, gGt, gGe, gIsN, gNotN, isNone, gIsi, gIsi2, gLen, gList, gTuple, gMin, gMax, gInt, gAbs, iSeq, iEn, iCh, sFor, tgN, tgU]
  have q2 : sSet 6 (e2 Vs.gSub (eVar 6) (eB gLen (aCons (eVar 3) aNil))) (env2 x R k (.l (inner y)) s4 whole (st R (p + 1) : Nat) (.d (.int p)) s8 s9) = .ok .nx (env2 x R k (.l (inner y)) s4 whole (st R p : Nat) (.d (.int p)) s8 s9) := by
    simp [env2, val_v, keep_v, sRet, sSeq, sIf, sSet, putV, setS, sNil, sBrk, sCnt, sExp, sUnp, unp, setAll, sAdd, sApp, sExt, sPut, mutL, sIns, sRetN, sRaise, rtV, endF, cutR, cut1, eAnd, eOr, eNot, eIf, e1, e2, eB, eC, eVar, eTup, eLst, aNil, aCons, vals, keeps, isB, tB1, tAndM, tOrM, tNotM, eSl, part, eCall, callM, prep, slotsOf, slotOf, refsOf, goBack, backs, unref, eDict, eM, gAdd, Vs.gSub, gDiv, gMod, gPow, gNeg, gCmp, gLt, gLe, gGt, gGe, gIsN, gNotN, isNone, gIsi, gIsi2, gLen, gList, gTuple, gMin, gMax, gInt, gAbs, iSeq, iEn, iCh, sFor, tgN, tgU, hsub]
  have q3 : sSet 8 (eVar 6) (env2 x R k (.l (inner y)) s4 whole (st R p : Nat) (.d (.int p)) s8 s9) = .ok .nx (env2 x R k (.l (inner y)) s4 whole (st R p : Nat) (.d (.int p)) (.d (.int (st R p : Nat))) s9) := by
    rcases fr.h8 with rfl | ⟨u, rfl⟩ <;> simp [env2, val_v, keep_v, sRet, sSeq, sIf, sSet, putV, setS, sNil, sBrk, sCnt, sExp, sUnp, unp, setAll, sAdd, sApp, sExt, sPut, mutL, sIns, sRetN, sRaise, rtV, endF, cutR, cut1, eAnd, eOr, eNot, eIf, e1, e2, eB, eC, eVar, eTup, eLst, aNil, aCons, vals, keeps, isB, tB1, tAndM, tOrM, tNotM, eSl, part, eCall, callM, prep, slotsOf, slotOf, refsOf, goBack, backs, unref, eDict, eM, gAdd, Vs.gSub, gDiv, gMod, gPow, gNeg, gCmp, gLt, gLe, gGt, gGe, gIsN, gNotN, isNone, gIsi, gIsi2, gLen, gList, gTuple, gMin, gMax, gInt, gAbs, iSeq, iEn, iCh, sFor, tgN, tgU]
  have q4 : sSet 9 (eLst aNil) (env2 x R k (.l (inner y)) s4 whole (st R p : Nat) (.d (.int p)) (.d (.int (st R p : Nat))) s9) = .ok .nx (env2 x R k (.l (inner y)) s4 whole (st R p : Nat) (.d (.int p)) (.d (.int (st R p : Nat))) (.l [])) := by
    rcases fr.h9 with rfl | ⟨u, rfl⟩ <;> simp [env2, val_v, keep_v, sRet, sSeq, sIf, sSet, putV, setS, sNil, sBrk, sCnt, sExp, sUnp, unp, setAll, sAdd, sApp, sExt, sPut, mutL, sIns, sRetN, sRaise, rtV, endF, cutR, cut1, eAnd, eOr, eNot, eIf, e1, e2, eB, eC, eVar, eTup, eLst, aNil, aCons, vals, keeps, isB, tB1, tAndM, tOrM, tNotM, eSl, part, eCall, callM, prep, slotsOf, slotOf, refsOf, goBack, backs, unref, eDict, eM, gAdd, Vs.gSub, gDiv, gMod, gPow, gNeg, gCmp, gLt, gLe, gGt, gGe, gIsN, gNotN, isNone, gIsi, gIsi2, gLen, gList, gTuple, gMin, gMax, gInt, gAbs, iSeq, iEn, iCh, sFor, tgN, tgU]
  have q5 : sFor (tgN 4) (iSeq (e2 gIx (eVar 1) (eVar 7))) body3 (env2 x R k (.l (inner y)) s4 whole (st R p : Nat) (.d (.int p)) (.d (.int (st R p : Nat))) (.l [])) = .ok .nx (env2 x R k (.l (inner y)) s4' whole (st R p : Nat) (.d (.int p)) (.d (.int t1)) (.l ((kids y).map pf))) := by
    unfold sFor
    simp only [bnd_ap, hi2, go_ok]
    exact h3
  have hix : L2.ixN whole.length (p : Int) = some p := by
    unfold L2.ixN
    rw [if_pos (by omega), if_pos (by omega)]
    simp
  have q6 : sPut 5 (eVar 7) (eB gTuple (aCons (eVar 9) aNil)) (env2 x R k (.l (inner y)) s4' whole (st R p : Nat) (.d (.int p)) (.d (.int t1)) (.l ((kids y).map pf))) = .ok .nx (env2 x R k (.l (inner y)) s4' (whole.set p (pf y)) (st R p : Nat) (.d (.int p)) (.d (.int t1)) (.l ((kids y).map pf))) := by
    rw [pf_row hry]
    simp [env2, val_v, keep_v, sRet, sSeq, sIf, sSet, putV, setS, sNil, sBrk, sCnt, sExp, sUnp, unp, setAll, sAdd, sApp, sExt, sPut, mutL, sIns, sRetN, sRaise, rtV, endF, cutR, cut1, eAnd, eOr, eNot, eIf, e1, e2, eB, eC, eVar, eTup, eLst, aNil, aCons, vals, keeps, isB, tB1, tAndM, tOrM, tNotM, eSl, part, eCall, callM, prep, slotsOf, slotOf, refsOf, goBack, backs, unref, eDict, eM, gAdd, Vs.gSub, gDiv, gMod, gPow, gNeg, gCmp, gLt, gLe, gGt, gGe, gIsN, gNotN, isNone, gIsi, gIsi2, gLen, gList, gTuple, gMin, gMax, gInt, gAbs, iSeq, iEn, iCh, sFor, tgN, tgU, hix]
  unfold body2
  simp only [sSeq, bnd_ap, q1, go_ok, q2, q3, q4, q5, q6]
theorem for2 {x : Dt} {R : List Dt} {k : Int} {s3 : Sl} (hw : W1 x R R.length) (hz : ∀ y ∈ R, tot y ≤ 100000) (h3 : s3 = .un ∨ ∃ ys, s3 = .l ys) :
    ∃ (s3' s4' s7' s8' s9' : Sl) (whole : List Dt) (e : Int), Fr3 s3' s4' s7' s8' s9' ∧ whole.length = R.length ∧ (∀ (q : Nat) (z : Dt), R[q]? = some z → whole[q]? = some (pf z)) ∧
      forM (tgN 7) body2 (revD R.length) (env2 x R k s3 .un (List.replicate R.length (.tuple [])) (R.length : Nat) .un .un .un) = .ok .nx (env2 x R k s3' s4' whole e s7' s8' s9') := by
  have hst : st R R.length = R.length := by
    have := congrArg List.length hw.eq
    rw [List.length_cons] at this
    unfold st
    omega
  have := forM_all (g := tgN 7) (mb := body2) (fun rest E => ∃ (m : Nat) (s3 s4 s7 s8 s9 : Sl) (whole : List Dt), m ≤ R.length ∧ rest = revD m ∧ Fr3 s3 s4 s7 s8 s9 ∧ whole.length = R.length ∧ (∀ (q : Nat) (z : Dt), m ≤ q → R[q]? = some z → whole[q]? = some (pf z)) ∧ E = env2 x R k s3 s4 whole (st R m : Nat) s7 s8 s9)
    (fun r => ∃ (s3' s4' s7' s8' s9' : Sl) (whole : List Dt) (e : Int), Fr3 s3' s4' s7' s8' s9' ∧ whole.length = R.length ∧ (∀ (q : Nat) (z : Dt), R[q]? = some z → whole[q]? = some (pf z)) ∧ r = .ok .nx (env2 x R k s3' s4' whole e s7' s8' s9')) (fun E h => ?_) (fun z rest E h => ?_) (revD R.length)
    (env2 x R k s3 .un (List.replicate R.length (.tuple [])) (R.length : Nat) .un .un .un)
    ⟨R.length, s3, .un, .un, .un, .un, List.replicate R.length (.tuple []), Nat.le_refl _, rfl, ⟨h3, .inl rfl, .inl rfl, .inl rfl, .inl rfl⟩, by simp, fun q z hq hz => ?_, by rw [hst]⟩
  · exact this
  · obtain ⟨m, s3, s4, s7, s8, s9, whole, hm, hr, fr, hl, hd, rfl⟩ := h
    have hm0 : m = 0 := by
      have := congrArg List.length hr
      simp [revD] at this
      exact this.symm
    subst hm0
    exact ⟨s3, s4, s7, s8, s9, whole, _, fr, hl, fun q z hz => hd q z (Nat.zero_le _) hz, rfl⟩
  · obtain ⟨m, s3, s4, s7, s8, s9, whole, hm, hr, fr, hl, hd, rfl⟩ := h
    cases m with
    | zero => simp [revD] at hr
    | succ m =>
      rw [revD_succ] at hr
      injection hr with hr1 hr2
      subst hr1; subst hr2
      have hy : R[m]? = some R[m] := List.getElem?_eq_getElem (by omega)
      have hkl : (kids R[m]).length ≤ 100000 := by
        have h1 := tots_len (kids R[m])
        have h2 := tot_kids R[m]
        have h3 := hz R[m] (List.getElem_mem _)
        omega
      obtain ⟨s3', s4', s8', s9', fr', hb⟩ := body2_ok (k := k) (s3 := s3) (s4 := s4) (s8 := s8) (s9 := s9) hw hy hkl hl (fun q z hq hz => hd q z hq hz) ⟨fr.h3, fr.h4, .inr ⟨_, rfl⟩, fr.h8, fr.h9⟩
      refine ⟨env2 x R k s3 s4 whole (st R (m + 1) : Nat) (.d (.int m)) s8 s9, ?_, .inl ⟨_, .inl hb, m, s3', s4', _, s8', s9', _, by omega, rfl, fr', by rw [List.length_set]; exact hl, fun q z hq hz => ?_, rfl⟩⟩
      · rcases fr.h7 with rfl | ⟨u, rfl⟩ <;> simp [env2, val_v, keep_v, sRet, sSeq, sIf, sSet, putV, setS, sNil, sBrk, sCnt, sExp, sUnp, unp, setAll, sAdd, sApp, sExt, sPut, mutL, sIns, sRetN, sRaise, rtV, endF, cutR, cut1, eAnd, eOr, eNot, eIf, e1, e2, eB, eC, eVar, eTup, eLst, aNil, aCons, vals, keeps, isB, tB1, tAndM, tOrM, tNotM, eSl, part, eCall, callM, prep, slotsOf, slotOf, refsOf, goBack, backs, unref, eDict, eM, gAdd, Vs.gSub, gDiv, gMod, gPow, gNeg, gCmp, gLt, gLe, gGt, gGe, gIsN, gNotN, isNone, gIsi, gIsi2, gLen, gList, gTuple, gMin, gMax, gInt, gAbs, iSeq, iEn, iCh, sFor, tgN, tgU]
      · by_cases hqm : q = m
        · subst hqm
          rw [List.getElem?_set_self (by omega)]
          rw [hy] at hz
          cases hz
          rfl
        · rw [List.getElem?_set_ne (Ne.symm hqm)]
          exact hd q z (by omega) hz
  · have := (List.getElem?_eq_some_iff.mp hz).1
    omega
theorem rep_one (n : Nat) (x : Dt) : rep n [x] = List.replicate n x := by
  unfold rep
  induction n with
  | zero => rfl
  | succ n ih => rw [List.replicate_succ, List.flatten_cons, ih]; rfl
end K04
/-! # K04C -/
set_option Elab.async false
set_option linter.all false
set_option maxRecDepth 100000
set_option maxHeartbeats 4000000
/-! k04, the plain law: plain_form, the whole. -/
namespace K04
open PySem L2 Vs
theorem pf_hg {R : List Dt} (hn : R.length ≤ 100000) : gMul (.list [.tuple []]) (.int (R.length : Int)) = some (.o (List.replicate R.length (.tuple []))) := by
  have h1 : ([PyData.tuple []] : List Dt).length * ((R.length : Int)).toNat ≤ 1000000 := by
    have e1 : ([PyData.tuple []] : List Dt).length = 1 := rfl
    have e2 : ((R.length : Int)).toNat = R.length := Int.toNat_natCast _
    rw [e1, e2]
    omega
  have h2 : -(2 ^ 62) ≤ (R.length : Int) := by omega
  have h3 : (R.length : Int) < 2 ^ 62 := by omega
  simp only [gMul]
  rw [if_pos ⟨h2, h3, h1⟩, rep_one, Int.toNat_natCast]
theorem t1 {E : En} : eTup aNil E = .ok (.d (.tuple [])) E := by
  simp [val_v, keep_v, sRet, sSeq, sIf, sSet, putV, setS, sNil, sBrk, sCnt, sExp, sUnp, unp, setAll, sAdd, sApp, sExt, sPut, mutL, sIns, sRetN, sRaise, rtV, endF, cutR, cut1, eAnd, eOr, eNot, eIf, e1, e2, eB, eC, eVar, eTup, eLst, aNil, aCons, vals, keeps, isB, tB1, tAndM, tOrM, tNotM, eSl, part, eCall, callM, prep, slotsOf, slotOf, refsOf, goBack, backs, unref, eDict, eM, gAdd, Vs.gSub, gDiv, gMod, gPow, gNeg, gCmp, gLt, gLe, gGt, gGe, gIsN, gNotN, isNone, gIsi, gIsi2, gLen, gList, gTuple, gMin, gMax, gInt, gAbs, iSeq, iEn, iCh, sFor, tgN, tgU]
theorem t2 {E : En} : eLst (aCons (eTup aNil) aNil) E = .ok (.o [.tuple []]) E := by
  have e : aCons (eTup aNil) aNil E = .ok [.d (.tuple [])] E := by
    unfold aCons
    rw [bnd_ap, t1]
    rfl
  unfold eLst
  rw [bnd_ap, e]
  simp only [go_ok, bnd_ap, keeps, keep_d, ret_ap, okLen_1, if_true]
theorem t3 {x : Dt} {R : List Dt} {s : Sl} : eB gLen (aCons (eVar 1) aNil) (envW x R R.length s) = .ok (.d (.int R.length)) (envW x R R.length s) := by
  simp [val_v, keep_v, sRet, sSeq, sIf, sSet, putV, setS, sNil, sBrk, sCnt, sExp, sUnp, unp, setAll, sAdd, sApp, sExt, sPut, mutL, sIns, sRetN, sRaise, rtV, endF, cutR, cut1, eAnd, eOr, eNot, eIf, e1, e2, eB, eC, eVar, eTup, eLst, aNil, aCons, vals, keeps, isB, tB1, tAndM, tOrM, tNotM, eSl, part, eCall, callM, prep, slotsOf, slotOf, refsOf, goBack, backs, unref, eDict, eM, gAdd, Vs.gSub, gDiv, gMod, gPow, gNeg, gCmp, gLt, gLe, gGt, gGe, gIsN, gNotN, isNone, gIsi, gIsi2, gLen, gList, gTuple, gMin, gMax, gInt, gAbs, iSeq, iEn, iCh, sFor, tgN, tgU, envW]
theorem pf_a4 {x : Dt} {R : List Dt} {s : Sl} (hg : gMul (.list [.tuple []]) (.int (R.length : Int)) = some (.o (List.replicate R.length (.tuple [])))) : sSet 5 (e2 gMul (eLst (aCons (eTup aNil) aNil)) (eB gLen (aCons (eVar 1) aNil))) (envW x R R.length s) = .ok .nx [.d x, .l R, .d (.int R.length), s, .un, .l (List.replicate R.length (.tuple [])), .un, .un, .un, .un] := by
  unfold sSet
  rw [bnd_ap, e2_go t2 t3 rfl rfl hg]
  rfl
theorem pf_a1 {x : Dt} (hr : isRow x = true) : sIf (tNotM (tB1 (eCall f_is_row [false] (aCons (eVar 0) aNil)))) (sRet (eVar 0)) sNil [.d x, .un, .un, .un, .un, .un, .un, .un, .un, .un] = .ok .nx [.d x, .un, .un, .un, .un, .un, .un, .un, .un, .un] := by
  simp [val_v, keep_v, sRet, sSeq, sIf, sSet, putV, setS, sNil, sBrk, sCnt, sExp, sUnp, unp, setAll, sAdd, sApp, sExt, sPut, mutL, sIns, sRetN, sRaise, rtV, endF, cutR, cut1, eAnd, eOr, eNot, eIf, e1, e2, eB, eC, eVar, eTup, eLst, aNil, aCons, vals, keeps, isB, tB1, tAndM, tOrM, tNotM, eSl, part, eCall, callM, prep, slotsOf, slotOf, refsOf, goBack, backs, unref, eDict, eM, gAdd, Vs.gSub, gDiv, gMod, gPow, gNeg, gCmp, gLt, gLe, gGt, gGe, gIsN, gNotN, isNone, gIsi, gIsi2, gLen, gList, gTuple, gMin, gMax, gInt, gAbs, iSeq, iEn, iCh, sFor, tgN, tgU, is_row_ok, hr]
theorem pf_a2 {x : Dt} : sSet 1 (eLst (aCons (eVar 0) aNil)) [.d x, .un, .un, .un, .un, .un, .un, .un, .un, .un] = .ok .nx [.d x, .l [x], .un, .un, .un, .un, .un, .un, .un, .un] := by
  simp [val_v, keep_v, sRet, sSeq, sIf, sSet, putV, setS, sNil, sBrk, sCnt, sExp, sUnp, unp, setAll, sAdd, sApp, sExt, sPut, mutL, sIns, sRetN, sRaise, rtV, endF, cutR, cut1, eAnd, eOr, eNot, eIf, e1, e2, eB, eC, eVar, eTup, eLst, aNil, aCons, vals, keeps, isB, tB1, tAndM, tOrM, tNotM, eSl, part, eCall, callM, prep, slotsOf, slotOf, refsOf, goBack, backs, unref, eDict, eM, gAdd, Vs.gSub, gDiv, gMod, gPow, gNeg, gCmp, gLt, gLe, gGt, gGe, gIsN, gNotN, isNone, gIsi, gIsi2, gLen, gList, gTuple, gMin, gMax, gInt, gAbs, iSeq, iEn, iCh, sFor, tgN, tgU]
theorem pf_a3 {x : Dt} : sSet 2 (eC (.int 0)) [.d x, .l [x], .un, .un, .un, .un, .un, .un, .un, .un] = .ok .nx (envW x [x] 0 .un) := by
  simp [val_v, keep_v, sRet, sSeq, sIf, sSet, putV, setS, sNil, sBrk, sCnt, sExp, sUnp, unp, setAll, sAdd, sApp, sExt, sPut, mutL, sIns, sRetN, sRaise, rtV, endF, cutR, cut1, eAnd, eOr, eNot, eIf, e1, e2, eB, eC, eVar, eTup, eLst, aNil, aCons, vals, keeps, isB, tB1, tAndM, tOrM, tNotM, eSl, part, eCall, callM, prep, slotsOf, slotOf, refsOf, goBack, backs, unref, eDict, eM, gAdd, Vs.gSub, gDiv, gMod, gPow, gNeg, gCmp, gLt, gLe, gGt, gGe, gIsN, gNotN, isNone, gIsi, gIsi2, gLen, gList, gTuple, gMin, gMax, gInt, gAbs, iSeq, iEn, iCh, sFor, tgN, tgU, envW]
theorem pf_a5 {x : Dt} {R : List Dt} {s : Sl} : sSet 6 (eB gLen (aCons (eVar 1) aNil)) [.d x, .l R, .d (.int R.length), s, .un, .l (List.replicate R.length (.tuple [])), .un, .un, .un, .un] = .ok .nx (env2 x R (R.length : Nat) s .un (List.replicate R.length (.tuple [])) (R.length : Nat) .un .un .un) := by
  simp [val_v, keep_v, sRet, sSeq, sIf, sSet, putV, setS, sNil, sBrk, sCnt, sExp, sUnp, unp, setAll, sAdd, sApp, sExt, sPut, mutL, sIns, sRetN, sRaise, rtV, endF, cutR, cut1, eAnd, eOr, eNot, eIf, e1, e2, eB, eC, eVar, eTup, eLst, aNil, aCons, vals, keeps, isB, tB1, tAndM, tOrM, tNotM, eSl, part, eCall, callM, prep, slotsOf, slotOf, refsOf, goBack, backs, unref, eDict, eM, gAdd, Vs.gSub, gDiv, gMod, gPow, gNeg, gCmp, gLt, gLe, gGt, gGe, gIsN, gNotN, isNone, gIsi, gIsi2, gLen, gList, gTuple, gMin, gMax, gInt, gAbs, iSeq, iEn, iCh, sFor, tgN, tgU, env2]
theorem pf_leaf_ok {x : Dt} (hr : isRow x = false) : f_plain_form [.d x] = .ok (.d x) [.un] := by
  have a1 : sIf (tNotM (tB1 (eCall f_is_row [false] (aCons (eVar 0) aNil)))) (sRet (eVar 0)) sNil [.d x, .un, .un, .un, .un, .un, .un, .un, .un, .un] = .ok (.rt (.d x)) [.d x, .un, .un, .un, .un, .un, .un, .un, .un, .un] := by
    simp [val_v, keep_v, sRet, sSeq, sIf, sSet, putV, setS, sNil, sBrk, sCnt, sExp, sUnp, unp, setAll, sAdd, sApp, sExt, sPut, mutL, sIns, sRetN, sRaise, rtV, endF, cutR, cut1, eAnd, eOr, eNot, eIf, e1, e2, eB, eC, eVar, eTup, eLst, aNil, aCons, vals, keeps, isB, tB1, tAndM, tOrM, tNotM, eSl, part, eCall, callM, prep, slotsOf, slotOf, refsOf, goBack, backs, unref, eDict, eM, gAdd, Vs.gSub, gDiv, gMod, gPow, gNeg, gCmp, gLt, gLe, gGt, gGe, gIsN, gNotN, isNone, gIsi, gIsi2, gLen, gList, gTuple, gMin, gMax, gInt, gAbs, iSeq, iEn, iCh, sFor, tgN, tgU, is_row_ok, hr]
  have h1 : [Sl.d x].length = 1 := rfl
  have h2 : [Sl.d x] ++ List.replicate (10 - 1) Sl.un = [.d x, .un, .un, .un, .un, .un, .un, .un, .un, .un] := rfl
  unfold f_plain_form mkFn
  rw [if_pos h1, h2]
  unfold m_plain_form
  rw [sSeq, bnd_ap, a1]
  rfl
theorem pf_hm {x : Dt} {R : List Dt} {s : Sl} {E : En} (hr : isRow x = true) (hn : R.length ≤ 100000) (hwh : whileM test1 body1 fuel (envW x [x] 0 .un) = .ok .nx (envW x R R.length s))
    (a6 : sFor (tgN 7) (Vs.iRev (eB gLen (aCons (eVar 1) aNil))) body2 (env2 x R (R.length : Nat) s .un (List.replicate R.length (.tuple [])) (R.length : Nat) .un .un .un) = .ok .nx E) (a7 : sRet (e2 gIx (eVar 5) (eC (.int 0))) E = .ok (.rt (.d (pf x))) E) :
    m_plain_form [.d x, .un, .un, .un, .un, .un, .un, .un, .un, .un] = .ok (.rt (.d (pf x))) E := by
  have a4 := pf_a4 (x := x) (s := s) (pf_hg hn)
  unfold test1 body1 at hwh
  unfold body2 comp2 body3 at a6
  unfold m_plain_form
  rw [seq_nx (pf_a1 hr), seq_nx pf_a2, seq_nx pf_a3, seq_nx hwh, seq_nx a4, seq_nx pf_a5, seq_nx a6, a7]
theorem pf_a7 {x : Dt} {R whole : List Dt} {k e : Int} {s3 s4 s7 s8 s9 : Sl} {y : Dt} (h : whole[0]? = some y) : sRet (e2 gIx (eVar 5) (eC (.int 0))) (env2 x R k s3 s4 whole e s7 s8 s9) = .ok (.rt (.d y)) (env2 x R k s3 s4 whole e s7 s8 s9) := by
  have hat : gIx (.list whole) (.int 0) = some (.d y) := by
    have := atI_nat h
    show (L2.atI whole ((0 : Nat) : Int)).map Rv.d = _
    rw [this]
    rfl
  have q := e2_go (ma := eVar 5) (mb := eC (.int 0)) (E := env2 x R k s3 s4 whole e s7 s8 s9) (r1 := .v 5) (r2 := .d (.int 0)) (x := .list whole) (y := .int 0) rfl rfl rfl rfl hat
  unfold sRet
  rw [bnd_ap, q]
  rfl
theorem pf_a6 {x : Dt} {R : List Dt} {s : Sl} {E : En} (hn : R.length ≤ 100000) (h2 : Vs.forM (tgN 7) body2 (revD R.length) (env2 x R (R.length : Nat) s .un (List.replicate R.length (.tuple [])) (R.length : Nat) .un .un .un) = .ok .nx E) :
    sFor (tgN 7) (Vs.iRev (eB gLen (aCons (eVar 1) aNil))) body2 (env2 x R (R.length : Nat) s .un (List.replicate R.length (.tuple [])) (R.length : Nat) .un .un .un) = .ok .nx E := by
  have hb : eB gLen (aCons (eVar 1) aNil) (env2 x R (R.length : Nat) s .un (List.replicate R.length (.tuple [])) (R.length : Nat) .un .un .un) = .ok (.d (.int R.length)) (env2 x R (R.length : Nat) s .un (List.replicate R.length (.tuple [])) (R.length : Nat) .un .un .un) := by
    simp [val_v, keep_v, sRet, sSeq, sIf, sSet, putV, setS, sNil, sBrk, sCnt, sExp, sUnp, unp, setAll, sAdd, sApp, sExt, sPut, mutL, sIns, sRetN, sRaise, rtV, endF, cutR, cut1, eAnd, eOr, eNot, eIf, e1, e2, eB, eC, eVar, eTup, eLst, aNil, aCons, vals, keeps, isB, tB1, tAndM, tOrM, tNotM, eSl, part, eCall, callM, prep, slotsOf, slotOf, refsOf, goBack, backs, unref, eDict, eM, gAdd, Vs.gSub, gDiv, gMod, gPow, gNeg, gCmp, gLt, gLe, gGt, gGe, gIsN, gNotN, isNone, gIsi, gIsi2, gLen, gList, gTuple, gMin, gMax, gInt, gAbs, iSeq, iEn, iCh, sFor, tgN, tgU, env2]
  have hi := iRev_ok hb rfl (by omega : R.length ≤ 1000000000)
  unfold sFor
  rw [bnd_ap, hi]
  exact h2
theorem pf_fin {x y : Dt} {E : En} (hm : m_plain_form [.d x, .un, .un, .un, .un, .un, .un, .un, .un, .un] = .ok (.rt (.d y)) E) (hE : cutR [.d x] E = [.un]) : f_plain_form [.d x] = .ok (.d y) [.un] := by
  have h1 : [Sl.d x].length = 1 := rfl
  have h2 : [Sl.d x] ++ List.replicate (10 - 1) Sl.un = [.d x, .un, .un, .un, .un, .un, .un, .un, .un, .un] := rfl
  unfold f_plain_form mkFn
  rw [if_pos h1, h2, hm]
  show Rs.ok (Rv.d y) (cutR [.d x] E) = _
  rw [hE]
theorem plain_form_ok {x : Dt} (hz : tot x ≤ 100000) : f_plain_form [.d x] = .ok (.d (pf x)) [.un] := by
  cases hr : isRow x with
  | false =>
    rw [pf_leaf hr]
    exact pf_leaf_ok hr
  | true =>
    obtain ⟨R, s, hwh, hw, ht, hn, hs⟩ := while1 hr hz
    obtain ⟨s3', s4', s7', s8', s9', whole, e, fr, hl, hd, h2⟩ := for2 (k := (R.length : Nat)) hw (fun y hy => Nat.le_trans (ht y hy) hz) hs
    have hx : R[0]? = some x := by rw [hw.eq]; rfl
    exact pf_fin (pf_hm hr hn hwh (pf_a6 hn h2) (pf_a7 (hd 0 x hx))) rfl
end K04
/-! # K04D -/
set_option Elab.async false
set_option linter.all false
set_option maxRecDepth 100000
set_option maxHeartbeats 4000000
/-! k04, the plain law: names. -/
namespace K04
open PySem L2 Vs
def isI (x : Dt) : Bool := isT "int" x && !isT "bool" x
theorem is_int_ok (x : Dt) : f_is_int [.d x] = .ok (.d (.bool (isI x))) [.un] := by
  cases h : isT "int" x <;> simp [f_is_int, mkFn, m_is_int, val_v, keep_v, sRet, sSeq, sIf, sSet, putV, setS, sNil, sBrk, sCnt, sExp, sUnp, unp, setAll, sAdd, sApp, sExt, sPut, mutL, sIns, sRetN, sRaise, rtV, endF, cutR, cut1, eAnd, eOr, eNot, eIf, e1, e2, eB, eC, eVar, eTup, eLst, aNil, aCons, vals, keeps, isB, tB1, tAndM, tOrM, tNotM, eSl, part, eCall, callM, prep, slotsOf, slotOf, refsOf, goBack, backs, unref, eDict, eM, gAdd, Vs.gSub, gDiv, gMod, gPow, gNeg, gCmp, gLt, gLe, gGt, gGe, gIsN, gNotN, isNone, gIsi, gIsi2, gLen, gList, gTuple, gMin, gMax, gInt, gAbs, iSeq, iEn, iCh, sFor, tgN, tgU, isI, h]
theorem whole_ok (x : Dt) : f__law_is_whole [.d x] = .ok (.d (.bool (isI x))) [.un] := by
  cases h : isT "int" x <;> simp [f__law_is_whole, mkFn, m__law_is_whole, val_v, keep_v, sRet, sSeq, sIf, sSet, putV, setS, sNil, sBrk, sCnt, sExp, sUnp, unp, setAll, sAdd, sApp, sExt, sPut, mutL, sIns, sRetN, sRaise, rtV, endF, cutR, cut1, eAnd, eOr, eNot, eIf, e1, e2, eB, eC, eVar, eTup, eLst, aNil, aCons, vals, keeps, isB, tB1, tAndM, tOrM, tNotM, eSl, part, eCall, callM, prep, slotsOf, slotOf, refsOf, goBack, backs, unref, eDict, eM, gAdd, Vs.gSub, gDiv, gMod, gPow, gNeg, gCmp, gLt, gLe, gGt, gGe, gIsN, gNotN, isNone, gIsi, gIsi2, gLen, gList, gTuple, gMin, gMax, gInt, gAbs, iSeq, iEn, iCh, sFor, tgN, tgU, isI, h]
theorem isI_int {x : Dt} (h : isI x = true) : ∃ i, x = .int i := by
  cases x with
  | int i => exact ⟨i, rfl⟩
  | _ => cases h
def smallS : Str := "abcdefghijklmnopqrstuvwxyz"
def signS : Str := "abcdefghijklmnopqrstuvwxyz0123456789"
def hdOk (l : List Nat) : Bool := match l with
  | c :: _ => decide (c ∈ smallS.cps.toList)
  | [] => false
def isNm : Dt → Bool
  | .str z => decide (1 ≤ z.length) && decide (z.length ≤ 12) && hdOk z.cps.toList && z.cps.toList.all fun c => decide (c ∈ signS.cps.toList)
  | _ => false
def test3 : M Bool := tOrM (tB1 (e2 gLt (eB gLen (aCons (eVar 0) aNil)) (eC (.int 1)))) (tOrM (tB1 (e2 gGt (eB gLen (aCons (eVar 0) aNil)) (eC (.int 12)))) (tB1 (e2 gNotIn (e2 gIx (eVar 0) (eC (.int 0))) (eC (.str smallS)))))
theorem ix0 {z : Str} {c : Nat} {cs : List Nat} (h : z.cps.toList = c :: cs) (hz : okS z = true) : gIx (.str z) (.int 0) = some (.d (.str ⟨#[c]⟩)) := by
  show (if okS z = true then (L2.atI z.cps.toList 0).map (fun c => Rv.d (.str ⟨#[c]⟩)) else none) = _
  have e : L2.atI z.cps.toList ((0 : Nat) : Int) = some c := atI_nat (by rw [h]; rfl)
  rw [if_pos hz, show (0 : Int) = ((0 : Nat) : Int) from rfl, e]
  rfl
theorem len_list {z : Str} : z.cps.toList.length = z.length := by simp [Str.length]
theorem notIn1 {c : Nat} {z : Str} : gNotIn (.str ⟨#[c]⟩) (.str z) = some (.d (.bool (!decide (c ∈ z.cps.toList)))) := rfl
theorem in1 {c : Nat} {z : Str} : gIn (.str ⟨#[c]⟩) (.str z) = some (.d (.bool (decide (c ∈ z.cps.toList)))) := rfl
theorem test3_ok {z : Str} (hz : okS z = true) : test3 [.d (.str z), .un] = .ok (!(decide (1 ≤ z.length) && decide (z.length ≤ 12) && hdOk z.cps.toList)) [.d (.str z), .un] := by
  have hl : eB gLen (aCons (eVar 0) aNil) [.d (.str z), .un] = .ok (.d (.int z.length)) [.d (.str z), .un] := by simp [val_v, keep_v, sRet, sSeq, sIf, sSet, putV, setS, sNil, sBrk, sCnt, sExp, sUnp, unp, setAll, sAdd, sApp, sExt, sPut, mutL, sIns, sRetN, sRaise, rtV, endF, cutR, cut1, eAnd, eOr, eNot, eIf, e1, e2, eB, eC, eVar, eTup, eLst, aNil, aCons, vals, keeps, isB, tB1, tAndM, tOrM, tNotM, eSl, part, eCall, callM, prep, slotsOf, slotOf, refsOf, goBack, backs, unref, eDict, eM, gAdd, Vs.gSub, gDiv, gMod, gPow, gNeg, gCmp, gLt, gLe, gGt, gGe, gIsN, gNotN, isNone, gIsi, gIsi2, gLen, gList, gTuple, gMin, gMax, gInt, gAbs, iSeq, iEn, iCh, sFor, tgN, tgU, hz]
  have t1 : tB1 (e2 gLt (eB gLen (aCons (eVar 0) aNil)) (eC (.int 1))) [.d (.str z), .un] = .ok (decide ((z.length : Int) < 1)) [.d (.str z), .un] := by
    have q := e2_go (mb := eC (.int 1)) (g := gLt) hl rfl rfl rfl rfl
    unfold tB1
    rw [bnd_ap, q]
    rfl
  have t2 : tB1 (e2 gGt (eB gLen (aCons (eVar 0) aNil)) (eC (.int 12))) [.d (.str z), .un] = .ok (decide ((12 : Int) < z.length)) [.d (.str z), .un] := by
    have q := e2_go (mb := eC (.int 12)) (g := gGt) hl rfl rfl rfl rfl
    unfold tB1
    rw [bnd_ap, q]
    rfl
  unfold test3 tOrM
  rw [bnd_ap, t1, go_ok]
  by_cases h1 : (z.length : Int) < 1
  · rw [decide_eq_true h1, if_pos rfl, decide_eq_false (show ¬ 1 ≤ z.length by omega)]
    rfl
  · rw [decide_eq_false h1, if_neg Bool.false_ne_true, bnd_ap, t2, go_ok]
    by_cases h2 : (12 : Int) < z.length
    · rw [decide_eq_true h2, if_pos rfl, decide_eq_false (show ¬ z.length ≤ 12 by omega)]
      simp
    · rw [decide_eq_false h2, if_neg Bool.false_ne_true]
      cases hc : z.cps.toList with
      | nil =>
        have := len_list (z := z)
        rw [hc] at this
        simp at this
        omega
      | cons c cs =>
        have q1 := e2_go (ma := eVar 0) (mb := eC (.int 0)) (g := gIx) (E := [.d (.str z), .un]) (r1 := .v 0) (r2 := .d (.int 0)) (x := .str z) (y := .int 0) rfl rfl rfl rfl (ix0 hc hz)
        have q2 := e2_go (mb := eC (.str smallS)) (g := gNotIn) q1 rfl rfl rfl notIn1
        unfold tB1
        rw [bnd_ap, q2]
        rw [decide_eq_true (show 1 ≤ z.length by omega), decide_eq_true (show z.length ≤ 12 by omega)]
        rfl
theorem chars_len (z : Str) : (chars z).length = z.length := by simp [chars, Str.length]
theorem bools_map {α : Type} (f : α → Bool) : ∀ l : List α, bools (l.map fun a => PyData.bool (f a)) = some (l.map f)
  | [] => rfl
  | a :: l => by
    show (bools (l.map fun a => PyData.bool (f a))).map (f a :: ·) = _
    rw [bools_map f l]
    rfl
def sgn (x : Dt) : Bool := match x with
  | .str a => match chr1 a with
    | some c => decide (c ∈ signS.cps.toList)
    | none => false
  | _ => false
theorem comp_all {z : Str} (hz : z.length ≤ 100000) : eLc [1] (tgN 1) (ret true) (e2 gIn (eVar 1) (eC (.str signS))) (iCh (eVar 0)) [.d (.str z), .un] = .ok (.o (z.cps.toList.map fun c => .bool (decide (c ∈ signS.cps.toList)))) [.d (.str z), .un] := by
  have h := eLc_pure (v := 1) (mt := Vs.ret true) (me := e2 gIn (eVar 1) (eC (.str signS))) (mi := iCh (eVar 0)) (E := [.d (.str z), .un]) (E0 := [.d (.str z), .un]) (xs := chars z) (s := .un) (fun _ => true) (fun x => .bool (sgn x)) rfl rfl (.inl rfl) (by rw [chars_len]; exact hz) (fun x hx => rfl) (fun x hx _ => by
    obtain ⟨c, hc, rfl⟩ := List.mem_map.mp hx
    refine ⟨.d (.bool (decide (c ∈ signS.cps.toList))), ?_, rfl⟩
    exact e2_go (ma := eVar 1) (mb := eC (.str signS)) (g := gIn) (r1 := .v 1) (r2 := .d (.str signS)) (x := .str ⟨#[c]⟩) (y := .str signS) rfl rfl rfl rfl in1)
  rw [h]
  congr 2
  unfold chars
  rw [List.filter_eq_self.mpr (fun _ _ => rfl), List.map_map]
  rfl
theorem comp_not {z : Str} (hz : z.length ≤ 100000) : eLc [1] (tgN 1) (tB1 (e2 gNotIn (eVar 1) (eC (.str signS)))) (eVar 1) (iCh (eVar 0)) [.d (.str z), .un] = .ok (.o ((chars z).filter fun x => !sgn x)) [.d (.str z), .un] := by
  have h := eLc_pure (v := 1) (mt := tB1 (e2 gNotIn (eVar 1) (eC (.str signS)))) (me := eVar 1) (mi := iCh (eVar 0)) (E := [.d (.str z), .un]) (E0 := [.d (.str z), .un]) (xs := chars z) (s := .un) (fun x => !sgn x) id rfl rfl (.inl rfl) (by rw [chars_len]; exact hz) (fun x hx => by
    obtain ⟨c, hc, rfl⟩ := List.mem_map.mp hx
    have q := e2_go (ma := eVar 1) (mb := eC (.str signS)) (g := gNotIn) (E := [.d (.str z), .d (.str ⟨#[c]⟩)]) (r1 := .v 1) (r2 := .d (.str signS)) (x := .str ⟨#[c]⟩) (y := .str signS) rfl rfl rfl rfl notIn1
    show tB1 _ [.d (.str z), .d (.str ⟨#[c]⟩)] = _
    unfold tB1
    rw [bnd_ap, q]
    rfl) (fun x hx _ => ⟨.v 1, rfl, rfl⟩)
  rw [h, List.map_id]
theorem mkFn_rt {n N : Nat} {m : M Fl} {S E E0 : En} {y : Dt} (hS : S.length = n) (h0 : S ++ List.replicate (N - n) .un = E0) (hm : m E0 = .ok (.rt (.d y)) E) : mkFn n N m S = .ok (.d y) (cutR S E) := by
  unfold mkFn
  rw [if_pos hS, h0, hm]
  rfl
theorem mkFn_ex {n N c : Nat} {m : M Fl} {S E E0 : En} {y : Dt} (hS : S.length = n) (h0 : S ++ List.replicate (N - n) .un = E0) (hm : m E0 = .ex c y E) : mkFn n N m S = .ex c y (cutR S E) := by
  unfold mkFn
  rw [if_pos hS, h0, hm]
  rfl
theorem is_name_ok {x : Dt} (hx : ∀ z, x = .str z → z.length ≤ 100000) : f_is_name [.d x] = .ok (.d (.bool (isNm x))) [.un] := by
  by_cases hs : ∃ z, x = .str z
  · obtain ⟨z, rfl⟩ := hs
    have hz := hx z rfl
    have hok : okS z = true := decide_eq_true (by omega)
    have a1 : sIf (tNotM (tB1 (e1 (gIsi "str") (eVar 0)))) (sRet (eC (.bool false))) sNil [.d (.str z), .un] = .ok .nx [.d (.str z), .un] := rfl
    have a2 := test3_ok (z := z) hok
    cases hb : (decide (1 ≤ z.length) && decide (z.length ≤ 12) && hdOk z.cps.toList) with
    | false =>
      have hn : isNm (.str z) = false := by simp only [isNm, hb, Bool.false_and]
      rw [hb] at a2
      have a3 : sIf test3 (sRet (eC (.bool false))) sNil [.d (.str z), .un] = .ok (.rt (.d (.bool false))) [.d (.str z), .un] := by
        unfold sIf
        rw [bnd_ap, a2]
        rfl
      rw [hn]
      refine mkFn_rt (E0 := [.d (.str z), .un]) (E := [.d (.str z), .un]) rfl rfl ?_
      unfold m_is_name
      rw [seq_nx a1]
      exact seq_rt a3
    | true =>
      rw [hb] at a2
      have a3 : sIf test3 (sRet (eC (.bool false))) sNil [.d (.str z), .un] = .ok .nx [.d (.str z), .un] := by
        unfold sIf
        rw [bnd_ap, a2]
        rfl
      have a4 : eB gAllB (aCons (eLc [1] (tgN 1) (ret true) (e2 gIn (eVar 1) (eC (.str signS))) (iCh (eVar 0))) aNil) [.d (.str z), .un] = .ok (.d (.bool (z.cps.toList.all fun c => decide (c ∈ signS.cps.toList)))) [.d (.str z), .un] := by
        have e : aCons (eLc [1] (tgN 1) (ret true) (e2 gIn (eVar 1) (eC (.str signS))) (iCh (eVar 0))) aNil [.d (.str z), .un] = .ok [.d (.list (z.cps.toList.map fun c => .bool (decide (c ∈ signS.cps.toList))))] [.d (.str z), .un] := by
          unfold aCons
          rw [bnd_ap, comp_all hz]
          rfl
        have g : gAllB [.list (z.cps.toList.map fun c => .bool (decide (c ∈ signS.cps.toList)))] = some (.d (.bool (z.cps.toList.all fun c => decide (c ∈ signS.cps.toList)))) := by
          show (bools _).map _ = _
          rw [bools_map]
          show some (Rv.d (.bool _)) = _
          rw [List.all_map]
          rfl
        unfold eB
        rw [bnd_ap, e]
        show (opt (gAllB _)) _ = _
        rw [g]
        rfl
      have hn : isNm (.str z) = z.cps.toList.all fun c => decide (c ∈ signS.cps.toList) := by simp only [isNm, hb, Bool.true_and]
      rw [hn]
      refine mkFn_rt (E0 := [.d (.str z), .un]) (E := [.d (.str z), .un]) rfl rfl ?_
      unfold m_is_name
      rw [seq_nx a1]
      refine (seq_nx a3).trans ?_
      unfold sRet
      rw [bnd_ap]
      refine (congrArg (fun r => Rs.go r rtV) a4).trans rfl
  · have h1 : isT "str" x = false := by
      cases x with
      | str z => exact absurd ⟨z, rfl⟩ hs
      | _ => rfl
    have h2 : isNm x = false := by
      cases x with
      | str z => exact absurd ⟨z, rfl⟩ hs
      | _ => rfl
    rw [h2]
    refine mkFn_rt (E0 := [.d x, .un]) (E := [.d x, .un]) rfl rfl ?_
    unfold m_is_name
    refine seq_rt ?_
    simp [val_v, keep_v, sRet, sSeq, sIf, sSet, putV, setS, sNil, sBrk, sCnt, sExp, sUnp, unp, setAll, sAdd, sApp, sExt, sPut, mutL, sIns, sRetN, sRaise, rtV, endF, cutR, cut1, eAnd, eOr, eNot, eIf, e1, e2, eB, eC, eVar, eTup, eLst, aNil, aCons, vals, keeps, isB, tB1, tAndM, tOrM, tNotM, eSl, part, eCall, callM, prep, slotsOf, slotOf, refsOf, goBack, backs, unref, eDict, eM, gAdd, Vs.gSub, gDiv, gMod, gPow, gNeg, gCmp, gLt, gLe, gGt, gGe, gIsN, gNotN, isNone, gIsi, gIsi2, gLen, gList, gTuple, gMin, gMax, gInt, gAbs, iSeq, iEn, iCh, sFor, tgN, tgU, h1]
theorem filter_none {α : Type} {l : List α} {p : α → Bool} : decide (((l.filter fun x => !p x).length : Int) = 0) = l.all p := by
  rw [Bool.eq_iff_iff, decide_eq_true_eq, List.all_eq_true]
  constructor
  · intro h x hx
    have h0 : (l.filter fun x => !p x) = [] := List.eq_nil_of_length_eq_zero (by omega)
    have := List.filter_eq_nil_iff.mp h0 x hx
    simpa using this
  · intro h
    have h0 : (l.filter fun x => !p x) = [] := List.filter_eq_nil_iff.mpr fun x hx => by simp [h x hx]
    rw [h0]
    rfl
theorem named_ok {x : Dt} (hx : ∀ z, x = .str z → z.length ≤ 100000) : f__law_named [.d x] = .ok (.d (.bool (isNm x))) [.un] := by
  by_cases hs : ∃ z, x = .str z
  · obtain ⟨z, rfl⟩ := hs
    have hz := hx z rfl
    have hok : okS z = true := decide_eq_true (by omega)
    have a1 : sIf (tNotM (tB1 (e1 (gIsi "str") (eVar 0)))) (sRet (eC (.bool false))) sNil [.d (.str z), .un] = .ok .nx [.d (.str z), .un] := rfl
    have hl : eB gLen (aCons (eVar 0) aNil) [.d (.str z), .un] = .ok (.d (.int z.length)) [.d (.str z), .un] := by simp [val_v, keep_v, sRet, sSeq, sIf, sSet, putV, setS, sNil, sBrk, sCnt, sExp, sUnp, unp, setAll, sAdd, sApp, sExt, sPut, mutL, sIns, sRetN, sRaise, rtV, endF, cutR, cut1, eAnd, eOr, eNot, eIf, e1, e2, eB, eC, eVar, eTup, eLst, aNil, aCons, vals, keeps, isB, tB1, tAndM, tOrM, tNotM, eSl, part, eCall, callM, prep, slotsOf, slotOf, refsOf, goBack, backs, unref, eDict, eM, gAdd, Vs.gSub, gDiv, gMod, gPow, gNeg, gCmp, gLt, gLe, gGt, gGe, gIsN, gNotN, isNone, gIsi, gIsi2, gLen, gList, gTuple, gMin, gMax, gInt, gAbs, iSeq, iEn, iCh, sFor, tgN, tgU, hok]
    have t0 : tB1 (e2 gEq (eB gLen (aCons (eVar 0) aNil)) (eC (.int 0))) [.d (.str z), .un] = .ok (decide ((z.length : Int) = 0)) [.d (.str z), .un] := by
      have q := e2_go (mb := eC (.int 0)) (g := gEq) hl rfl rfl rfl rfl
      unfold tB1
      rw [bnd_ap, q]
      rfl
    have t3 := test3_ok (z := z) hok
    -- the law's own test: the same
    have a2 : tOrM (tB1 (e2 gEq (eB gLen (aCons (eVar 0) aNil)) (eC (.int 0)))) (tOrM (tB1 (e2 gGt (eB gLen (aCons (eVar 0) aNil)) (eC (.int 12)))) (tB1 (e2 gNotIn (e2 gIx (eVar 0) (eC (.int 0))) (eC (.str smallS))))) [.d (.str z), .un] =
        .ok (!(decide (1 ≤ z.length) && decide (z.length ≤ 12) && hdOk z.cps.toList)) [.d (.str z), .un] := by
      have t1 : tB1 (e2 gLt (eB gLen (aCons (eVar 0) aNil)) (eC (.int 1))) [.d (.str z), .un] = .ok (decide ((z.length : Int) < 1)) [.d (.str z), .un] := by
        have q := e2_go (mb := eC (.int 1)) (g := gLt) hl rfl rfl rfl rfl
        unfold tB1
        rw [bnd_ap, q]
        rfl
      unfold test3 tOrM at t3
      rw [bnd_ap, t1] at t3
      unfold tOrM
      rw [bnd_ap, t0]
      have e : decide ((z.length : Int) = 0) = decide ((z.length : Int) < 1) := by
        by_cases h : (z.length : Int) = 0
        · rw [decide_eq_true h, decide_eq_true (by omega)]
        · rw [decide_eq_false h, decide_eq_false (by omega)]
      rw [e]
      exact t3
    cases hb : (decide (1 ≤ z.length) && decide (z.length ≤ 12) && hdOk z.cps.toList) with
    | false =>
      have hn : isNm (.str z) = false := by simp only [isNm, hb, Bool.false_and]
      rw [hb] at a2
      rw [hn]
      refine mkFn_rt (E0 := [.d (.str z), .un]) (E := [.d (.str z), .un]) rfl rfl ?_
      unfold m__law_named
      rw [seq_nx a1]
      refine seq_rt ?_
      unfold sIf
      rw [bnd_ap]
      refine (congrArg (fun r => Rs.go r _) a2).trans rfl
    | true =>
      rw [hb] at a2
      have a4 : e2 gEq (eB gLen (aCons (eLc [1] (tgN 1) (tB1 (e2 gNotIn (eVar 1) (eC (.str signS)))) (eVar 1) (iCh (eVar 0))) aNil)) (eC (.int 0)) [.d (.str z), .un] = .ok (.d (.bool (decide ((((chars z).filter fun x => !sgn x).length : Int) = 0)))) [.d (.str z), .un] := by
        have e : aCons (eLc [1] (tgN 1) (tB1 (e2 gNotIn (eVar 1) (eC (.str signS)))) (eVar 1) (iCh (eVar 0))) aNil [.d (.str z), .un] = .ok [.d (.list ((chars z).filter fun x => !sgn x))] [.d (.str z), .un] := by
          unfold aCons
          rw [bnd_ap, comp_not hz]
          rfl
        have e2' : eB gLen (aCons (eLc [1] (tgN 1) (tB1 (e2 gNotIn (eVar 1) (eC (.str signS)))) (eVar 1) (iCh (eVar 0))) aNil) [.d (.str z), .un] = .ok (.d (.int ((chars z).filter fun x => !sgn x).length)) [.d (.str z), .un] := by
          unfold eB
          rw [bnd_ap, e]
          rfl
        exact e2_go (mb := eC (.int 0)) (g := gEq) e2' rfl rfl rfl rfl
      have hn : isNm (.str z) = decide ((((chars z).filter fun x => !sgn x).length : Int) = 0) := by
        rw [filter_none]
        simp only [isNm, hb, Bool.true_and]
        unfold chars
        rw [List.all_map]
        rfl
      rw [hn]
      refine mkFn_rt (E0 := [.d (.str z), .un]) (E := [.d (.str z), .un]) rfl rfl ?_
      unfold m__law_named
      rw [seq_nx a1]
      refine (seq_nx (m := sIf _ _ _) (E1 := [.d (.str z), .un]) ?_).trans ?_
      · unfold sIf
        rw [bnd_ap]
        refine (congrArg (fun r => Rs.go r _) a2).trans rfl
      · unfold sRet
        rw [bnd_ap]
        refine (congrArg (fun r => Rs.go r rtV) a4).trans rfl
  · have h1 : isT "str" x = false := by
      cases x with
      | str z => exact absurd ⟨z, rfl⟩ hs
      | _ => rfl
    have h2 : isNm x = false := by
      cases x with
      | str z => exact absurd ⟨z, rfl⟩ hs
      | _ => rfl
    rw [h2]
    refine mkFn_rt (E0 := [.d x, .un]) (E := [.d x, .un]) rfl rfl ?_
    unfold m__law_named
    refine seq_rt ?_
    simp [val_v, keep_v, sRet, sSeq, sIf, sSet, putV, setS, sNil, sBrk, sCnt, sExp, sUnp, unp, setAll, sAdd, sApp, sExt, sPut, mutL, sIns, sRetN, sRaise, rtV, endF, cutR, cut1, eAnd, eOr, eNot, eIf, e1, e2, eB, eC, eVar, eTup, eLst, aNil, aCons, vals, keeps, isB, tB1, tAndM, tOrM, tNotM, eSl, part, eCall, callM, prep, slotsOf, slotOf, refsOf, goBack, backs, unref, eDict, eM, gAdd, Vs.gSub, gDiv, gMod, gPow, gNeg, gCmp, gLt, gLe, gGt, gGe, gIsN, gNotN, isNone, gIsi, gIsi2, gLen, gList, gTuple, gMin, gMax, gInt, gAbs, iSeq, iEn, iCh, sFor, tgN, tgU, h1]
end K04
/-! # K04E -/
set_option Elab.async false
set_option linter.all false
set_option maxRecDepth 100000
set_option maxHeartbeats 4000000
/-! k04, the plain law: numbers. -/
namespace K04
open PySem L2 Vs
theorem cn_not {x : Dt} {l : Int} (hz : tot x ≤ 100000) (h : isI x = false) : f_check_number [.d x, .d (.int l)] = .ex 0 (pf x) [.un, .un] := by
  refine mkFn_ex (E0 := [.d x, .d (.int l)]) (E := [.d x, .d (.int l)]) rfl rfl ?_
  unfold m_check_number
  refine seq_ex ?_
  simp [val_v, keep_v, sRet, sSeq, sIf, sSet, putV, setS, sNil, sBrk, sCnt, sExp, sUnp, unp, setAll, sAdd, sApp, sExt, sPut, mutL, sIns, sRetN, sRaise, rtV, endF, cutR, cut1, eAnd, eOr, eNot, eIf, e1, e2, eB, eC, eVar, eTup, eLst, aNil, aCons, vals, keeps, isB, tB1, tAndM, tOrM, tNotM, eSl, part, eCall, callM, prep, slotsOf, slotOf, refsOf, goBack, backs, unref, eDict, eM, gAdd, Vs.gSub, gDiv, gMod, gPow, gNeg, gCmp, gLt, gLe, gGt, gGe, gIsN, gNotN, isNone, gIsi, gIsi2, gLen, gList, gTuple, gMin, gMax, gInt, gAbs, iSeq, iEn, iCh, sFor, tgN, tgU, is_int_ok, h, plain_form_ok hz]
theorem isI_i (i : Int) : isI (.int i) = true := rfl
theorem cn_low {i l : Int} (h : i < l) : f_check_number [.d (.int i), .d (.int l)] = .ex 0 (.int i) [.un, .un] := by
  refine mkFn_ex (E0 := [.d (.int i), .d (.int l)]) (E := [.d (.int i), .d (.int l)]) rfl rfl ?_
  unfold m_check_number
  rw [seq_nx (E1 := [.d (.int i), .d (.int l)]) (by simp [val_v, keep_v, sRet, sSeq, sIf, sSet, putV, setS, sNil, sBrk, sCnt, sExp, sUnp, unp, setAll, sAdd, sApp, sExt, sPut, mutL, sIns, sRetN, sRaise, rtV, endF, cutR, cut1, eAnd, eOr, eNot, eIf, e1, e2, eB, eC, eVar, eTup, eLst, aNil, aCons, vals, keeps, isB, tB1, tAndM, tOrM, tNotM, eSl, part, eCall, callM, prep, slotsOf, slotOf, refsOf, goBack, backs, unref, eDict, eM, gAdd, Vs.gSub, gDiv, gMod, gPow, gNeg, gCmp, gLt, gLe, gGt, gGe, gIsN, gNotN, isNone, gIsi, gIsi2, gLen, gList, gTuple, gMin, gMax, gInt, gAbs, iSeq, iEn, iCh, sFor, tgN, tgU, is_int_ok, isI_i])]
  refine seq_ex ?_
  simp [val_v, keep_v, sRet, sSeq, sIf, sSet, putV, setS, sNil, sBrk, sCnt, sExp, sUnp, unp, setAll, sAdd, sApp, sExt, sPut, mutL, sIns, sRetN, sRaise, rtV, endF, cutR, cut1, eAnd, eOr, eNot, eIf, e1, e2, eB, eC, eVar, eTup, eLst, aNil, aCons, vals, keeps, isB, tB1, tAndM, tOrM, tNotM, eSl, part, eCall, callM, prep, slotsOf, slotOf, refsOf, goBack, backs, unref, eDict, eM, gAdd, Vs.gSub, gDiv, gMod, gPow, gNeg, gCmp, gLt, gLe, gGt, gGe, gIsN, gNotN, isNone, gIsi, gIsi2, gLen, gList, gTuple, gMin, gMax, gInt, gAbs, iSeq, iEn, iCh, sFor, tgN, tgU, h]
theorem cn_ok {i l : Int} (h : ¬ i < l) : f_check_number [.d (.int i), .d (.int l)] = .ok (.d (.int i)) [.un, .un] := by
  refine mkFn_rt (E0 := [.d (.int i), .d (.int l)]) (E := [.d (.int i), .d (.int l)]) rfl rfl ?_
  unfold m_check_number
  rw [seq_nx (E1 := [.d (.int i), .d (.int l)]) (by simp [val_v, keep_v, sRet, sSeq, sIf, sSet, putV, setS, sNil, sBrk, sCnt, sExp, sUnp, unp, setAll, sAdd, sApp, sExt, sPut, mutL, sIns, sRetN, sRaise, rtV, endF, cutR, cut1, eAnd, eOr, eNot, eIf, e1, e2, eB, eC, eVar, eTup, eLst, aNil, aCons, vals, keeps, isB, tB1, tAndM, tOrM, tNotM, eSl, part, eCall, callM, prep, slotsOf, slotOf, refsOf, goBack, backs, unref, eDict, eM, gAdd, Vs.gSub, gDiv, gMod, gPow, gNeg, gCmp, gLt, gLe, gGt, gGe, gIsN, gNotN, isNone, gIsi, gIsi2, gLen, gList, gTuple, gMin, gMax, gInt, gAbs, iSeq, iEn, iCh, sFor, tgN, tgU, is_int_ok, isI_i])]
  rw [seq_nx (E1 := [.d (.int i), .d (.int l)]) (by simp [val_v, keep_v, sRet, sSeq, sIf, sSet, putV, setS, sNil, sBrk, sCnt, sExp, sUnp, unp, setAll, sAdd, sApp, sExt, sPut, mutL, sIns, sRetN, sRaise, rtV, endF, cutR, cut1, eAnd, eOr, eNot, eIf, e1, e2, eB, eC, eVar, eTup, eLst, aNil, aCons, vals, keeps, isB, tB1, tAndM, tOrM, tNotM, eSl, part, eCall, callM, prep, slotsOf, slotOf, refsOf, goBack, backs, unref, eDict, eM, gAdd, Vs.gSub, gDiv, gMod, gPow, gNeg, gCmp, gLt, gLe, gGt, gGe, gIsN, gNotN, isNone, gIsi, gIsi2, gLen, gList, gTuple, gMin, gMax, gInt, gAbs, iSeq, iEn, iCh, sFor, tgN, tgU, h])]
  simp [val_v, keep_v, sRet, sSeq, sIf, sSet, putV, setS, sNil, sBrk, sCnt, sExp, sUnp, unp, setAll, sAdd, sApp, sExt, sPut, mutL, sIns, sRetN, sRaise, rtV, endF, cutR, cut1, eAnd, eOr, eNot, eIf, e1, e2, eB, eC, eVar, eTup, eLst, aNil, aCons, vals, keeps, isB, tB1, tAndM, tOrM, tNotM, eSl, part, eCall, callM, prep, slotsOf, slotOf, refsOf, goBack, backs, unref, eDict, eM, gAdd, Vs.gSub, gDiv, gMod, gPow, gNeg, gCmp, gLt, gLe, gGt, gGe, gIsN, gNotN, isNone, gIsi, gIsi2, gLen, gList, gTuple, gMin, gMax, gInt, gAbs, iSeq, iEn, iCh, sFor, tgN, tgU]
theorem ck_not {x : Dt} (hz : tot x ≤ 100000) (hx : ∀ z, x = .str z → z.length ≤ 100000) (h : isNm x = false) : f_check_name [.d x] = .ex 1 (pf x) [.un] := by
  refine mkFn_ex (E0 := [.d x]) (E := [.d x]) rfl rfl ?_
  unfold m_check_name
  refine seq_ex ?_
  simp [val_v, keep_v, sRet, sSeq, sIf, sSet, putV, setS, sNil, sBrk, sCnt, sExp, sUnp, unp, setAll, sAdd, sApp, sExt, sPut, mutL, sIns, sRetN, sRaise, rtV, endF, cutR, cut1, eAnd, eOr, eNot, eIf, e1, e2, eB, eC, eVar, eTup, eLst, aNil, aCons, vals, keeps, isB, tB1, tAndM, tOrM, tNotM, eSl, part, eCall, callM, prep, slotsOf, slotOf, refsOf, goBack, backs, unref, eDict, eM, gAdd, Vs.gSub, gDiv, gMod, gPow, gNeg, gCmp, gLt, gLe, gGt, gGe, gIsN, gNotN, isNone, gIsi, gIsi2, gLen, gList, gTuple, gMin, gMax, gInt, gAbs, iSeq, iEn, iCh, sFor, tgN, tgU, is_name_ok hx, h, plain_form_ok hz]
theorem ck_ok {x : Dt} (hx : ∀ z, x = .str z → z.length ≤ 100000) (h : isNm x = true) : f_check_name [.d x] = .ok (.d x) [.un] := by
  refine mkFn_rt (E0 := [.d x]) (E := [.d x]) rfl rfl ?_
  unfold m_check_name
  rw [seq_nx (E1 := [.d x]) (by simp [val_v, keep_v, sRet, sSeq, sIf, sSet, putV, setS, sNil, sBrk, sCnt, sExp, sUnp, unp, setAll, sAdd, sApp, sExt, sPut, mutL, sIns, sRetN, sRaise, rtV, endF, cutR, cut1, eAnd, eOr, eNot, eIf, e1, e2, eB, eC, eVar, eTup, eLst, aNil, aCons, vals, keeps, isB, tB1, tAndM, tOrM, tNotM, eSl, part, eCall, callM, prep, slotsOf, slotOf, refsOf, goBack, backs, unref, eDict, eM, gAdd, Vs.gSub, gDiv, gMod, gPow, gNeg, gCmp, gLt, gLe, gGt, gGe, gIsN, gNotN, isNone, gIsi, gIsi2, gLen, gList, gTuple, gMin, gMax, gInt, gAbs, iSeq, iEn, iCh, sFor, tgN, tgU, is_name_ok hx, h])]
  simp [val_v, keep_v, sRet, sSeq, sIf, sSet, putV, setS, sNil, sBrk, sCnt, sExp, sUnp, unp, setAll, sAdd, sApp, sExt, sPut, mutL, sIns, sRetN, sRaise, rtV, endF, cutR, cut1, eAnd, eOr, eNot, eIf, e1, e2, eB, eC, eVar, eTup, eLst, aNil, aCons, vals, keeps, isB, tB1, tAndM, tOrM, tNotM, eSl, part, eCall, callM, prep, slotsOf, slotOf, refsOf, goBack, backs, unref, eDict, eM, gAdd, Vs.gSub, gDiv, gMod, gPow, gNeg, gCmp, gLt, gLe, gGt, gGe, gIsN, gNotN, isNone, gIsi, gIsi2, gLen, gList, gTuple, gMin, gMax, gInt, gAbs, iSeq, iEn, iCh, sFor, tgN, tgU]
/-- no number from nought on -/
def bad : Dt → Bool
  | .int i => decide (i < 0)
  | x => !isI x
theorem cn_bad {x : Dt} (hz : tot x ≤ 100000) (h : bad x = true) : f_check_number [.d x, .d (.int 0)] = .ex 0 (pf x) [.un, .un] := by
  cases x with
  | int i => exact cn_low (of_decide_eq_true h)
  | _ => exact cn_not hz (by simpa [bad] using h)
theorem ch_bad1 {x : Dt} {k : Int} (hz : tot x ≤ 100000) (h : bad x = true) : f_choose [.d x, .d (.int k)] = .ex 0 (pf x) [.un, .un] := by
  refine mkFn_ex (E0 := [.d x, .d (.int k), .un, .un]) (E := [.d x, .d (.int k), .un, .un]) rfl rfl ?_
  unfold m_choose
  refine seq_ex ?_
  simp [val_v, keep_v, sRet, sSeq, sIf, sSet, putV, setS, sNil, sBrk, sCnt, sExp, sUnp, unp, setAll, sAdd, sApp, sExt, sPut, mutL, sIns, sRetN, sRaise, rtV, endF, cutR, cut1, eAnd, eOr, eNot, eIf, e1, e2, eB, eC, eVar, eTup, eLst, aNil, aCons, vals, keeps, isB, tB1, tAndM, tOrM, tNotM, eSl, part, eCall, callM, prep, slotsOf, slotOf, refsOf, goBack, backs, unref, eDict, eM, gAdd, Vs.gSub, gDiv, gMod, gPow, gNeg, gCmp, gLt, gLe, gGt, gGe, gIsN, gNotN, isNone, gIsi, gIsi2, gLen, gList, gTuple, gMin, gMax, gInt, gAbs, iSeq, iEn, iCh, sFor, tgN, tgU, cn_bad hz h]
theorem ch_bad2 {x : Dt} {k : Int} (hz : tot x ≤ 100000) (hk : 0 ≤ k) (h : bad x = true) : f_choose [.d (.int k), .d x] = .ex 0 (pf x) [.un, .un] := by
  refine mkFn_ex (E0 := [.d (.int k), .d x, .un, .un]) (E := [.d (.int k), .d x, .un, .un]) rfl rfl ?_
  unfold m_choose
  rw [seq_nx (E1 := [.d (.int k), .d x, .un, .un]) (by simp [val_v, keep_v, sRet, sSeq, sIf, sSet, putV, setS, sNil, sBrk, sCnt, sExp, sUnp, unp, setAll, sAdd, sApp, sExt, sPut, mutL, sIns, sRetN, sRaise, rtV, endF, cutR, cut1, eAnd, eOr, eNot, eIf, e1, e2, eB, eC, eVar, eTup, eLst, aNil, aCons, vals, keeps, isB, tB1, tAndM, tOrM, tNotM, eSl, part, eCall, callM, prep, slotsOf, slotOf, refsOf, goBack, backs, unref, eDict, eM, gAdd, Vs.gSub, gDiv, gMod, gPow, gNeg, gCmp, gLt, gLe, gGt, gGe, gIsN, gNotN, isNone, gIsi, gIsi2, gLen, gList, gTuple, gMin, gMax, gInt, gAbs, iSeq, iEn, iCh, sFor, tgN, tgU, cn_ok (show ¬ k < 0 by omega)])]
  refine seq_ex ?_
  simp [val_v, keep_v, sRet, sSeq, sIf, sSet, putV, setS, sNil, sBrk, sCnt, sExp, sUnp, unp, setAll, sAdd, sApp, sExt, sPut, mutL, sIns, sRetN, sRaise, rtV, endF, cutR, cut1, eAnd, eOr, eNot, eIf, e1, e2, eB, eC, eVar, eTup, eLst, aNil, aCons, vals, keeps, isB, tB1, tAndM, tOrM, tNotM, eSl, part, eCall, callM, prep, slotsOf, slotOf, refsOf, goBack, backs, unref, eDict, eM, gAdd, Vs.gSub, gDiv, gMod, gPow, gNeg, gCmp, gLt, gLe, gGt, gGe, gIsN, gNotN, isNone, gIsi, gIsi2, gLen, gList, gTuple, gMin, gMax, gInt, gAbs, iSeq, iEn, iCh, sFor, tgN, tgU, cn_bad hz h]
theorem log_lt {i : Int} {k : Nat} (h0 : 0 ≤ i) (h : i < 2 ^ k) (hk : 0 < k) : i.natAbs.log2 < k := by
  have h1 : i.natAbs < 2 ^ k := by
    have e : ((i.natAbs : Nat) : Int) = i := Int.natAbs_of_nonneg h0
    have : ((i.natAbs : Nat) : Int) < ((2 ^ k : Nat) : Int) := by
      rw [e]
      have : ((2 ^ k : Nat) : Int) = 2 ^ k := by norm_cast
      rw [this]
      exact h
    exact_mod_cast this
  by_cases hz : i.natAbs = 0
  · rw [hz]; simpa using hk
  · exact (Nat.log2_lt hz).mpr h1
end K04
/-! # K04F -/
set_option Elab.async false
set_option linter.all false
set_option maxRecDepth 100000
set_option maxHeartbeats 4000000
/-! k04, the plain law: choose with two. -/
namespace K04
open PySem L2 Vs
def bodyC : M Fl := sSet 2 (e2 gDiv (e2 gMul (eVar 2) (e2 Vs.gSub (eVar 0) (eVar 3))) (e2 gAdd (eVar 3) (eC (.int 1))))
theorem gMul_ok {i j : Int} (h : mulOk i j = true) : gMul (.int i) (.int j) = some (.d (.int (i * j))) := by
  simp only [gMul]
  rw [if_pos h]
theorem gDiv_ok {i j : Int} (h : 0 < j) (h2 : j.natAbs.log2 < 9000) : gDiv (.int i) (.int j) = some (.d (.int (i / j))) := by
  simp only [gDiv]
  rw [if_pos ⟨h, h2⟩]
theorem bodyC_ok {n k t s : Int} (h : mulOk t (n - s) = true) (h1 : 0 < s + 1) (h2 : (s + 1).natAbs.log2 < 9000) :
    bodyC [.d (.int n), .d (.int k), .d (.int t), .d (.int s)] = .ok .nx [.d (.int n), .d (.int k), .d (.int (t * (n - s) / (s + 1))), .d (.int s)] := by
  have q1 := e2_go (ma := eVar 0) (mb := eVar 3) (g := Vs.gSub) (E := [.d (.int n), .d (.int k), .d (.int t), .d (.int s)]) (r1 := .v 0) (r2 := .v 3) (x := .int n) (y := .int s) rfl rfl rfl rfl rfl
  have q2 := e2_go (ma := eVar 2) (g := gMul) (r1 := .v 2) (x := .int t) (y := .int (n - s)) rfl q1 rfl rfl (gMul_ok h)
  have q3 := e2_go (ma := eVar 3) (mb := eC (.int 1)) (g := gAdd) (E := [.d (.int n), .d (.int k), .d (.int t), .d (.int s)]) (r1 := .v 3) (r2 := .d (.int 1)) (x := .int s) (y := .int 1) rfl rfl rfl rfl rfl
  have q4 := e2_go (g := gDiv) q2 q3 rfl rfl (gDiv_ok h1 h2)
  unfold bodyC sSet
  rw [bnd_ap, q4]
  rfl
theorem mulOk_1 (j : Int) : mulOk 1 j = true := by
  unfold mulOk
  rw [show decide (-(2 ^ 64) < (1 : Int) ∧ (1 : Int) < 2 ^ 64) = true by decide]
  rfl
theorem mulOk_log {i j : Int} (h1 : i.natAbs.log2 < 1000) (h2 : j.natAbs.log2 < 1000) : mulOk i j = true := by
  unfold mulOk
  rw [decide_eq_true (show i.natAbs.log2 + j.natAbs.log2 < 1000000 by omega), Bool.or_true]
theorem choose2 {n : Int} (h0 : 0 ≤ n) (hn : n < 10 ^ 30) : f_choose [.d (.int n), .d (.int 2)] = .ok (.d (.int (n * (n - 1) / 2))) [.un, .un] := by
  have c1 : sExp (eCall f_check_number [false, false] (aCons (eVar 0) (aCons (eC (.int 0)) aNil))) [.d (.int n), .d (.int 2), .un, .un] = .ok .nx [.d (.int n), .d (.int 2), .un, .un] := by
    simp [val_v, keep_v, sRet, sSeq, sIf, sSet, putV, setS, sNil, sBrk, sCnt, sExp, sUnp, unp, setAll, sAdd, sApp, sExt, sPut, mutL, sIns, sRetN, sRaise, rtV, endF, cutR, cut1, eAnd, eOr, eNot, eIf, e1, e2, eB, eC, eVar, eTup, eLst, aNil, aCons, vals, keeps, isB, tB1, tAndM, tOrM, tNotM, eSl, part, eCall, callM, prep, slotsOf, slotOf, refsOf, goBack, backs, unref, eDict, eM, gAdd, Vs.gSub, gDiv, gMod, gPow, gNeg, gCmp, gLt, gLe, gGt, gGe, gIsN, gNotN, isNone, gIsi, gIsi2, gLen, gList, gTuple, gMin, gMax, gInt, gAbs, iSeq, iEn, iCh, sFor, tgN, tgU, cn_ok (show ¬ n < 0 by omega)]
  have c2 : sExp (eCall f_check_number [false, false] (aCons (eVar 1) (aCons (eC (.int 0)) aNil))) [.d (.int n), .d (.int 2), .un, .un] = .ok .nx [.d (.int n), .d (.int 2), .un, .un] := by
    simp [val_v, keep_v, sRet, sSeq, sIf, sSet, putV, setS, sNil, sBrk, sCnt, sExp, sUnp, unp, setAll, sAdd, sApp, sExt, sPut, mutL, sIns, sRetN, sRaise, rtV, endF, cutR, cut1, eAnd, eOr, eNot, eIf, e1, e2, eB, eC, eVar, eTup, eLst, aNil, aCons, vals, keeps, isB, tB1, tAndM, tOrM, tNotM, eSl, part, eCall, callM, prep, slotsOf, slotOf, refsOf, goBack, backs, unref, eDict, eM, gAdd, Vs.gSub, gDiv, gMod, gPow, gNeg, gCmp, gLt, gLe, gGt, gGe, gIsN, gNotN, isNone, gIsi, gIsi2, gLen, gList, gTuple, gMin, gMax, gInt, gAbs, iSeq, iEn, iCh, sFor, tgN, tgU, cn_ok (show ¬ (2 : Int) < 0 by omega)]
  by_cases h2 : n < 2
  · have e : n * (n - 1) / 2 = 0 := by
      have : n = 0 ∨ n = 1 := by omega
      rcases this with rfl | rfl <;> decide
    rw [e]
    refine mkFn_rt (E0 := [.d (.int n), .d (.int 2), .un, .un]) (E := [.d (.int n), .d (.int 2), .un, .un]) rfl rfl ?_
    unfold m_choose
    rw [seq_nx c1, seq_nx c2]
    refine seq_rt ?_
    simp [val_v, keep_v, sRet, sSeq, sIf, sSet, putV, setS, sNil, sBrk, sCnt, sExp, sUnp, unp, setAll, sAdd, sApp, sExt, sPut, mutL, sIns, sRetN, sRaise, rtV, endF, cutR, cut1, eAnd, eOr, eNot, eIf, e1, e2, eB, eC, eVar, eTup, eLst, aNil, aCons, vals, keeps, isB, tB1, tAndM, tOrM, tNotM, eSl, part, eCall, callM, prep, slotsOf, slotOf, refsOf, goBack, backs, unref, eDict, eM, gAdd, Vs.gSub, gDiv, gMod, gPow, gNeg, gCmp, gLt, gLe, gGt, gGe, gIsN, gNotN, isNone, gIsi, gIsi2, gLen, gList, gTuple, gMin, gMax, gInt, gAbs, iSeq, iEn, iCh, sFor, tgN, tgU, h2]
  · have c3 : sIf (tB1 (e2 gGt (eVar 1) (eVar 0))) (sRet (eC (.int 0))) sNil [.d (.int n), .d (.int 2), .un, .un] = .ok .nx [.d (.int n), .d (.int 2), .un, .un] := by
      simp [val_v, keep_v, sRet, sSeq, sIf, sSet, putV, setS, sNil, sBrk, sCnt, sExp, sUnp, unp, setAll, sAdd, sApp, sExt, sPut, mutL, sIns, sRetN, sRaise, rtV, endF, cutR, cut1, eAnd, eOr, eNot, eIf, e1, e2, eB, eC, eVar, eTup, eLst, aNil, aCons, vals, keeps, isB, tB1, tAndM, tOrM, tNotM, eSl, part, eCall, callM, prep, slotsOf, slotOf, refsOf, goBack, backs, unref, eDict, eM, gAdd, Vs.gSub, gDiv, gMod, gPow, gNeg, gCmp, gLt, gLe, gGt, gGe, gIsN, gNotN, isNone, gIsi, gIsi2, gLen, gList, gTuple, gMin, gMax, gInt, gAbs, iSeq, iEn, iCh, sFor, tgN, tgU, h2]
    have c4 : sSet 2 (eC (.int 1)) [.d (.int n), .d (.int 2), .un, .un] = .ok .nx [.d (.int n), .d (.int 2), .d (.int 1), .un] := rfl
    -- the turns
    have go : ∀ {m : Nat} {r : Int}, (if n - 2 < 2 then n - 2 else 2) = (m : Int) → m ≤ 2 → (∃ s, Vs.forM (tgN 3) bodyC (rngD 0 m) [.d (.int n), .d (.int 2), .d (.int 1), .un] = .ok .nx [.d (.int n), .d (.int 2), .d (.int r), s]) → f_choose [.d (.int n), .d (.int 2)] = .ok (.d (.int r)) [.un, .un] := by
      intro m r hm hm2 ⟨s, hf⟩
      have b1 : aCons (eB gMin (aCons (eVar 1) (aCons (e2 Vs.gSub (eVar 0) (eVar 1)) aNil))) aNil [.d (.int n), .d (.int 2), .d (.int 1), .un] = .ok [.d (.int (m : Int))] [.d (.int n), .d (.int 2), .d (.int 1), .un] := by
        rw [← hm]
        simp [val_v, keep_v, sRet, sSeq, sIf, sSet, putV, setS, sNil, sBrk, sCnt, sExp, sUnp, unp, setAll, sAdd, sApp, sExt, sPut, mutL, sIns, sRetN, sRaise, rtV, endF, cutR, cut1, eAnd, eOr, eNot, eIf, e1, e2, eB, eC, eVar, eTup, eLst, aNil, aCons, vals, keeps, isB, tB1, tAndM, tOrM, tNotM, eSl, part, eCall, callM, prep, slotsOf, slotOf, refsOf, goBack, backs, unref, eDict, eM, gAdd, Vs.gSub, gDiv, gMod, gPow, gNeg, gCmp, gLt, gLe, gGt, gGe, gIsN, gNotN, isNone, gIsi, gIsi2, gLen, gList, gTuple, gMin, gMax, gInt, gAbs, iSeq, iEn, iCh, sFor, tgN, tgU]
      have b2 := iRng1_ok b1 rfl (show m ≤ 1000000000 by omega)
      have c5 : sFor (tgN 3) (iRng rng1 (aCons (eB gMin (aCons (eVar 1) (aCons (e2 Vs.gSub (eVar 0) (eVar 1)) aNil))) aNil)) bodyC [.d (.int n), .d (.int 2), .d (.int 1), .un] = .ok .nx [.d (.int n), .d (.int 2), .d (.int r), s] := by
        unfold sFor
        rw [bnd_ap, b2]
        exact hf
      refine mkFn_rt (E0 := [.d (.int n), .d (.int 2), .un, .un]) (E := [.d (.int n), .d (.int 2), .d (.int r), s]) rfl rfl ?_
      unfold bodyC at c5
      unfold m_choose
      rw [seq_nx c1, seq_nx c2, seq_nx c3, seq_nx c4, seq_nx c5]
      rfl
    have step : ∀ {t s : Int} {s0 : Sl} {rest : List Dt}, (s0 = .un ∨ ∃ y, s0 = .d y) → mulOk t (n - s) = true → 0 < s + 1 → (s + 1).natAbs.log2 < 9000 →
        Vs.forM (tgN 3) bodyC (.int s :: rest) [.d (.int n), .d (.int 2), .d (.int t), s0] = Vs.forM (tgN 3) bodyC rest [.d (.int n), .d (.int 2), .d (.int (t * (n - s) / (s + 1))), .d (.int s)] := by
      intro t s s0 rest h0 h1 h2 h3
      have e1 : tgN 3 (.int s) [.d (.int n), .d (.int 2), .d (.int t), s0] = .ok .nx [.d (.int n), .d (.int 2), .d (.int t), .d (.int s)] := by
        rcases h0 with rfl | ⟨y, rfl⟩ <;> rfl
      show (match tgN 3 (.int s) [.d (.int n), .d (.int 2), .d (.int t), s0] with
        | .ok .nx E1 => bnd bodyC (aft (Vs.forM (tgN 3) bodyC rest)) E1
        | _ => .no) = _
      rw [e1]
      show bnd bodyC _ _ = _
      rw [bnd_ap, bodyC_ok h1 h2 h3]
      rfl
    have l1 : n.natAbs.log2 < 1000 := log_lt h0 (Int.lt_of_lt_of_le hn (by decide)) (by decide)
    have l2 : (n - 1).natAbs.log2 < 1000 := log_lt (by omega) (Int.lt_of_lt_of_le (show n - 1 < 10 ^ 30 by omega) (by decide)) (by decide)
    by_cases e2 : n = 2
    · subst e2
      exact go (m := 0) (r := 1) rfl (by omega) ⟨.un, rfl⟩
    · by_cases e3 : n = 3
      · subst e3
        refine go (m := 1) (r := 3) rfl (by omega) ⟨.d (.int 0), ?_⟩
        have e : rngD 0 1 = [.int 0] := rfl
        rw [e, step (.inl rfl) (mulOk_1 _) (by decide) (by decide)]
        rfl
      · have hm : (if n - 2 < 2 then n - 2 else 2) = ((2 : Nat) : Int) := by rw [if_neg (by omega)]; rfl
        refine go hm (by omega) ⟨.d (.int 1), ?_⟩
        have e : rngD 0 2 = [.int 0, .int 1] := rfl
        have d1 : 1 * (n - 0) / (0 + 1) = n := by
          rw [Int.sub_zero, Int.one_mul, Int.zero_add, Int.ediv_one]
        rw [e, step (.inl rfl) (mulOk_1 _) (by decide) (by decide), d1, step (.inr ⟨_, rfl⟩) (mulOk_log l1 l2) (by decide) (by decide)]
        rfl
end K04
/-! # K04G -/
set_option Elab.async false
set_option linter.all false
set_option maxRecDepth 100000
set_option maxHeartbeats 4000000
/-! k04, the plain law: _law_asked. -/
namespace K04
open PySem L2 Vs
def hsA : List Hd := [⟨isC (some 0), (some 4), sSet 3 (eTup (aCons (eC (.str "number")) (aCons (eFld at_at 4) aNil)))⟩, ⟨isC (some 1), (some 4), sSet 3 (eTup (aCons (eC (.str "name")) (aCons (eFld at_at 4) aNil)))⟩, ⟨isC none, none, sSet 3 (eTup (aCons (eC (.str "another error")) aNil))⟩]
def toldA (call : M Rv) : M Fl := sSet 3 (eTup (aCons (eC (.str "told")) (aCons call aNil)))
def c0 : M Rv := eCall f_check_number [false, false] (aCons (eVar 1) (aCons (eVar 2) aNil))
def c1 : M Rv := eCall f_check_name [false] (aCons (eVar 1) aNil)
def c2 : M Rv := eCall f_choose [false, false] (aCons (eVar 1) (aCons (eVar 2) aNil))
def c3 : M Rv := eCall f_choose [false, false] (aCons (eVar 2) (aCons (eVar 1) aNil))
def chainA : M Fl := sIf (tB1 (e2 gEq (eVar 0) (eC (.int 0)))) (toldA c0) (sIf (tB1 (e2 gEq (eVar 0) (eC (.int 1)))) (toldA c1) (sIf (tB1 (e2 gEq (eVar 0) (eC (.int 2)))) (toldA c2) (toldA c3)))
def envA (d : Int) (x o : Dt) (t : Dt) : En := [.d (.int d), .d x, .d o, .d t, .un]
def ans : Dt := .tuple [.str "answered"]
theorem ch0 (x o : Dt) : chainA (envA 0 x o ans) = toldA c0 (envA 0 x o ans) := by
  unfold chainA
  generalize toldA c0 = m0
  rfl
theorem ch1 (x o : Dt) : chainA (envA 1 x o ans) = toldA c1 (envA 1 x o ans) := by
  unfold chainA
  generalize toldA c0 = m0
  generalize toldA c1 = m1
  rfl
theorem ch2 (x o : Dt) : chainA (envA 2 x o ans) = toldA c2 (envA 2 x o ans) := by
  unfold chainA
  generalize toldA c0 = m0
  generalize toldA c1 = m1
  generalize toldA c2 = m2
  rfl
theorem ch3 (x o : Dt) : chainA (envA 3 x o ans) = toldA c3 (envA 3 x o ans) := by
  unfold chainA
  generalize toldA c0 = m0
  generalize toldA c1 = m1
  generalize toldA c2 = m2
  generalize toldA c3 = m3
  rfl
theorem told_ok {call : M Rv} {d : Int} {x o y : Dt} (h : call (envA d x o ans) = .ok (.d y) (envA d x o ans)) : toldA call (envA d x o ans) = .ok .nx (envA d x o (.tuple [.str "told", y])) := by
  have e : aCons (eC (.str "told")) (aCons call aNil) (envA d x o ans) = .ok [.d (.str "told"), .d y] (envA d x o ans) := by
    simp [val_v, keep_v, sRet, sSeq, sIf, sSet, putV, setS, sNil, sBrk, sCnt, sExp, sUnp, unp, setAll, sAdd, sApp, sExt, sPut, mutL, sIns, sRetN, sRaise, rtV, endF, cutR, cut1, eAnd, eOr, eNot, eIf, e1, e2, eB, eC, eVar, eTup, eLst, aNil, aCons, vals, keeps, isB, tB1, tAndM, tOrM, tNotM, eSl, part, eCall, callM, prep, slotsOf, slotOf, refsOf, goBack, backs, unref, eDict, eM, gAdd, Vs.gSub, gDiv, gMod, gPow, gNeg, gCmp, gLt, gLe, gGt, gGe, gIsN, gNotN, isNone, gIsi, gIsi2, gLen, gList, gTuple, gMin, gMax, gInt, gAbs, iSeq, iEn, iCh, sFor, tgN, tgU, h]
  simp only [toldA, sSet, eTup, bnd_ap, e, go_ok]
  simp [val_v, keep_v, sRet, sSeq, sIf, sSet, putV, setS, sNil, sBrk, sCnt, sExp, sUnp, unp, setAll, sAdd, sApp, sExt, sPut, mutL, sIns, sRetN, sRaise, rtV, endF, cutR, cut1, eAnd, eOr, eNot, eIf, e1, e2, eB, eC, eVar, eTup, eLst, aNil, aCons, vals, keeps, isB, tB1, tAndM, tOrM, tNotM, eSl, part, eCall, callM, prep, slotsOf, slotOf, refsOf, goBack, backs, unref, eDict, eM, gAdd, Vs.gSub, gDiv, gMod, gPow, gNeg, gCmp, gLt, gLe, gGt, gGe, gIsN, gNotN, isNone, gIsi, gIsi2, gLen, gList, gTuple, gMin, gMax, gInt, gAbs, iSeq, iEn, iCh, sFor, tgN, tgU, envA]
theorem told_ex {call : M Rv} {d : Int} {x o y : Dt} {c : Nat} (h : call (envA d x o ans) = .ex c y (envA d x o ans)) : toldA call (envA d x o ans) = .ex c y (envA d x o ans) := by
  have e : aCons (eC (.str "told")) (aCons call aNil) (envA d x o ans) = .ex c y (envA d x o ans) := by
    simp [val_v, keep_v, sRet, sSeq, sIf, sSet, putV, setS, sNil, sBrk, sCnt, sExp, sUnp, unp, setAll, sAdd, sApp, sExt, sPut, mutL, sIns, sRetN, sRaise, rtV, endF, cutR, cut1, eAnd, eOr, eNot, eIf, e1, e2, eB, eC, eVar, eTup, eLst, aNil, aCons, vals, keeps, isB, tB1, tAndM, tOrM, tNotM, eSl, part, eCall, callM, prep, slotsOf, slotOf, refsOf, goBack, backs, unref, eDict, eM, gAdd, Vs.gSub, gDiv, gMod, gPow, gNeg, gCmp, gLt, gLe, gGt, gGe, gIsN, gNotN, isNone, gIsi, gIsi2, gLen, gList, gTuple, gMin, gMax, gInt, gAbs, iSeq, iEn, iCh, sFor, tgN, tgU, h]
  simp only [toldA, sSet, eTup, bnd_ap, e, go_ex]
theorem hd0 {d : Int} {x o y : Dt} : hdM hsA 0 y (envA d x o ans) = .ok .nx (envA d x o (.tuple [.str "number", y])) := rfl
theorem hd1 {d : Int} {x o y : Dt} : hdM hsA 1 y (envA d x o ans) = .ok .nx (envA d x o (.tuple [.str "name", y])) := rfl
theorem ask_fin {d : Int} {x o t : Dt} (h : tryM chainA hsA (envA d x o ans) = .ok .nx (envA d x o t)) (hr : okRepr t = true) : f__law_asked [.d (.int d), .d x, .d o] = .ok (.d (.str t.shown)) [.un, .un, .un] := by
  have a1 : sSet 3 (eTup (aCons (eC (.str "answered")) aNil)) [.d (.int d), .d x, .d o, .un, .un] = .ok .nx (envA d x o ans) := rfl
  have a3 : sRet (eB gRepr (aCons (eVar 3) aNil)) (envA d x o t) = .ok (.rt (.d (.str t.shown))) (envA d x o t) := by
    have e : aCons (eVar 3) aNil (envA d x o t) = .ok [.v 3] (envA d x o t) := rfl
    have v : vals [.v 3] (envA d x o t) = .ok [t] (envA d x o t) := rfl
    have g : gRepr [t] = some (.d (.str t.shown)) := if_pos hr
    unfold sRet eB
    rw [bnd_ap, bnd_ap, e, go_ok, bnd_ap, v, go_ok, g]
    rfl
  refine mkFn_rt (E0 := [.d (.int d), .d x, .d o, .un, .un]) (E := envA d x o t) rfl rfl ?_
  unfold chainA toldA c0 c1 c2 c3 hsA at h
  unfold m__law_asked
  rw [seq_nx a1, seq_nx h, a3]
theorem try_ok {m : M Fl} {hs : List Hd} {E E1 : En} (h : m E = .ok .nx E1) : tryM m hs E = .ok .nx E1 := by
  unfold tryM
  rw [h]
theorem try_ex {m : M Fl} {hs : List Hd} {E E1 : En} {c : Nat} {x : Dt} (h : m E = .ex c x E1) : tryM m hs E = hdM hs c x E1 := by
  unfold tryM
  rw [h]
/-- the answer to a call, told -/
def tld (w : Str) (x : Dt) : Dt := .tuple [.str w, x]
theorem ask0 {x : Dt} {l : Int} (hz : tot x ≤ 100000) (t : Dt) (ht : t = if isI x then (match x with | .int i => if i < l then tld "number" x else tld "told" x | _ => t) else tld "number" (pf x)) (hr : okRepr t = true) :
    f__law_asked [.d (.int 0), .d x, .d (.int l)] = .ok (.d (.str t.shown)) [.un, .un, .un] := by
  refine ask_fin ?_ hr
  cases hi : isI x with
  | false =>
    rw [hi, if_neg Bool.false_ne_true] at ht
    subst ht
    refine (try_ex (c := 0) (x := pf x) ((ch0 _ _).trans (told_ex ?_))).trans hd0
    simp [c0, envA, val_v, keep_v, sRet, sSeq, sIf, sSet, putV, setS, sNil, sBrk, sCnt, sExp, sUnp, unp, setAll, sAdd, sApp, sExt, sPut, mutL, sIns, sRetN, sRaise, rtV, endF, cutR, cut1, eAnd, eOr, eNot, eIf, e1, e2, eB, eC, eVar, eTup, eLst, aNil, aCons, vals, keeps, isB, tB1, tAndM, tOrM, tNotM, eSl, part, eCall, callM, prep, slotsOf, slotOf, refsOf, goBack, backs, unref, eDict, eM, gAdd, Vs.gSub, gDiv, gMod, gPow, gNeg, gCmp, gLt, gLe, gGt, gGe, gIsN, gNotN, isNone, gIsi, gIsi2, gLen, gList, gTuple, gMin, gMax, gInt, gAbs, iSeq, iEn, iCh, sFor, tgN, tgU, cn_not hz hi]
  | true =>
    rw [hi, if_pos rfl] at ht
    obtain ⟨i, rfl⟩ := isI_int hi
    by_cases hl : i < l
    · have ht : t = tld "number" (.int i) := by rw [ht]; exact if_pos hl
      subst ht
      refine (try_ex (c := 0) (x := .int i) ((ch0 _ _).trans (told_ex ?_))).trans hd0
      simp [c0, envA, val_v, keep_v, sRet, sSeq, sIf, sSet, putV, setS, sNil, sBrk, sCnt, sExp, sUnp, unp, setAll, sAdd, sApp, sExt, sPut, mutL, sIns, sRetN, sRaise, rtV, endF, cutR, cut1, eAnd, eOr, eNot, eIf, e1, e2, eB, eC, eVar, eTup, eLst, aNil, aCons, vals, keeps, isB, tB1, tAndM, tOrM, tNotM, eSl, part, eCall, callM, prep, slotsOf, slotOf, refsOf, goBack, backs, unref, eDict, eM, gAdd, Vs.gSub, gDiv, gMod, gPow, gNeg, gCmp, gLt, gLe, gGt, gGe, gIsN, gNotN, isNone, gIsi, gIsi2, gLen, gList, gTuple, gMin, gMax, gInt, gAbs, iSeq, iEn, iCh, sFor, tgN, tgU, cn_low hl]
    · have ht : t = tld "told" (.int i) := by rw [ht]; exact if_neg hl
      subst ht
      refine try_ok ((ch0 _ _).trans (told_ok ?_))
      simp [c0, envA, val_v, keep_v, sRet, sSeq, sIf, sSet, putV, setS, sNil, sBrk, sCnt, sExp, sUnp, unp, setAll, sAdd, sApp, sExt, sPut, mutL, sIns, sRetN, sRaise, rtV, endF, cutR, cut1, eAnd, eOr, eNot, eIf, e1, e2, eB, eC, eVar, eTup, eLst, aNil, aCons, vals, keeps, isB, tB1, tAndM, tOrM, tNotM, eSl, part, eCall, callM, prep, slotsOf, slotOf, refsOf, goBack, backs, unref, eDict, eM, gAdd, Vs.gSub, gDiv, gMod, gPow, gNeg, gCmp, gLt, gLe, gGt, gGe, gIsN, gNotN, isNone, gIsi, gIsi2, gLen, gList, gTuple, gMin, gMax, gInt, gAbs, iSeq, iEn, iCh, sFor, tgN, tgU, cn_ok hl]
theorem ask1 {x o : Dt} (hz : tot x ≤ 100000) (hx : ∀ z, x = .str z → z.length ≤ 100000) (hr : okRepr (if isNm x then tld "told" x else tld "name" (pf x)) = true) :
    f__law_asked [.d (.int 1), .d x, .d o] = .ok (.d (.str (if isNm x then tld "told" x else tld "name" (pf x)).shown)) [.un, .un, .un] := by
  refine ask_fin ?_ hr
  cases hi : isNm x with
  | false =>
    refine (try_ex (c := 1) (x := pf x) ((ch1 _ _).trans (told_ex ?_))).trans hd1
    simp [c1, envA, val_v, keep_v, sRet, sSeq, sIf, sSet, putV, setS, sNil, sBrk, sCnt, sExp, sUnp, unp, setAll, sAdd, sApp, sExt, sPut, mutL, sIns, sRetN, sRaise, rtV, endF, cutR, cut1, eAnd, eOr, eNot, eIf, e1, e2, eB, eC, eVar, eTup, eLst, aNil, aCons, vals, keeps, isB, tB1, tAndM, tOrM, tNotM, eSl, part, eCall, callM, prep, slotsOf, slotOf, refsOf, goBack, backs, unref, eDict, eM, gAdd, Vs.gSub, gDiv, gMod, gPow, gNeg, gCmp, gLt, gLe, gGt, gGe, gIsN, gNotN, isNone, gIsi, gIsi2, gLen, gList, gTuple, gMin, gMax, gInt, gAbs, iSeq, iEn, iCh, sFor, tgN, tgU, ck_not hz hx hi]
  | true =>
    refine try_ok ((ch1 _ _).trans (told_ok ?_))
    simp [c1, envA, val_v, keep_v, sRet, sSeq, sIf, sSet, putV, setS, sNil, sBrk, sCnt, sExp, sUnp, unp, setAll, sAdd, sApp, sExt, sPut, mutL, sIns, sRetN, sRaise, rtV, endF, cutR, cut1, eAnd, eOr, eNot, eIf, e1, e2, eB, eC, eVar, eTup, eLst, aNil, aCons, vals, keeps, isB, tB1, tAndM, tOrM, tNotM, eSl, part, eCall, callM, prep, slotsOf, slotOf, refsOf, goBack, backs, unref, eDict, eM, gAdd, Vs.gSub, gDiv, gMod, gPow, gNeg, gCmp, gLt, gLe, gGt, gGe, gIsN, gNotN, isNone, gIsi, gIsi2, gLen, gList, gTuple, gMin, gMax, gInt, gAbs, iSeq, iEn, iCh, sFor, tgN, tgU, ck_ok hx hi]
theorem ask2b {x : Dt} {k : Int} (hz : tot x ≤ 100000) (h : bad x = true) (hr : okRepr (tld "number" (pf x)) = true) : f__law_asked [.d (.int 2), .d x, .d (.int k)] = .ok (.d (.str (tld "number" (pf x)).shown)) [.un, .un, .un] := by
  refine ask_fin ?_ hr
  refine (try_ex (c := 0) (x := pf x) ((ch2 _ _).trans (told_ex ?_))).trans hd0
  simp [c2, envA, val_v, keep_v, sRet, sSeq, sIf, sSet, putV, setS, sNil, sBrk, sCnt, sExp, sUnp, unp, setAll, sAdd, sApp, sExt, sPut, mutL, sIns, sRetN, sRaise, rtV, endF, cutR, cut1, eAnd, eOr, eNot, eIf, e1, e2, eB, eC, eVar, eTup, eLst, aNil, aCons, vals, keeps, isB, tB1, tAndM, tOrM, tNotM, eSl, part, eCall, callM, prep, slotsOf, slotOf, refsOf, goBack, backs, unref, eDict, eM, gAdd, Vs.gSub, gDiv, gMod, gPow, gNeg, gCmp, gLt, gLe, gGt, gGe, gIsN, gNotN, isNone, gIsi, gIsi2, gLen, gList, gTuple, gMin, gMax, gInt, gAbs, iSeq, iEn, iCh, sFor, tgN, tgU, ch_bad1 hz h]
theorem ask3b {x : Dt} {k : Int} (hk : 0 ≤ k) (hz : tot x ≤ 100000) (h : bad x = true) (hr : okRepr (tld "number" (pf x)) = true) : f__law_asked [.d (.int 3), .d x, .d (.int k)] = .ok (.d (.str (tld "number" (pf x)).shown)) [.un, .un, .un] := by
  refine ask_fin ?_ hr
  refine (try_ex (c := 0) (x := pf x) ((ch3 _ _).trans (told_ex ?_))).trans hd0
  simp [c3, envA, val_v, keep_v, sRet, sSeq, sIf, sSet, putV, setS, sNil, sBrk, sCnt, sExp, sUnp, unp, setAll, sAdd, sApp, sExt, sPut, mutL, sIns, sRetN, sRaise, rtV, endF, cutR, cut1, eAnd, eOr, eNot, eIf, e1, e2, eB, eC, eVar, eTup, eLst, aNil, aCons, vals, keeps, isB, tB1, tAndM, tOrM, tNotM, eSl, part, eCall, callM, prep, slotsOf, slotOf, refsOf, goBack, backs, unref, eDict, eM, gAdd, Vs.gSub, gDiv, gMod, gPow, gNeg, gCmp, gLt, gLe, gGt, gGe, gIsN, gNotN, isNone, gIsi, gIsi2, gLen, gList, gTuple, gMin, gMax, gInt, gAbs, iSeq, iEn, iCh, sFor, tgN, tgU, ch_bad2 hz hk h]
theorem ask2 {n : Int} (h0 : 0 ≤ n) (hn : n < 10 ^ 30) (hr : okRepr (tld "told" (.int (n * (n - 1) / 2))) = true) : f__law_asked [.d (.int 2), .d (.int n), .d (.int 2)] = .ok (.d (.str (tld "told" (.int (n * (n - 1) / 2))).shown)) [.un, .un, .un] := by
  refine ask_fin ?_ hr
  refine try_ok ((ch2 _ _).trans (told_ok ?_))
  simp [c2, envA, val_v, keep_v, sRet, sSeq, sIf, sSet, putV, setS, sNil, sBrk, sCnt, sExp, sUnp, unp, setAll, sAdd, sApp, sExt, sPut, mutL, sIns, sRetN, sRaise, rtV, endF, cutR, cut1, eAnd, eOr, eNot, eIf, e1, e2, eB, eC, eVar, eTup, eLst, aNil, aCons, vals, keeps, isB, tB1, tAndM, tOrM, tNotM, eSl, part, eCall, callM, prep, slotsOf, slotOf, refsOf, goBack, backs, unref, eDict, eM, gAdd, Vs.gSub, gDiv, gMod, gPow, gNeg, gCmp, gLt, gLe, gGt, gGe, gIsN, gNotN, isNone, gIsi, gIsi2, gLen, gList, gTuple, gMin, gMax, gInt, gAbs, iSeq, iEn, iCh, sFor, tgN, tgU, choose2 h0 hn]
end K04
/-! # K04I -/
set_option Elab.async false
set_option linter.all false
set_option maxRecDepth 100000
set_option maxHeartbeats 4000000
/-! k04, the plain law: the deck. -/
namespace K04
open PySem L2 Vs
/-- where the deck stands, what it holds -/
structure Deck (xs : List Dt) : Prop where
  ex : ∃ (p : Nat) (ds : List Nat), xs = .int (p : Int) :: ds.map fun (d : Nat) => PyData.int (d : Int)
  sm : ∀ (p : Nat) (ds : List Nat), xs = .int (p : Int) :: ds.map (fun (d : Nat) => PyData.int (d : Int)) → ∀ d ∈ ds, d < 36
  ln : xs.length ≤ 1000
theorem inj_ds : ∀ {as bs : List Nat}, as.map (fun (d : Nat) => PyData.int (d : Int)) = bs.map (fun (d : Nat) => PyData.int (d : Int)) → as = bs
  | [], [], _ => rfl
  | [], _ :: _, h => by simp at h
  | _ :: _, [], h => by simp at h
  | a :: as, b :: bs, h => by
    simp only [List.map_cons, List.cons.injEq, PyData.int.injEq] at h
    have h1 : a = b := by omega
    rw [h1, inj_ds h.2]
theorem Deck.mk' {p : Nat} {ds : List Nat} (h : ∀ d ∈ ds, d < 36) (hl : ds.length ≤ 999) : Deck (.int (p : Int) :: ds.map fun (d : Nat) => PyData.int (d : Int)) := by
  refine ⟨⟨p, ds, rfl⟩, fun q es e => ?_, by simp; omega⟩
  injection e with _ e2
  rw [← inj_ds e2]
  exact h
theorem mulOk_l {i j : Int} (h1 : -(2 ^ 64) < i) (h2 : i < 2 ^ 64) : mulOk i j = true := by
  unfold mulOk
  rw [decide_eq_true (⟨h1, h2⟩ : -(2 ^ 64) < i ∧ i < 2 ^ 64)]
  rfl
theorem gMod_ok {i j : Int} (h : 0 < j) : gMod (.int i) (.int j) = some (.d (.int (i % j))) := by
  simp only [gMod]
  rw [if_pos h]
theorem mod_nat {i j : Int} (h : 0 < j) : ∃ n : Nat, i % j = (n : Int) ∧ (n : Int) < j := by
  have h1 := Int.emod_nonneg i (show j ≠ 0 by omega)
  have h2 := Int.emod_lt_of_pos i h
  exact ⟨(i % j).toNat, by omega, by omega⟩
/-- one card -/
def pickM : M Fl := m__law_pick
theorem pick_ok {xs : List Dt} (h : Deck xs) {m : Int} (hm : 0 < m) : ∃ (r : Nat) (ys : List Dt), f__law_pick [.r false xs, .d (.int m)] = .ok (.d (.int (r : Int))) [.r false ys, .un] ∧ (r : Int) < m ∧ Deck ys := by
  obtain ⟨p, ds, rfl⟩ := h.ex
  have hs := h.sm p ds rfl
  have hl : ds.length ≤ 999 := by have := h.ln; simp at this; omega
  have hD : Deck (.int ((p + 1 : Nat) : Int) :: ds.map fun (d : Nat) => PyData.int (d : Int)) := Deck.mk' hs hl
  have a1 : sPut 0 (eC (.int 0)) (e2 gAdd (e2 gIx (eVar 0) (eC (.int 0))) (eC (.int 1))) [.r false (.int (p : Int) :: ds.map fun (d : Nat) => PyData.int (d : Int)), .d (.int m)] = .ok .nx [.r false (.int ((p + 1 : Nat) : Int) :: ds.map fun (d : Nat) => PyData.int (d : Int)), .d (.int m)] := by
    have q0 : gIx (.list (.int (p : Int) :: ds.map fun (d : Nat) => PyData.int (d : Int))) (.int 0) = some (.d (.int p)) := by
      show (L2.atI _ ((0 : Nat) : Int)).map Rv.d = _
      rw [atI_nat (x := .int (p : Int)) rfl]
      rfl
    have q1 := e2_go (ma := eVar 0) (mb := eC (.int 0)) (g := gIx) (E := [.r false (.int (p : Int) :: ds.map fun (d : Nat) => PyData.int (d : Int)), .d (.int m)]) (r1 := .v 0) (r2 := .d (.int 0)) rfl rfl rfl rfl q0
    have q2 := e2_go (mb := eC (.int 1)) (g := gAdd) (r2 := .d (.int 1)) (y := .int 1) q1 rfl rfl rfl rfl
    have hix : L2.ixN (ds.length + 1) 0 = some 0 := by
      unfold L2.ixN
      rw [if_pos (by omega), if_pos (by omega)]
      rfl
    unfold sPut
    rw [bnd_ap, q2]
    simp [val_v, keep_v, sRet, sSeq, sIf, sSet, putV, setS, sNil, sBrk, sCnt, sExp, sUnp, unp, setAll, sAdd, sApp, sExt, sPut, mutL, sIns, sRetN, sRaise, rtV, endF, cutR, cut1, eAnd, eOr, eNot, eIf, e1, e2, eB, eC, eVar, eTup, eLst, aNil, aCons, vals, keeps, isB, tB1, tAndM, tOrM, tNotM, eSl, part, eCall, callM, prep, slotsOf, slotOf, refsOf, goBack, backs, unref, eDict, eM, gAdd, Vs.gSub, gDiv, gMod, gPow, gNeg, gCmp, gLt, gLe, gGt, gGe, gIsN, gNotN, isNone, gIsi, gIsi2, gLen, gList, gTuple, gMin, gMax, gInt, gAbs, iSeq, iEn, iCh, sFor, tgN, tgU, hix]
  have a2 : eB gLen (aCons (eVar 0) aNil) [.r false (.int ((p + 1 : Nat) : Int) :: ds.map fun (d : Nat) => PyData.int (d : Int)), .d (.int m)] = .ok (.d (.int ((ds.length + 1 : Nat) : Int))) [.r false (.int ((p + 1 : Nat) : Int) :: ds.map fun (d : Nat) => PyData.int (d : Int)), .d (.int m)] := by
    simp [val_v, keep_v, sRet, sSeq, sIf, sSet, putV, setS, sNil, sBrk, sCnt, sExp, sUnp, unp, setAll, sAdd, sApp, sExt, sPut, mutL, sIns, sRetN, sRaise, rtV, endF, cutR, cut1, eAnd, eOr, eNot, eIf, e1, e2, eB, eC, eVar, eTup, eLst, aNil, aCons, vals, keeps, isB, tB1, tAndM, tOrM, tNotM, eSl, part, eCall, callM, prep, slotsOf, slotOf, refsOf, goBack, backs, unref, eDict, eM, gAdd, Vs.gSub, gDiv, gMod, gPow, gNeg, gCmp, gLt, gLe, gGt, gGe, gIsN, gNotN, isNone, gIsi, gIsi2, gLen, gList, gTuple, gMin, gMax, gInt, gAbs, iSeq, iEn, iCh, sFor, tgN, tgU]
  have q0 : gIx (.list (.int ((p + 1 : Nat) : Int) :: ds.map fun (d : Nat) => PyData.int (d : Int))) (.int 0) = some (.d (.int ((p + 1 : Nat) : Int))) := by
    show (L2.atI _ ((0 : Nat) : Int)).map Rv.d = _
    rw [atI_nat (x := .int ((p + 1 : Nat) : Int)) rfl]
    rfl
  have q1 := e2_go (ma := eVar 0) (mb := eC (.int 0)) (g := gIx) (E := [.r false (.int ((p + 1 : Nat) : Int) :: ds.map fun (d : Nat) => PyData.int (d : Int)), .d (.int m)]) (r1 := .v 0) (r2 := .d (.int 0)) rfl rfl rfl rfl q0
  have a3 : tB1 (e2 gGe (e2 gIx (eVar 0) (eC (.int 0))) (eB gLen (aCons (eVar 0) aNil))) [.r false (.int ((p + 1 : Nat) : Int) :: ds.map fun (d : Nat) => PyData.int (d : Int)), .d (.int m)] = .ok (decide (((ds.length + 1 : Nat) : Int) ≤ ((p + 1 : Nat) : Int))) [.r false (.int ((p + 1 : Nat) : Int) :: ds.map fun (d : Nat) => PyData.int (d : Int)), .d (.int m)] := by
    have q2 := e2_go (g := gGe) q1 a2 rfl rfl rfl
    unfold tB1
    rw [bnd_ap, q2]
    rfl
  by_cases hp : ds.length ≤ p
  · refine ⟨0, _, ?_, by omega, hD⟩
    refine mkFn_rt (E0 := [.r false (.int (p : Int) :: ds.map fun (d : Nat) => PyData.int (d : Int)), .d (.int m)]) (E := [.r false (.int ((p + 1 : Nat) : Int) :: ds.map fun (d : Nat) => PyData.int (d : Int)), .d (.int m)]) rfl rfl ?_
    unfold m__law_pick
    rw [seq_nx a1]
    refine seq_rt ?_
    unfold sIf
    rw [bnd_ap, a3, go_ok, decide_eq_true (by omega), if_pos rfl]
    rfl
  · have hd : ds[p]? = some ds[p] := List.getElem?_eq_getElem (by omega)
    have q3 : gIx (.list (.int ((p + 1 : Nat) : Int) :: ds.map fun (d : Nat) => PyData.int (d : Int))) (.int ((p + 1 : Nat) : Int)) = some (.d (.int (ds[p] : Nat))) := by
      show (L2.atI _ ((p + 1 : Nat) : Int)).map Rv.d = _
      rw [atI_nat (x := .int (ds[p] : Nat)) (by rw [List.getElem?_cons_succ, List.getElem?_map, hd]; rfl)]
      rfl
    have q4 := e2_go (ma := eVar 0) (g := gIx) (r1 := .v 0) (x := .list (.int ((p + 1 : Nat) : Int) :: ds.map fun (d : Nat) => PyData.int (d : Int))) rfl q1 rfl rfl q3
    have q5 := e2_go (mb := eVar 1) (g := gMod) (r2 := .v 1) (y := .int m) q4 rfl rfl rfl (gMod_ok hm)
    obtain ⟨r, hr, hrm⟩ := mod_nat (i := (ds[p] : Nat)) hm
    refine ⟨r, _, ?_, hrm, hD⟩
    rw [← hr]
    refine mkFn_rt (E0 := [.r false (.int (p : Int) :: ds.map fun (d : Nat) => PyData.int (d : Int)), .d (.int m)]) (E := [.r false (.int ((p + 1 : Nat) : Int) :: ds.map fun (d : Nat) => PyData.int (d : Int)), .d (.int m)]) rfl rfl ?_
    unfold m__law_pick
    rw [seq_nx a1, seq_nx (E1 := [.r false (.int ((p + 1 : Nat) : Int) :: ds.map fun (d : Nat) => PyData.int (d : Int)), .d (.int m)]) (by unfold sIf; rw [bnd_ap, a3, go_ok, decide_eq_false (by omega), if_neg Bool.false_ne_true]; rfl)]
    unfold sRet
    rw [bnd_ap, q5]
    rfl
end K04
/-! # K04J -/
set_option Elab.async false
set_option linter.all false
set_option maxRecDepth 100000
set_option maxHeartbeats 4000000
/-! k04, the plain law: great numbers. -/
namespace K04
open PySem L2 Vs
theorem for_go {g : Dt → M Fl} {mi : M (List Dt)} {mb : M Fl} {E E1 : En} {xs : List Dt} (h : mi E = .ok xs E1) : sFor g mi mb E = Vs.forM g mb xs E1 := by
  unfold sFor
  rw [bnd_ap, h, go_ok]
def bodyG : M Fl := sSet 1 (e2 gAdd (e2 gMul (eVar 1) (eC (.int 36))) (eCall f__law_pick [true, false] (aCons (eVar 0) (aCons (eC (.int 36)) aNil))))
theorem bodyG_ok {xs : List Dt} {v : Nat} {s : Sl} (h : Deck xs) (hv : v < 36 ^ 24) : ∃ (r : Nat) (ys : List Dt), bodyG [.r false xs, .d (.int (v : Int)), s] = .ok .nx [.r false ys, .d (.int ((v * 36 + r : Nat) : Int)), s] ∧ r < 36 ∧ Deck ys := by
  obtain ⟨r, ys, p1, hr, h1⟩ := pick_ok h (m := 36) (by omega)
  refine ⟨r, ys, ?_, by omega, h1⟩
  have q1 : e2 gMul (eVar 1) (eC (.int 36)) [.r false xs, .d (.int (v : Int)), s] = .ok (.d (.int ((v : Int) * 36))) [.r false xs, .d (.int (v : Int)), s] :=
    e2_go (r1 := .v 1) (r2 := .d (.int 36)) (x := .int (v : Int)) (y := .int 36) rfl rfl rfl rfl (gMul_ok (mulOk_log (log_lt (by omega) (by omega) (by decide)) (by decide)))
  have q2 : eCall f__law_pick [true, false] (aCons (eVar 0) (aCons (eC (.int 36)) aNil)) [.r false xs, .d (.int (v : Int)), s] = .ok (.d (.int (r : Int))) [.r false ys, .d (.int (v : Int)), s] := by
    simp [val_v, keep_v, sRet, sSeq, sIf, sSet, putV, setS, sNil, sBrk, sCnt, sExp, sUnp, unp, setAll, sAdd, sApp, sExt, sPut, mutL, sIns, sRetN, sRaise, rtV, endF, cutR, cut1, eAnd, eOr, eNot, eIf, e1, e2, eB, eC, eVar, eTup, eLst, aNil, aCons, vals, keeps, isB, tB1, tAndM, tOrM, tNotM, eSl, part, eCall, callM, prep, slotsOf, slotOf, refsOf, goBack, backs, unref, eDict, eM, gAdd, Vs.gSub, gDiv, gMod, gPow, gNeg, gCmp, gLt, gLe, gGt, gGe, gIsN, gNotN, isNone, gIsi, gIsi2, gLen, gList, gTuple, gMin, gMax, gInt, gAbs, iSeq, iEn, iCh, sFor, tgN, tgU, p1]
  unfold bodyG sSet e2
  rw [bnd_ap, bnd_ap]
  rw [show (bnd (eVar 1) fun r1 => bnd (eC (.int 36)) fun r2 => bnd (val (fz r1)) fun x => bnd (val (fz r2)) fun y => opt (gMul x y)) = e2 gMul (eVar 1) (eC (.int 36)) from rfl, q1, go_ok, bnd_ap, q2]
  simp [val_v, keep_v, sRet, sSeq, sIf, sSet, putV, setS, sNil, sBrk, sCnt, sExp, sUnp, unp, setAll, sAdd, sApp, sExt, sPut, mutL, sIns, sRetN, sRaise, rtV, endF, cutR, cut1, eAnd, eOr, eNot, eIf, e1, e2, eB, eC, eVar, eTup, eLst, aNil, aCons, vals, keeps, isB, tB1, tAndM, tOrM, tNotM, eSl, part, eCall, callM, prep, slotsOf, slotOf, refsOf, goBack, backs, unref, eDict, eM, gAdd, Vs.gSub, gDiv, gMod, gPow, gNeg, gCmp, gLt, gLe, gGt, gGe, gIsN, gNotN, isNone, gIsi, gIsi2, gLen, gList, gTuple, gMin, gMax, gInt, gAbs, iSeq, iEn, iCh, sFor, tgN, tgU]
theorem great_ok {xs : List Dt} (h : Deck xs) : ∃ (i : Int) (ys : List Dt), f__law_great [.r false xs] = .ok (.d (.int i)) [.r false ys] ∧ (-(10 ^ 40) < i ∧ i < 10 ^ 40) ∧ Deck ys := by
  obtain ⟨r1, ys1, p1, hr1, h1⟩ := pick_ok h (m := 5) (by omega)
  obtain ⟨n, hn, en⟩ : ∃ n : Nat, n ≤ 24 ∧ gIx (.tuple [.int 1, .int 0, .int 2, .int 12, .int 24]) (.int r1) = some (.d (.int (n : Int))) := by
    have : r1 = 0 ∨ r1 = 1 ∨ r1 = 2 ∨ r1 = 3 ∨ r1 = 4 := by omega
    rcases this with rfl | rfl | rfl | rfl | rfl
    · exact ⟨1, by omega, rfl⟩
    · exact ⟨0, by omega, rfl⟩
    · exact ⟨2, by omega, rfl⟩
    · exact ⟨12, by omega, rfl⟩
    · exact ⟨24, by omega, rfl⟩
  have a0 : sSet 1 (eC (.int 0)) [.r false xs, .un, .un] = .ok .nx [.r false xs, .d (.int 0), .un] := rfl
  have a1 : aCons (e2 gIx (eTup (aCons (eC (.int 1)) (aCons (eC (.int 0)) (aCons (eC (.int 2)) (aCons (eC (.int 12)) (aCons (eC (.int 24)) aNil)))))) (eCall f__law_pick [true, false] (aCons (eVar 0) (aCons (eC (.int 5)) aNil)))) aNil [.r false xs, .d (.int 0), .un] = .ok [.d (.int (n : Int))] [.r false ys1, .d (.int 0), .un] := by
    simp [val_v, keep_v, sRet, sSeq, sIf, sSet, putV, setS, sNil, sBrk, sCnt, sExp, sUnp, unp, setAll, sAdd, sApp, sExt, sPut, mutL, sIns, sRetN, sRaise, rtV, endF, cutR, cut1, eAnd, eOr, eNot, eIf, e1, e2, eB, eC, eVar, eTup, eLst, aNil, aCons, vals, keeps, isB, tB1, tAndM, tOrM, tNotM, eSl, part, eCall, callM, prep, slotsOf, slotOf, refsOf, goBack, backs, unref, eDict, eM, gAdd, Vs.gSub, gDiv, gMod, gPow, gNeg, gCmp, gLt, gLe, gGt, gGe, gIsN, gNotN, isNone, gIsi, gIsi2, gLen, gList, gTuple, gMin, gMax, gInt, gAbs, iSeq, iEn, iCh, sFor, tgN, tgU, p1, en]
  have a2 := iRng1_ok a1 rfl (show n ≤ 1000000000 by omega)
  have key := forM_all (g := tgN 2) (mb := bodyG) (fun rest E => ∃ (ys : List Dt) (v : Nat) (s : Sl), E = [.r false ys, .d (.int (v : Int)), s] ∧ (s = .un ∨ ∃ y, s = .d y) ∧ Deck ys ∧ (v + 1) * 36 ^ rest.length ≤ 36 ^ 24)
    (fun res => ∃ (ys : List Dt) (v : Nat) (s : Sl), res = .ok .nx [.r false ys, .d (.int (v : Int)), s] ∧ Deck ys ∧ v < 36 ^ 24) (fun E ⟨ys, v, s, e, _, hD, hv⟩ => ⟨ys, v, s, by rw [e], hD, by rw [List.length_nil, Nat.pow_zero, Nat.mul_one] at hv; exact hv⟩)
    (fun x rest E ⟨ys, v, s, e, hs, hD, hv⟩ => by
      subst e
      have hv' : v < 36 ^ 24 := by
        have : 1 ≤ 36 ^ (x :: rest).length := Nat.pow_pos (by decide)
        have h2 : (v + 1) * 1 ≤ (v + 1) * 36 ^ (x :: rest).length := Nat.mul_le_mul_left _ this
        omega
      obtain ⟨r, zs, eb, hr, hz⟩ := bodyG_ok (s := .d x) hD hv'
      refine ⟨[.r false ys, .d (.int (v : Int)), .d x], ?_, .inl ⟨_, .inl eb, zs, _, _, rfl, .inr ⟨_, rfl⟩, hz, ?_⟩⟩
      · rcases hs with rfl | ⟨y, rfl⟩ <;> rfl
      · rw [List.length_cons, Nat.pow_succ, Nat.mul_comm (36 ^ rest.length) 36, ← Nat.mul_assoc] at hv
        exact Nat.le_trans (Nat.mul_le_mul_right _ (by omega)) hv)
    (rngD 0 n) [.r false ys1, .d (.int ((0 : Nat) : Int)), .un] ⟨ys1, 0, .un, rfl, .inl rfl, h1, by
      rw [rngD_len]
      rw [Nat.zero_add, Nat.one_mul]
      exact Nat.pow_le_pow_right (by decide) hn⟩
  obtain ⟨ys2, v, s, ef, h2, hv⟩ := key
  have a3 := (for_go (g := tgN 2) (mb := bodyG) a2).trans ef
  unfold bodyG at a3
  obtain ⟨r3, ys3, p3, hr3, h3⟩ := pick_ok h2 (m := 3) (by omega)
  have hb : ((v : Nat) : Int) < 10 ^ 40 := by
    have : (36 : Nat) ^ 24 < 10 ^ 40 := by decide
    omega
  have a4 : tB1 (e2 gEq (eCall f__law_pick [true, false] (aCons (eVar 0) (aCons (eC (.int 3)) aNil))) (eC (.int 2))) [.r false ys2, .d (.int (v : Int)), s] = .ok (decide ((r3 : Int) = 2)) [.r false ys3, .d (.int (v : Int)), s] := by
    simp [val_v, keep_v, sRet, sSeq, sIf, sSet, putV, setS, sNil, sBrk, sCnt, sExp, sUnp, unp, setAll, sAdd, sApp, sExt, sPut, mutL, sIns, sRetN, sRaise, rtV, endF, cutR, cut1, eAnd, eOr, eNot, eIf, e1, e2, eB, eC, eVar, eTup, eLst, aNil, aCons, vals, keeps, isB, tB1, tAndM, tOrM, tNotM, eSl, part, eCall, callM, prep, slotsOf, slotOf, refsOf, goBack, backs, unref, eDict, eM, gAdd, Vs.gSub, gDiv, gMod, gPow, gNeg, gCmp, gLt, gLe, gGt, gGe, gIsN, gNotN, isNone, gIsi, gIsi2, gLen, gList, gTuple, gMin, gMax, gInt, gAbs, iSeq, iEn, iCh, sFor, tgN, tgU, p3, gEq, eqD]
  by_cases h2 : r3 = 2
  · refine ⟨-(v : Int), ys3, ?_, ⟨by omega, by omega⟩, h3⟩
    refine mkFn_rt (E0 := [.r false xs, .un, .un]) (E := [.r false ys3, .d (.int (v : Int)), s]) rfl rfl ?_
    unfold m__law_great
    rw [seq_nx a0, seq_nx a3]
    refine seq_rt ?_
    unfold sIf
    rw [bnd_ap, a4, go_ok, decide_eq_true (by omega), if_pos rfl]
    rfl
  · refine ⟨(v : Int), ys3, ?_, ⟨by omega, by omega⟩, h3⟩
    refine mkFn_rt (E0 := [.r false xs, .un, .un]) (E := [.r false ys3, .d (.int (v : Int)), s]) rfl rfl ?_
    unfold m__law_great
    rw [seq_nx a0, seq_nx a3, seq_nx (E1 := [.r false ys3, .d (.int (v : Int)), s]) (by unfold sIf; rw [bnd_ap, a4, go_ok, decide_eq_false (by omega), if_neg Bool.false_ne_true]; rfl)]
    rfl
end K04
/-! # K04K -/
set_option Elab.async false
set_option linter.all false
set_option maxRecDepth 100000
set_option maxHeartbeats 4000000
/-! k04, the plain law: texts. -/
namespace K04
open PySem L2 Vs
/-- signs that are signs -/
def sml (z : Str) : Prop := ∀ c ∈ z.cps.toList, c < 0x110000
theorem sml_app {a b : Str} (ha : sml a) (hb : sml b) : sml (a ++ b) := fun c hc => by
  have e : (a ++ b).cps = a.cps ++ b.cps := rfl
  rw [e, Array.toList_append] at hc
  rcases List.mem_append.mp hc with h | h
  · exact ha c h
  · exact hb c h
theorem sml_join {s : Str} (hs : sml s) : ∀ (ts : List Str), (∀ t ∈ ts, sml t) → sml (Str.join s ts)
  | [], _ => fun c hc => by cases hc
  | [x], h => h x (List.mem_singleton.mpr rfl)
  | x :: y :: r, h => sml_app (sml_app (h x (List.mem_cons_self ..)) hs) (sml_join hs (y :: r) fun t ht => h t (List.mem_cons_of_mem _ ht))
theorem sml_cut {z : Str} (h : sml z) (lo hi : Option Int) : sml (cutS z lo hi) := fun c hc => by
  refine h c ?_
  unfold cutS at hc
  simp only at hc
  exact List.mem_of_mem_drop (List.mem_of_mem_take hc)
theorem sml_all {z : Str} (h : sml z) : (z.cps.toList.all fun c => decide (c < 0x110000)) = true := List.all_eq_true.mpr fun c hc => decide_eq_true (h c hc)
def allSml (z : Str) : Bool := z.cps.toList.all fun c => decide (c < 0x110000)
theorem sml_of {z : Str} (h : allSml z = true) : sml z := fun c hc => of_decide_eq_true (List.all_eq_true.mp h c hc)
theorem signS_all : allSml signS = true := by decide +kernel
theorem signS_len : signS.cps.toList.length = 36 := by decide +kernel
theorem okS_signS : okS signS = true := by decide +kernel
theorem txts_one : ∀ cs : List Nat, txts (cs.map fun (c : Nat) => PyData.str ⟨#[c]⟩) = some (cs.map fun (c : Nat) => (⟨#[c]⟩ : Str))
  | [] => rfl
  | c :: cs => by
    show (txts (cs.map fun (c : Nat) => PyData.str ⟨#[c]⟩)).map _ = _
    rw [txts_one cs]
    rfl
theorem sum_one : ∀ cs : List Nat, ((cs.map fun (c : Nat) => (⟨#[c]⟩ : Str)).map (·.length)).sum = cs.length
  | [] => rfl
  | c :: cs => by
    have := sum_one cs
    simp only [List.map_cons, List.sum_cons, List.length_cons, this]
    show 1 + _ = _
    omega
theorem join_one {cs : List Nat} (h : ∀ c ∈ cs, c < 0x110000) (hl : cs.length ≤ 1000) : ∃ z : Str, gJoin (.str "") [.list (cs.map fun (c : Nat) => PyData.str ⟨#[c]⟩)] = some (.d (.str z)) ∧ z.length ≤ cs.length ∧ sml z := by
  refine ⟨Txt.join "" (cs.map fun (c : Nat) => (⟨#[c]⟩ : Str)), ?_, ?_, ?_⟩
  · simp only [gJoin, txts_one]
    rw [sum_one, if_pos]
    have e : (("" : String) : Str).length = 0 := by decide +kernel
    rw [e, List.length_map]
    omega
  · have h1 := StrLaws.join_length_le "" (cs.map fun (c : Nat) => (⟨#[c]⟩ : Str))
    rw [sum_one] at h1
    have e : (("" : String) : Str).length = 0 := by decide +kernel
    rw [e, Nat.mul_zero] at h1
    show (Builtin.Str.glued "" _).length ≤ _
    rw [StrLaws.glued_eq_join]
    exact h1
  · show sml (Builtin.Str.glued "" _)
    rw [StrLaws.glued_eq_join]
    refine sml_join (sml_of (by decide +kernel)) _ fun t ht => ?_
    obtain ⟨c, hc, rfl⟩ := List.mem_map.mp ht
    intro d hd
    rw [List.mem_singleton.mp hd]
    exact h c hc
theorem sign_at {r : Nat} (h : r < 36) : ∃ c, gIx (.str signS) (.int (r : Int)) = some (.d (.str ⟨#[c]⟩)) ∧ c < 0x110000 := by
  have hr : r < signS.cps.toList.length := by rw [signS_len]; exact h
  refine ⟨signS.cps.toList[r], ?_, sml_of signS_all _ (List.getElem_mem _)⟩
  show (if okS signS = true then (L2.atI signS.cps.toList (r : Int)).map (fun c => Rv.d (.str ⟨#[c]⟩)) else none) = _
  rw [if_pos okS_signS, atI_nat (List.getElem?_eq_getElem hr)]
  rfl
def pk (m : Int) : M Rv := eCall f__law_pick [true, false] (aCons (eVar 0) (aCons (eC (.int m)) aNil))
theorem pk_ok {xs ys : List Dt} {m : Int} {r : Nat} {E : En} (p : f__law_pick [.r false xs, .d (.int m)] = .ok (.d (.int (r : Int))) [.r false ys, .un]) : pk m (.r false xs :: E) = .ok (.d (.int (r : Int))) (.r false ys :: E) := by
  simp [pk, val_v, keep_v, sRet, sSeq, sIf, sSet, putV, setS, sNil, sBrk, sCnt, sExp, sUnp, unp, setAll, sAdd, sApp, sExt, sPut, mutL, sIns, sRetN, sRaise, rtV, endF, cutR, cut1, eAnd, eOr, eNot, eIf, e1, e2, eB, eC, eVar, eTup, eLst, aNil, aCons, vals, keeps, isB, tB1, tAndM, tOrM, tNotM, eSl, part, eCall, callM, prep, slotsOf, slotOf, refsOf, goBack, backs, unref, eDict, eM, gAdd, Vs.gSub, gDiv, gMod, gPow, gNeg, gCmp, gLt, gLe, gGt, gGe, gIsN, gNotN, isNone, gIsi, gIsi2, gLen, gList, gTuple, gMin, gMax, gInt, gAbs, iSeq, iEn, iCh, sFor, tgN, tgU, p]
def compT : M Rv := eLc [4] (tgN 4) (ret true) (e2 gIx (eVar 1) (pk 36)) (iRng rng1 (aCons (eVar 2) aNil))
theorem compT_ok {xs : List Dt} {n : Nat} (h : Deck xs) (hn : n ≤ 1000) : ∃ (ys : List Dt) (cs : List Nat), compT [.r false xs, .d (.str signS), .d (.int (n : Int)), .un, .un, .un, .un] = .ok (.o (cs.map fun (c : Nat) => PyData.str ⟨#[c]⟩)) [.r false ys, .d (.str signS), .d (.int (n : Int)), .un, .un, .un, .un] ∧ Deck ys ∧ (∀ c ∈ cs, c < 0x110000) ∧ cs.length = n := by
  have b1 : iRng rng1 (aCons (eVar 2) aNil) [.r false xs, .d (.str signS), .d (.int (n : Int)), .un, .un, .un, .un] = .ok (rngD 0 n) [.r false xs, .d (.str signS), .d (.int (n : Int)), .un, .un, .un, .un] := iRng1_ok (rs := [.v 2]) rfl rfl (by omega)
  obtain ⟨zs, E', e, s, ys, cs, eE, hD, ea, hc, hl⟩ := lcM_all (vs := [4]) (g := tgN 4) (mt := Vs.ret true) (me := e2 gIx (eVar 1) (pk 36)) (fun rest acc E => ∃ (s : Sl) (ys : List Dt) (cs : List Nat), E = [.r false ys, .d (.str signS), .d (.int (n : Int)), .un, s, .un, .un] ∧ Deck ys ∧ acc = (cs.map fun (c : Nat) => PyData.str ⟨#[c]⟩) ∧ (∀ c ∈ cs, c < 0x110000) ∧ cs.length + rest.length = n)
    (fun x rest acc E ⟨s, ys, cs, eE, hD, ea, hc, hl⟩ => by
      subst eE
      obtain ⟨r, zs, p1, hr, hz⟩ := pick_ok hD (m := 36) (by omega)
      obtain ⟨c, ec, hc1⟩ := sign_at (r := r) (by omega)
      refine ⟨[.r false ys, .d (.str signS), .d (.int (n : Int)), .un, .d x, .un, .un], rfl, true, _, rfl, fun hb => (Bool.noConfusion hb), fun _ => ⟨by rw [ea, List.length_map]; omega, .d (.str ⟨#[c]⟩), [.r false zs, .d (.str signS), .d (.int (n : Int)), .un, .d x, .un, .un], .str ⟨#[c]⟩, _, ?_, rfl, _, zs, cs ++ [c], rfl, hz, ?_, ?_, ?_⟩⟩
      · have p2 := pk_ok (E := [.d (.str signS), .d (.int (n : Int)), .un, .d x, .un, .un]) p1
        unfold e2
        simp only [bnd_ap]
        rw [show eVar 1 [.r false ys, .d (.str signS), .d (.int (n : Int)), .un, .d x, .un, .un] = .ok (.v 1) [.r false ys, .d (.str signS), .d (.int (n : Int)), .un, .d x, .un, .un] from rfl, go_ok]
        simp only [bnd_ap]
        rw [p2, go_ok]
        simp only [bnd_ap]
        rw [show val (fz (.v 1)) [.r false zs, .d (.str signS), .d (.int (n : Int)), .un, .d x, .un, .un] = .ok (.str signS) [.r false zs, .d (.str signS), .d (.int (n : Int)), .un, .d x, .un, .un] from rfl, go_ok]
        simp only [bnd_ap, fz_d, val_d, go_ok]
        rw [ec]
        rfl
      · rw [ea, List.map_append]; rfl
      · intro d hd
        rcases List.mem_append.mp hd with h | h
        · exact hc d h
        · rw [List.mem_singleton.mp h]; exact hc1
      · rw [List.length_append, List.length_singleton]
        rw [List.length_cons] at hl
        omega)
    (rngD 0 n) [] [.r false xs, .d (.str signS), .d (.int (n : Int)), .un, .un, .un, .un] ⟨.un, xs, [], rfl, h, rfl, fun c hc => (by cases hc), by rw [rngD_len]; simp⟩
  subst eE
  refine ⟨ys, cs, ?_, hD, hc, by simpa using hl⟩
  unfold compT eLc
  rw [bnd_ap, b1, go_ok]
  show (match lcM [4] (tgN 4) (Vs.ret true) (e2 gIx (eVar 1) (pk 36)) (rngD 0 n) [] [.r false xs, .d (.str signS), .d (.int (n : Int)), .un, .un, .un, .un] with
    | .ok ys E' => Rs.ok (Rv.o ys) (backE [.r false xs, .d (.str signS), .d (.int (n : Int)), .un, .un, .un, .un] E' [4])
    | _ => .no) = _
  rw [e, ea]
  rfl
end K04
/-! # K04L -/
set_option Elab.async false
set_option linter.all false
set_option maxRecDepth 100000
set_option maxHeartbeats 4000000
/-! k04, the plain law: a text. -/
namespace K04
open PySem L2 Vs
def cutsT : M Rv := e2 gAdd (e2 gAdd (eSl gSl (eVar 3) none (some (eVar 6))) (e2 gIx (eTup (aCons (eC (.str "A")) (aCons (eC (.str "_")) (aCons (eC (.str "\n")) (aCons (eC (.str " ")) (aCons (eC (.str "many")) (aCons (eC (.str "-")) aNil))))))) (pk 6))) (eSl gSl (eVar 3) (some (eVar 6)) none)
theorem m_text_eq : m__law_text = sSeq (sSet 1 (eC (.str signS))) (sSeq (sSet 2 (e2 gIx (eTup (aCons (eC (.int 1)) (aCons (eC (.int 2)) (aCons (eC (.int 12)) (aCons (eC (.int 13)) (aCons (eC (.int 5)) (aCons (eC (.int 0)) (aCons (eC (.int 11)) (aCons (eC (.int 3)) aNil))))))))) (pk 8))) (sSeq (sSet 3 (eM "str" gJoin (eC (.str "")) (aCons compT aNil))) (sSeq (sSet 5 (pk 6)) (sSeq (sIf (tB1 (e2 gLt (eVar 5) (eC (.int 3)))) (sRet (eVar 3)) sNil) (sSeq (sSet 6 (eCall f__law_pick [true, false] (aCons (eVar 0) (aCons (e2 gAdd (eVar 2) (eC (.int 1))) aNil)))) (sRet cutsT)))))) := rfl
theorem e2_to {g : Dt → Dt → Option Rv} {ma mb : M Rv} {E E1 E2 : En} {r1 r2 : Rv} {x y : Dt} {z : Rv} (h1 : ma E = .ok r1 E1) (h2 : mb E1 = .ok r2 E2) (v1 : val (fz r1) E2 = .ok x E2) (v2 : val (fz r2) E2 = .ok y E2) (h : g x y = some z) : e2 g ma mb E = .ok z E2 := by
  unfold e2
  simp only [bnd_ap, h1, go_ok, h2, v1, v2, h, opt_some]
theorem ty_str {z : Str} : tyD "str" (.str z) = true := rfl
theorem eM_to {T : String} {g : Dt → List Dt → Option Rv} {ma : M Rv} {E E1 : En} {x : Dt} {xs : List Dt} {z : Rv} (ht : tyD T x = true) (h : ma E = .ok (.o xs) E1) (hg : g x [.list xs] = some z) : eM T g (eC x) (aCons ma aNil) E = .ok z E1 := by
  have e1 : aCons ma aNil E = .ok [.d (.list xs)] E1 := by
    unfold aCons
    rw [bnd_ap, h]
    rfl
  unfold eM
  rw [bnd_ap, show eC x E = .ok (.d x) E from rfl, go_ok, bnd_ap, show val (fz (.d x)) E = .ok x E from rfl, go_ok, if_pos ht, bnd_ap, e1, go_ok, bnd_ap, show val (fz (.d x)) E1 = .ok x E1 from rfl, go_ok, bnd_ap, show vals [.d (.list xs)] E1 = .ok [.list xs] E1 from rfl, go_ok, hg]
  rfl
theorem set_join {T : String} {g : Dt → List Dt → Option Rv} {ma : M Rv} {E : En} {s0 s1 s2 s4 s5 s6 : Sl} {x y : Dt} {xs : List Dt} (ht : tyD T x = true) (h : ma E = .ok (.o xs) [s0, s1, s2, .un, s4, s5, s6]) (hg : g x [.list xs] = some (.d y)) : sSet 3 (eM T g (eC x) (aCons ma aNil)) E = .ok .nx [s0, s1, s2, .d y, s4, s5, s6] := by
  unfold sSet
  rw [bnd_ap, eM_to ht h hg]
  rfl
theorem many_at {r : Nat} (h : (r : Int) < 8) : ∃ n : Nat, n ≤ 13 ∧ gIx (.tuple [.int 1, .int 2, .int 12, .int 13, .int 5, .int 0, .int 11, .int 3]) (.int r) = some (.d (.int (n : Int))) := by
  have : r = 0 ∨ r = 1 ∨ r = 2 ∨ r = 3 ∨ r = 4 ∨ r = 5 ∨ r = 6 ∨ r = 7 := by omega
  rcases this with rfl | rfl | rfl | rfl | rfl | rfl | rfl | rfl
  · exact ⟨1, by omega, rfl⟩
  · exact ⟨2, by omega, rfl⟩
  · exact ⟨12, by omega, rfl⟩
  · exact ⟨13, by omega, rfl⟩
  · exact ⟨5, by omega, rfl⟩
  · exact ⟨0, by omega, rfl⟩
  · exact ⟨11, by omega, rfl⟩
  · exact ⟨3, by omega, rfl⟩
theorem odd_at {r : Nat} (h : (r : Int) < 6) : ∃ z : Str, z.length ≤ 4 ∧ sml z ∧ gIx (.tuple [.str "A", .str "_", .str "\n", .str " ", .str "many", .str "-"]) (.int r) = some (.d (.str z)) := by
  have : r = 0 ∨ r = 1 ∨ r = 2 ∨ r = 3 ∨ r = 4 ∨ r = 5 := by omega
  rcases this with rfl | rfl | rfl | rfl | rfl | rfl
  · exact ⟨"A", by decide +kernel, sml_of (by decide +kernel), rfl⟩
  · exact ⟨"_", by decide +kernel, sml_of (by decide +kernel), rfl⟩
  · exact ⟨"\n", by decide +kernel, sml_of (by decide +kernel), rfl⟩
  · exact ⟨" ", by decide +kernel, sml_of (by decide +kernel), rfl⟩
  · exact ⟨"many", by decide +kernel, sml_of (by decide +kernel), rfl⟩
  · exact ⟨"-", by decide +kernel, sml_of (by decide +kernel), rfl⟩
theorem gAdd_str {a b : Str} (h : a.length + b.length ≤ 1000000) : gAdd (.str a) (.str b) = some (.d (.str (a ++ b))) := if_pos h
theorem gSl_str {z : Str} {lo hi : Option Int} (h : okS z = true) : gSl (.str z) lo hi = some (.d (.str (cutS z lo hi))) := if_pos h
theorem text_ok {xs : List Dt} (h : Deck xs) : ∃ (z : Str) (ys : List Dt), f__law_text [.r false xs] = .ok (.d (.str z)) [.r false ys] ∧ (z.length ≤ 100 ∧ sml z) ∧ Deck ys := by
  obtain ⟨r1, y1, p1, hr1, h1⟩ := pick_ok h (m := 8) (by omega)
  obtain ⟨n, hn, en⟩ := many_at hr1
  obtain ⟨y2, cs, p2, h2, hcs, hl⟩ := compT_ok h1 (show n ≤ 1000 by omega)
  obtain ⟨z, ez, hz, sz⟩ := join_one hcs (by omega)
  obtain ⟨r3, y3, p3, hr3, h3⟩ := pick_ok h2 (m := 6) (by omega)
  have a0 : sSet 1 (eC (.str signS)) [.r false xs, .un, .un, .un, .un, .un, .un] = .ok .nx [.r false xs, .d (.str signS), .un, .un, .un, .un, .un] := rfl
  have a1 : sSet 2 (e2 gIx (eTup (aCons (eC (.int 1)) (aCons (eC (.int 2)) (aCons (eC (.int 12)) (aCons (eC (.int 13)) (aCons (eC (.int 5)) (aCons (eC (.int 0)) (aCons (eC (.int 11)) (aCons (eC (.int 3)) aNil))))))))) (pk 8)) [.r false xs, .d (.str signS), .un, .un, .un, .un, .un] = .ok .nx [.r false y1, .d (.str signS), .d (.int (n : Int)), .un, .un, .un, .un] := by
    have q := pk_ok (E := [.d (.str signS), .un, .un, .un, .un, .un]) p1
    simp [val_v, keep_v, sRet, sSeq, sIf, sSet, putV, setS, sNil, sBrk, sCnt, sExp, sUnp, unp, setAll, sAdd, sApp, sExt, sPut, mutL, sIns, sRetN, sRaise, rtV, endF, cutR, cut1, eAnd, eOr, eNot, eIf, e1, e2, eB, eC, eVar, eTup, eLst, aNil, aCons, vals, keeps, isB, tB1, tAndM, tOrM, tNotM, eSl, part, eCall, callM, prep, slotsOf, slotOf, refsOf, goBack, backs, unref, eDict, eM, gAdd, Vs.gSub, gDiv, gMod, gPow, gNeg, gCmp, gLt, gLe, gGt, gGe, gIsN, gNotN, isNone, gIsi, gIsi2, gLen, gList, gTuple, gMin, gMax, gInt, gAbs, iSeq, iEn, iCh, sFor, tgN, tgU, q, en]
  have a2 : sSet 3 (eM "str" gJoin (eC (.str "")) (aCons compT aNil)) [.r false y1, .d (.str signS), .d (.int (n : Int)), .un, .un, .un, .un] = .ok .nx [.r false y2, .d (.str signS), .d (.int (n : Int)), .d (.str z), .un, .un, .un] := by
    exact set_join ty_str p2 ez
  have a3 : sSet 5 (pk 6) [.r false y2, .d (.str signS), .d (.int (n : Int)), .d (.str z), .un, .un, .un] = .ok .nx [.r false y3, .d (.str signS), .d (.int (n : Int)), .d (.str z), .un, .d (.int (r3 : Int)), .un] := by
    have q := pk_ok (E := [.d (.str signS), .d (.int (n : Int)), .d (.str z), .un, .un, .un]) p3
    simp [val_v, keep_v, sRet, sSeq, sIf, sSet, putV, setS, sNil, sBrk, sCnt, sExp, sUnp, unp, setAll, sAdd, sApp, sExt, sPut, mutL, sIns, sRetN, sRaise, rtV, endF, cutR, cut1, eAnd, eOr, eNot, eIf, e1, e2, eB, eC, eVar, eTup, eLst, aNil, aCons, vals, keeps, isB, tB1, tAndM, tOrM, tNotM, eSl, part, eCall, callM, prep, slotsOf, slotOf, refsOf, goBack, backs, unref, eDict, eM, gAdd, Vs.gSub, gDiv, gMod, gPow, gNeg, gCmp, gLt, gLe, gGt, gGe, gIsN, gNotN, isNone, gIsi, gIsi2, gLen, gList, gTuple, gMin, gMax, gInt, gAbs, iSeq, iEn, iCh, sFor, tgN, tgU, q]
  by_cases hk : r3 < 3
  · refine ⟨z, y3, ?_, ⟨by omega, sz⟩, h3⟩
    refine mkFn_rt (E0 := [.r false xs, .un, .un, .un, .un, .un, .un]) (E := [.r false y3, .d (.str signS), .d (.int (n : Int)), .d (.str z), .un, .d (.int (r3 : Int)), .un]) rfl rfl ?_
    rw [m_text_eq, seq_nx a0, seq_nx a1, seq_nx a2, seq_nx a3]
    refine seq_rt ?_
    have hk' : (r3 : Int) < 3 := by omega
    simp [val_v, keep_v, sRet, sSeq, sIf, sSet, putV, setS, sNil, sBrk, sCnt, sExp, sUnp, unp, setAll, sAdd, sApp, sExt, sPut, mutL, sIns, sRetN, sRaise, rtV, endF, cutR, cut1, eAnd, eOr, eNot, eIf, e1, e2, eB, eC, eVar, eTup, eLst, aNil, aCons, vals, keeps, isB, tB1, tAndM, tOrM, tNotM, eSl, part, eCall, callM, prep, slotsOf, slotOf, refsOf, goBack, backs, unref, eDict, eM, gAdd, Vs.gSub, gDiv, gMod, gPow, gNeg, gCmp, gLt, gLe, gGt, gGe, gIsN, gNotN, isNone, gIsi, gIsi2, gLen, gList, gTuple, gMin, gMax, gInt, gAbs, iSeq, iEn, iCh, sFor, tgN, tgU, hk']
  · obtain ⟨r4, y4, p4, hr4, h4⟩ := pick_ok h3 (m := (n : Int) + 1) (by omega)
    obtain ⟨r5, y5, p5, hr5, h5⟩ := pick_ok h4 (m := 6) (by omega)
    obtain ⟨w, hw, sw, ew⟩ := odd_at hr5
    have hk' : ¬ (r3 : Int) < 3 := by omega
    have a4 : sIf (tB1 (e2 gLt (eVar 5) (eC (.int 3)))) (sRet (eVar 3)) sNil [.r false y3, .d (.str signS), .d (.int (n : Int)), .d (.str z), .un, .d (.int (r3 : Int)), .un] = .ok .nx [.r false y3, .d (.str signS), .d (.int (n : Int)), .d (.str z), .un, .d (.int (r3 : Int)), .un] := by
      simp [val_v, keep_v, sRet, sSeq, sIf, sSet, putV, setS, sNil, sBrk, sCnt, sExp, sUnp, unp, setAll, sAdd, sApp, sExt, sPut, mutL, sIns, sRetN, sRaise, rtV, endF, cutR, cut1, eAnd, eOr, eNot, eIf, e1, e2, eB, eC, eVar, eTup, eLst, aNil, aCons, vals, keeps, isB, tB1, tAndM, tOrM, tNotM, eSl, part, eCall, callM, prep, slotsOf, slotOf, refsOf, goBack, backs, unref, eDict, eM, gAdd, Vs.gSub, gDiv, gMod, gPow, gNeg, gCmp, gLt, gLe, gGt, gGe, gIsN, gNotN, isNone, gIsi, gIsi2, gLen, gList, gTuple, gMin, gMax, gInt, gAbs, iSeq, iEn, iCh, sFor, tgN, tgU, hk']
    have a5 : sSet 6 (eCall f__law_pick [true, false] (aCons (eVar 0) (aCons (e2 gAdd (eVar 2) (eC (.int 1))) aNil))) [.r false y3, .d (.str signS), .d (.int (n : Int)), .d (.str z), .un, .d (.int (r3 : Int)), .un] = .ok .nx [.r false y4, .d (.str signS), .d (.int (n : Int)), .d (.str z), .un, .d (.int (r3 : Int)), .d (.int (r4 : Int))] := by
      simp [val_v, keep_v, sRet, sSeq, sIf, sSet, putV, setS, sNil, sBrk, sCnt, sExp, sUnp, unp, setAll, sAdd, sApp, sExt, sPut, mutL, sIns, sRetN, sRaise, rtV, endF, cutR, cut1, eAnd, eOr, eNot, eIf, e1, e2, eB, eC, eVar, eTup, eLst, aNil, aCons, vals, keeps, isB, tB1, tAndM, tOrM, tNotM, eSl, part, eCall, callM, prep, slotsOf, slotOf, refsOf, goBack, backs, unref, eDict, eM, gAdd, Vs.gSub, gDiv, gMod, gPow, gNeg, gCmp, gLt, gLe, gGt, gGe, gIsN, gNotN, isNone, gIsi, gIsi2, gLen, gList, gTuple, gMin, gMax, gInt, gAbs, iSeq, iEn, iCh, sFor, tgN, tgU, p4]
    have ok1 : okS z = true := decide_eq_true (by omega)
    have l1 := cutS_length z none (some (r4 : Int))
    have l2 := cutS_length z (some (r4 : Int)) none
    have l3 : (cutS z none (some (r4 : Int)) ++ w).length = (cutS z none (some (r4 : Int))).length + w.length := Str.length_append _ _
    have l4 : (cutS z none (some (r4 : Int)) ++ w ++ cutS z (some (r4 : Int)) none).length = (cutS z none (some (r4 : Int)) ++ w).length + (cutS z (some (r4 : Int)) none).length := Str.length_append _ _
    have g1 : gAdd (.str (cutS z none (some (r4 : Int)))) (.str w) = _ := gAdd_str (by omega)
    have g2 : gAdd (.str (cutS z none (some (r4 : Int)) ++ w)) (.str (cutS z (some (r4 : Int)) none)) = _ := gAdd_str (by omega)
    have g3 : gSl (.str z) none (some (r4 : Int)) = _ := gSl_str ok1
    have g4 : gSl (.str z) (some (r4 : Int)) none = _ := gSl_str ok1
    refine ⟨cutS z none (some (r4 : Int)) ++ w ++ cutS z (some (r4 : Int)) none, y5, ?_, ⟨by omega, sml_app (sml_app (sml_cut sz _ _) sw) (sml_cut sz _ _)⟩, h5⟩
    refine mkFn_rt (E0 := [.r false xs, .un, .un, .un, .un, .un, .un]) (E := [.r false y5, .d (.str signS), .d (.int (n : Int)), .d (.str z), .un, .d (.int (r3 : Int)), .d (.int (r4 : Int))]) rfl rfl ?_
    rw [m_text_eq, seq_nx a0, seq_nx a1, seq_nx a2, seq_nx a3, seq_nx a4, seq_nx a5]
    have q := pk_ok (E := [.d (.str signS), .d (.int (n : Int)), .d (.str z), .un, .d (.int (r3 : Int)), .d (.int (r4 : Int))]) p5
    have t1 : eSl gSl (eVar 3) none (some (eVar 6)) [.r false y4, .d (.str signS), .d (.int (n : Int)), .d (.str z), .un, .d (.int (r3 : Int)), .d (.int (r4 : Int))] = .ok (.d (.str (cutS z none (some (r4 : Int))))) [.r false y4, .d (.str signS), .d (.int (n : Int)), .d (.str z), .un, .d (.int (r3 : Int)), .d (.int (r4 : Int))] := by
      simp [val_v, keep_v, sRet, sSeq, sIf, sSet, putV, setS, sNil, sBrk, sCnt, sExp, sUnp, unp, setAll, sAdd, sApp, sExt, sPut, mutL, sIns, sRetN, sRaise, rtV, endF, cutR, cut1, eAnd, eOr, eNot, eIf, e1, e2, eB, eC, eVar, eTup, eLst, aNil, aCons, vals, keeps, isB, tB1, tAndM, tOrM, tNotM, eSl, part, eCall, callM, prep, slotsOf, slotOf, refsOf, goBack, backs, unref, eDict, eM, gAdd, Vs.gSub, gDiv, gMod, gPow, gNeg, gCmp, gLt, gLe, gGt, gGe, gIsN, gNotN, isNone, gIsi, gIsi2, gLen, gList, gTuple, gMin, gMax, gInt, gAbs, iSeq, iEn, iCh, sFor, tgN, tgU, g3]
    have t2 : eSl gSl (eVar 3) (some (eVar 6)) none [.r false y5, .d (.str signS), .d (.int (n : Int)), .d (.str z), .un, .d (.int (r3 : Int)), .d (.int (r4 : Int))] = .ok (.d (.str (cutS z (some (r4 : Int)) none))) [.r false y5, .d (.str signS), .d (.int (n : Int)), .d (.str z), .un, .d (.int (r3 : Int)), .d (.int (r4 : Int))] := by
      simp [val_v, keep_v, sRet, sSeq, sIf, sSet, putV, setS, sNil, sBrk, sCnt, sExp, sUnp, unp, setAll, sAdd, sApp, sExt, sPut, mutL, sIns, sRetN, sRaise, rtV, endF, cutR, cut1, eAnd, eOr, eNot, eIf, e1, e2, eB, eC, eVar, eTup, eLst, aNil, aCons, vals, keeps, isB, tB1, tAndM, tOrM, tNotM, eSl, part, eCall, callM, prep, slotsOf, slotOf, refsOf, goBack, backs, unref, eDict, eM, gAdd, Vs.gSub, gDiv, gMod, gPow, gNeg, gCmp, gLt, gLe, gGt, gGe, gIsN, gNotN, isNone, gIsi, gIsi2, gLen, gList, gTuple, gMin, gMax, gInt, gAbs, iSeq, iEn, iCh, sFor, tgN, tgU, g4]
    have t0 : eTup (aCons (eC (.str "A")) (aCons (eC (.str "_")) (aCons (eC (.str "\n")) (aCons (eC (.str " ")) (aCons (eC (.str "many")) (aCons (eC (.str "-")) aNil)))))) [.r false y4, .d (.str signS), .d (.int (n : Int)), .d (.str z), .un, .d (.int (r3 : Int)), .d (.int (r4 : Int))] = .ok (.d (.tuple [.str "A", .str "_", .str "\n", .str " ", .str "many", .str "-"])) [.r false y4, .d (.str signS), .d (.int (n : Int)), .d (.str z), .un, .d (.int (r3 : Int)), .d (.int (r4 : Int))] := by
      simp [val_v, keep_v, sRet, sSeq, sIf, sSet, putV, setS, sNil, sBrk, sCnt, sExp, sUnp, unp, setAll, sAdd, sApp, sExt, sPut, mutL, sIns, sRetN, sRaise, rtV, endF, cutR, cut1, eAnd, eOr, eNot, eIf, e1, e2, eB, eC, eVar, eTup, eLst, aNil, aCons, vals, keeps, isB, tB1, tAndM, tOrM, tNotM, eSl, part, eCall, callM, prep, slotsOf, slotOf, refsOf, goBack, backs, unref, eDict, eM, gAdd, Vs.gSub, gDiv, gMod, gPow, gNeg, gCmp, gLt, gLe, gGt, gGe, gIsN, gNotN, isNone, gIsi, gIsi2, gLen, gList, gTuple, gMin, gMax, gInt, gAbs, iSeq, iEn, iCh, sFor, tgN, tgU]
    have t3 := e2_to (g := gIx) t0 q rfl rfl ew
    have t4 := e2_to (g := gAdd) t1 t3 rfl rfl g1
    have t5 := e2_to (g := gAdd) t4 t2 rfl rfl g2
    unfold cutsT sRet
    rw [bnd_ap, t5]
    rfl
end K04
/-! # K04N -/
set_option Elab.async false
set_option linter.all false
set_option maxRecDepth 100000
set_option maxHeartbeats 4000000
/-! k04, the plain law: a leaf. -/
namespace K04
open PySem L2 Vs
structure Fine (n d : Nat) (x : Dt) : Prop where
  ok : okD x = true
  b : bd x ≤ n
  t : tot x ≤ n
  dp : x.depth ≤ d
theorem if_t {mc : M Bool} {m n : M Fl} {E E1 : En} (h : mc E = .ok true E1) : sIf mc m n E = m E1 := by
  unfold sIf
  rw [bnd_ap, h, go_ok, if_pos rfl]
theorem if_f {mc : M Bool} {m n : M Fl} {E E1 : En} (h : mc E = .ok false E1) : sIf mc m n E = n E1 := by
  unfold sIf
  rw [bnd_ap, h, go_ok, if_neg Bool.false_ne_true]
theorem skip {mc : M Bool} {m n : M Fl} {E E1 : En} (h : mc E = .ok false E1) : sSeq (sIf mc m sNil) n E = n E1 := seq_nx ((if_f h).trans rfl)
theorem take {mc : M Bool} {m n : M Fl} {E E1 E2 : En} {r : Rv} (h : mc E = .ok true E1) (h2 : m E1 = .ok (.rt r) E2) : sSeq (sIf mc m sNil) n E = .ok (.rt r) E2 := seq_rt ((if_t h).trans h2)
theorem ret_ok {me : M Rv} {E E1 : En} {x : Dt} (h : me E = .ok (.d x) E1) : sRet me E = .ok (.rt (.d x)) E1 := by
  unfold sRet
  rw [bnd_ap, h]
  rfl
def isK (i : Nat) (j : Int) : M Bool := tB1 (e2 gEq (eVar i) (eC (.int j)))
theorem isK_ok {k j : Int} {i : Nat} {E : En} (h : E[i]? = some (.d (.int k))) : isK i j E = .ok (decide (k = j)) E := by
  have q : e2 gEq (eVar i) (eC (.int j)) E = .ok (.d (.bool (decide (k = j)))) E := by
    refine e2_go (r1 := .v i) (r2 := .d (.int j)) (x := .int k) (y := .int j) (eVar_d h) rfl ?_ rfl ?_
    · rw [fz_v, val_v, h]; rfl
    · simp [gEq, eqD]
  unfold isK tB1
  rw [bnd_ap, q]
  rfl
theorem isK_t {k j : Int} {i : Nat} {E : En} (h : E[i]? = some (.d (.int k))) (e : k = j) : isK i j E = .ok true E := by
  rw [isK_ok h, decide_eq_true e]
theorem isK_f {k j : Int} {i : Nat} {E : En} (h : E[i]? = some (.d (.int k))) (e : k ≠ j) : isK i j E = .ok false E := by
  rw [isK_ok h, decide_eq_false e]
theorem set_at {me : M Rv} {E : En} {s0 : Sl} {x : Dt} {t : En} (h : me E = .ok (.d x) (s0 :: .un :: t)) : sSet 1 me E = .ok .nx (s0 :: .d x :: t) := by
  unfold sSet
  rw [bnd_ap, h]
  rfl
theorem m_leaf_eq : m__law_leaf = sSeq (sSet 1 (pk 8)) (sSeq (sIf (isK 1 1) (sRet (eC (.bool true))) sNil) (sSeq (sIf (isK 1 2) (sRet (eC (.bool false))) sNil) (sSeq (sIf (isK 1 3) (sRet (eC .none)) sNil) (sSeq (sIf (tOrM (isK 1 4) (isK 1 5)) (sRet (eCall f__law_text [true] (aCons (eVar 0) aNil))) sNil) (sSeq (sIf (isK 1 6) (sRet (eDict "a" (eLst (aCons (pk 36) (aCons (eTup (aCons (eC (.int 1)) (aCons (eLst (aCons (eC (.int 2)) aNil)) aNil))) aNil))))) sNil) (sRet (eCall f__law_great [true] (aCons (eVar 0) aNil)))))))) := rfl
theorem or_t {a b : M Bool} {E E1 : En} (h : a E = .ok true E1) : tOrM a b E = .ok true E1 := by
  unfold tOrM
  rw [bnd_ap, h, go_ok, if_pos rfl]
  rfl
theorem or_f {a b : M Bool} {E E1 : En} (h : a E = .ok false E1) : tOrM a b E = b E1 := by
  unfold tOrM
  rw [bnd_ap, h, go_ok, if_neg Bool.false_ne_true]
theorem call0 {f : Fn} {xs ys : List Dt} {x : Dt} {E : En} (h : f [.r false xs] = .ok (.d x) [.r false ys]) : eCall f [true] (aCons (eVar 0) aNil) (.r false xs :: E) = .ok (.d x) (.r false ys :: E) := by
  simp [val_v, keep_v, sRet, sSeq, sIf, sSet, putV, setS, sNil, sBrk, sCnt, sExp, sUnp, unp, setAll, sAdd, sApp, sExt, sPut, mutL, sIns, sRetN, sRaise, rtV, endF, cutR, cut1, eAnd, eOr, eNot, eIf, e1, e2, eB, eC, eVar, eTup, eLst, aNil, aCons, vals, keeps, isB, tB1, tAndM, tOrM, tNotM, eSl, part, eCall, callM, prep, slotsOf, slotOf, refsOf, goBack, backs, unref, eDict, eM, gAdd, Vs.gSub, gDiv, gMod, gPow, gNeg, gCmp, gLt, gLe, gGt, gGe, gIsN, gNotN, isNone, gIsi, gIsi2, gLen, gList, gTuple, gMin, gMax, gInt, gAbs, iSeq, iEn, iCh, sFor, tgN, tgU, h]
theorem leaf_ok {xs : List Dt} (h : Deck xs) : ∃ (x : Dt) (ys : List Dt), f__law_leaf [.r false xs] = .ok (.d x) [.r false ys] ∧ (Fine 1010 5 x ∧ pf x = x) ∧ Deck ys := by
  obtain ⟨k, y1, p1, hk, h1⟩ := pick_ok h (m := 8) (by omega)
  have a1 : sSet 1 (pk 8) [.r false xs, .un] = .ok .nx [.r false y1, .d (.int (k : Int))] := set_at (pk_ok p1)
  have fin : ∀ {x : Dt} {ys : List Dt} {E : En}, m__law_leaf [.r false xs, .un] = .ok (.rt (.d x)) [.r false ys, .d (.int (k : Int))] → f__law_leaf [.r false xs] = .ok (.d x) [.r false ys] := fun hm => mkFn_rt (E0 := [.r false xs, .un]) rfl rfl hm
  by_cases k1 : (k : Int) = 1
  · refine ⟨.bool true, y1, fin (E := []) ?_, ⟨⟨rfl, by decide, by decide, by decide⟩, rfl⟩, h1⟩
    rw [m_leaf_eq, seq_nx a1]
    exact take (isK_t rfl k1) rfl
  by_cases k2 : (k : Int) = 2
  · refine ⟨.bool false, y1, fin (E := []) ?_, ⟨⟨rfl, by decide, by decide, by decide⟩, rfl⟩, h1⟩
    rw [m_leaf_eq, seq_nx a1, skip (isK_f rfl k1)]
    exact take (isK_t rfl k2) rfl
  by_cases k3 : (k : Int) = 3
  · refine ⟨.none, y1, fin (E := []) ?_, ⟨⟨rfl, by decide, by decide, by decide⟩, rfl⟩, h1⟩
    rw [m_leaf_eq, seq_nx a1, skip (isK_f rfl k1), skip (isK_f rfl k2)]
    exact take (isK_t rfl k3) rfl
  by_cases k45 : (k : Int) = 4 ∨ (k : Int) = 5
  · obtain ⟨z, y2, p2, ⟨hz, sz⟩, h2⟩ := text_ok h1
    refine ⟨.str z, y2, fin (E := []) ?_, ⟨⟨?_, ?_, by simp [tot], by simp [PyData.depth]⟩, rfl⟩, h2⟩
    · rw [m_leaf_eq, seq_nx a1, skip (isK_f rfl k1), skip (isK_f rfl k2), skip (isK_f rfl k3)]
      refine take ?_ (ret_ok (call0 p2))
      by_cases k4 : (k : Int) = 4
      · exact or_t (isK_t rfl k4)
      · rw [or_f (isK_f rfl k4)]
        exact isK_t rfl (by omega)
    · show (decide (z.length ≤ 1000) && _) = true
      rw [decide_eq_true (by omega), sml_all sz]
      rfl
    · show 10 * z.length + 2 ≤ 1010
      omega
  have s4 : tOrM (isK 1 4) (isK 1 5) [.r false y1, .d (.int (k : Int))] = .ok false [.r false y1, .d (.int (k : Int))] := by
    rw [or_f (isK_f rfl (by omega))]
    exact isK_f rfl (by omega)
  by_cases k6 : (k : Int) = 6
  · obtain ⟨r, y2, p2, hr, h2⟩ := pick_ok h1 (m := 36) (by omega)
    refine ⟨.dict [(.str "a", .list [.int (r : Int), .tuple [.int 1, .list [.int 2]]])], y2, fin (E := []) ?_, ⟨⟨?_, ?_, by simp [tot], ?_⟩, rfl⟩, h2⟩
    · rw [m_leaf_eq, seq_nx a1, skip (isK_f rfl k1), skip (isK_f rfl k2), skip (isK_f rfl k3), skip s4]
      refine take (isK_t rfl k6) (ret_ok ?_)
      have q := pk_ok (E := [.d (.int (k : Int))]) p2
      simp [val_v, keep_v, sRet, sSeq, sIf, sSet, putV, setS, sNil, sBrk, sCnt, sExp, sUnp, unp, setAll, sAdd, sApp, sExt, sPut, mutL, sIns, sRetN, sRaise, rtV, endF, cutR, cut1, eAnd, eOr, eNot, eIf, e1, e2, eB, eC, eVar, eTup, eLst, aNil, aCons, vals, keeps, isB, tB1, tAndM, tOrM, tNotM, eSl, part, eCall, callM, prep, slotsOf, slotOf, refsOf, goBack, backs, unref, eDict, eM, gAdd, Vs.gSub, gDiv, gMod, gPow, gNeg, gCmp, gLt, gLe, gGt, gGe, gIsN, gNotN, isNone, gIsi, gIsi2, gLen, gList, gTuple, gMin, gMax, gInt, gAbs, iSeq, iEn, iCh, sFor, tgN, tgU, q]
    · simp only [okD, okKv, okDs, Bool.and_true, Bool.and_eq_true]
      refine ⟨by decide +kernel, ?_, by decide, by decide⟩
      exact decide_eq_true ⟨by omega, by omega⟩
    · have e : (("a" : String) : Str).length = 1 := by decide +kernel
      simp [bd, bkv, bds, e]
    · simp [PyData.depth, PyData.depthAll, PyData.depthKv]
  · obtain ⟨i, y2, p2, ⟨hi1, hi2⟩, h2⟩ := great_ok h1
    refine ⟨.int i, y2, fin (E := []) ?_, ⟨⟨decide_eq_true ⟨by omega, by omega⟩, by simp [bd], by simp [tot], by simp [PyData.depth]⟩, rfl⟩, h2⟩
    rw [m_leaf_eq, seq_nx a1, skip (isK_f rfl k1), skip (isK_f rfl k2), skip (isK_f rfl k3), skip s4, skip (isK_f rfl k6)]
    exact ret_ok (call0 p2)
end K04
/-! # K04O -/
set_option Elab.async false
set_option linter.all false
set_option maxRecDepth 100000
set_option maxHeartbeats 4000000
/-! k04, the plain law: beside. -/
namespace K04
open PySem L2 Vs
theorem m_beside_eq : m__law_beside = sSeq (sSet 1 (pk 6)) (sSeq (sSet 2 (eCall f__law_leaf [true] (aCons (eVar 0) aNil))) (sSeq (sIf (isK 1 1) (sRet (eTup (aCons (eLst aNil) (aCons (eTup aNil) aNil)))) sNil) (sSeq (sIf (isK 1 2) (sRet (eTup (aCons (eLst (aCons (eVar 2) (aCons (eTup (aCons (eVar 2) (aCons (eLst aNil) aNil))) aNil))) (aCons (eTup (aCons (eVar 2) (aCons (eTup (aCons (eVar 2) (aCons (eTup aNil) aNil))) aNil))) aNil)))) sNil) (sSeq (sIf (isK 1 3) (sSeq (sSet 3 (eLst (aCons (eVar 2) aNil))) (sRet (eTup (aCons (eTup (aCons (eVar 3) (aCons (eVar 3) aNil))) (aCons (eTup (aCons (eTup (aCons (eVar 2) aNil)) (aCons (eTup (aCons (eVar 2) aNil)) aNil))) aNil))))) sNil) (sSeq (sIf (isK 1 4) (sRet (eTup (aCons (eTup (aCons (eVar 2) (aCons (eVar 2) aNil))) (aCons (eTup (aCons (eVar 2) (aCons (eVar 2) aNil))) aNil)))) sNil) (sRet (eTup (aCons (eVar 2) (aCons (eVar 2) aNil))))))))) := rfl
theorem beside_ok {xs : List Dt} (h : Deck xs) : ∃ (a b : Dt) (ys : List Dt), f__law_beside [.r false xs] = .ok (.d (.tuple [a, b])) [.r false ys] ∧ (Fine 2100 8 a ∧ b = pf a) ∧ Deck ys := by
  obtain ⟨k, y1, p1, hk, h1⟩ := pick_ok h (m := 6) (by omega)
  obtain ⟨x, y2, p2, ⟨hx, hp⟩, h2⟩ := leaf_ok h1
  obtain ⟨x1, x2, x3, x4⟩ := hx
  have a1 : sSet 1 (pk 6) [.r false xs, .un, .un, .un] = .ok .nx [.r false y1, .d (.int (k : Int)), .un, .un] := set_at (pk_ok p1)
  have a2 : sSet 2 (eCall f__law_leaf [true] (aCons (eVar 0) aNil)) [.r false y1, .d (.int (k : Int)), .un, .un] = .ok .nx [.r false y2, .d (.int (k : Int)), .d x, .un] := by
    unfold sSet
    rw [bnd_ap, call0 p2]
    rfl
  have fin : ∀ {a b : Dt} {E : En} {s : Sl}, m__law_beside [.r false xs, .un, .un, .un] = .ok (.rt (.d (.tuple [a, b]))) [.r false y2, .d (.int (k : Int)), .d x, s] → f__law_beside [.r false xs] = .ok (.d (.tuple [a, b])) [.r false y2] := fun hm => mkFn_rt (E0 := [.r false xs, .un, .un, .un]) rfl rfl hm
  by_cases k1 : (k : Int) = 1
  · refine ⟨.list [], .tuple [], y2, fin (E := []) (s := .un) ?_, ⟨⟨rfl, by decide, by decide, by decide⟩, rfl⟩, h2⟩
    rw [m_beside_eq, seq_nx a1, seq_nx a2]
    exact take (isK_t rfl k1) (ret_ok (by simp [val_v, keep_v, sRet, sSeq, sIf, sSet, putV, setS, sNil, sBrk, sCnt, sExp, sUnp, unp, setAll, sAdd, sApp, sExt, sPut, mutL, sIns, sRetN, sRaise, rtV, endF, cutR, cut1, eAnd, eOr, eNot, eIf, e1, e2, eB, eC, eVar, eTup, eLst, aNil, aCons, vals, keeps, isB, tB1, tAndM, tOrM, tNotM, eSl, part, eCall, callM, prep, slotsOf, slotOf, refsOf, goBack, backs, unref, eDict, eM, gAdd, Vs.gSub, gDiv, gMod, gPow, gNeg, gCmp, gLt, gLe, gGt, gGe, gIsN, gNotN, isNone, gIsi, gIsi2, gLen, gList, gTuple, gMin, gMax, gInt, gAbs, iSeq, iEn, iCh, sFor, tgN, tgU]))
  by_cases k2 : (k : Int) = 2
  · refine ⟨.list [x, .tuple [x, .list []]], .tuple [x, .tuple [x, .tuple []]], y2, fin (E := []) (s := .un) ?_, ⟨⟨?_, ?_, ?_, ?_⟩, by simp only [pf, pfs, hp]⟩, h2⟩
    · rw [m_beside_eq, seq_nx a1, seq_nx a2, skip (isK_f rfl k1)]
      exact take (isK_t rfl k2) (ret_ok (by simp [val_v, keep_v, sRet, sSeq, sIf, sSet, putV, setS, sNil, sBrk, sCnt, sExp, sUnp, unp, setAll, sAdd, sApp, sExt, sPut, mutL, sIns, sRetN, sRaise, rtV, endF, cutR, cut1, eAnd, eOr, eNot, eIf, e1, e2, eB, eC, eVar, eTup, eLst, aNil, aCons, vals, keeps, isB, tB1, tAndM, tOrM, tNotM, eSl, part, eCall, callM, prep, slotsOf, slotOf, refsOf, goBack, backs, unref, eDict, eM, gAdd, Vs.gSub, gDiv, gMod, gPow, gNeg, gCmp, gLt, gLe, gGt, gGe, gIsN, gNotN, isNone, gIsi, gIsi2, gLen, gList, gTuple, gMin, gMax, gInt, gAbs, iSeq, iEn, iCh, sFor, tgN, tgU]))
    · simp only [okD, okDs, x1, Bool.and_true]
    · simp only [bd, bds]; omega
    · simp only [tot, tots]; omega
    · simp only [PyData.depth, PyData.depthAll]; omega
  by_cases k3 : (k : Int) = 3
  · refine ⟨.tuple [.list [x], .list [x]], .tuple [.tuple [x], .tuple [x]], y2, fin (E := []) (s := .d (.list [x])) ?_, ⟨⟨?_, ?_, ?_, ?_⟩, by simp only [pf, pfs, hp]⟩, h2⟩
    · rw [m_beside_eq, seq_nx a1, seq_nx a2, skip (isK_f rfl k1), skip (isK_f rfl k2)]
      refine take (isK_t rfl k3) ?_
      rw [seq_nx (E1 := [.r false y2, .d (.int (k : Int)), .d x, .l [x]]) (by simp [val_v, keep_v, sRet, sSeq, sIf, sSet, putV, setS, sNil, sBrk, sCnt, sExp, sUnp, unp, setAll, sAdd, sApp, sExt, sPut, mutL, sIns, sRetN, sRaise, rtV, endF, cutR, cut1, eAnd, eOr, eNot, eIf, e1, e2, eB, eC, eVar, eTup, eLst, aNil, aCons, vals, keeps, isB, tB1, tAndM, tOrM, tNotM, eSl, part, eCall, callM, prep, slotsOf, slotOf, refsOf, goBack, backs, unref, eDict, eM, gAdd, Vs.gSub, gDiv, gMod, gPow, gNeg, gCmp, gLt, gLe, gGt, gGe, gIsN, gNotN, isNone, gIsi, gIsi2, gLen, gList, gTuple, gMin, gMax, gInt, gAbs, iSeq, iEn, iCh, sFor, tgN, tgU])]
      exact ret_ok (by simp [val_v, keep_v, sRet, sSeq, sIf, sSet, putV, setS, sNil, sBrk, sCnt, sExp, sUnp, unp, setAll, sAdd, sApp, sExt, sPut, mutL, sIns, sRetN, sRaise, rtV, endF, cutR, cut1, eAnd, eOr, eNot, eIf, e1, e2, eB, eC, eVar, eTup, eLst, aNil, aCons, vals, keeps, isB, tB1, tAndM, tOrM, tNotM, eSl, part, eCall, callM, prep, slotsOf, slotOf, refsOf, goBack, backs, unref, eDict, eM, gAdd, Vs.gSub, gDiv, gMod, gPow, gNeg, gCmp, gLt, gLe, gGt, gGe, gIsN, gNotN, isNone, gIsi, gIsi2, gLen, gList, gTuple, gMin, gMax, gInt, gAbs, iSeq, iEn, iCh, sFor, tgN, tgU])
    · simp only [okD, okDs, x1, Bool.and_true]
    · simp only [bd, bds]; omega
    · simp only [tot, tots]; omega
    · simp only [PyData.depth, PyData.depthAll]; omega
  by_cases k4 : (k : Int) = 4
  · refine ⟨.tuple [x, x], .tuple [x, x], y2, fin (E := []) (s := .un) ?_, ⟨⟨?_, ?_, ?_, ?_⟩, by simp only [pf, pfs, hp]⟩, h2⟩
    · rw [m_beside_eq, seq_nx a1, seq_nx a2, skip (isK_f rfl k1), skip (isK_f rfl k2), skip (isK_f rfl k3)]
      exact take (isK_t rfl k4) (ret_ok (by simp [val_v, keep_v, sRet, sSeq, sIf, sSet, putV, setS, sNil, sBrk, sCnt, sExp, sUnp, unp, setAll, sAdd, sApp, sExt, sPut, mutL, sIns, sRetN, sRaise, rtV, endF, cutR, cut1, eAnd, eOr, eNot, eIf, e1, e2, eB, eC, eVar, eTup, eLst, aNil, aCons, vals, keeps, isB, tB1, tAndM, tOrM, tNotM, eSl, part, eCall, callM, prep, slotsOf, slotOf, refsOf, goBack, backs, unref, eDict, eM, gAdd, Vs.gSub, gDiv, gMod, gPow, gNeg, gCmp, gLt, gLe, gGt, gGe, gIsN, gNotN, isNone, gIsi, gIsi2, gLen, gList, gTuple, gMin, gMax, gInt, gAbs, iSeq, iEn, iCh, sFor, tgN, tgU]))
    · simp only [okD, okDs, x1, Bool.and_true]
    · simp only [bd, bds]; omega
    · simp only [tot, tots]; omega
    · simp only [PyData.depth, PyData.depthAll]; omega
  · refine ⟨x, x, y2, fin (E := []) (s := .un) ?_, ⟨⟨x1, by omega, by omega, by omega⟩, hp.symm⟩, h2⟩
    rw [m_beside_eq, seq_nx a1, seq_nx a2, skip (isK_f rfl k1), skip (isK_f rfl k2), skip (isK_f rfl k3), skip (isK_f rfl k4)]
    exact ret_ok (by simp [val_v, keep_v, sRet, sSeq, sIf, sSet, putV, setS, sNil, sBrk, sCnt, sExp, sUnp, unp, setAll, sAdd, sApp, sExt, sPut, mutL, sIns, sRetN, sRaise, rtV, endF, cutR, cut1, eAnd, eOr, eNot, eIf, e1, e2, eB, eC, eVar, eTup, eLst, aNil, aCons, vals, keeps, isB, tB1, tAndM, tOrM, tNotM, eSl, part, eCall, callM, prep, slotsOf, slotOf, refsOf, goBack, backs, unref, eDict, eM, gAdd, Vs.gSub, gDiv, gMod, gPow, gNeg, gCmp, gLt, gLe, gGt, gGe, gIsN, gNotN, isNone, gIsi, gIsi2, gLen, gList, gTuple, gMin, gMax, gInt, gAbs, iSeq, iEn, iCh, sFor, tgN, tgU])
end K04
/-! # K04Q -/
set_option Elab.async false
set_option linter.all false
set_option maxRecDepth 100000
set_option maxHeartbeats 4000000
/-! k04, the plain law: a thing; one more in a row. -/
namespace K04
open PySem L2 Vs
theorem bds_app : ∀ xs ys : List Dt, bds (xs ++ ys) = bds xs + bds ys
  | [], ys => by simp [bds]
  | x :: xs, ys => by simp only [List.cons_append, bds, bds_app xs ys]; omega
theorem tots_app : ∀ xs ys : List Dt, tots (xs ++ ys) = tots xs + tots ys
  | [], ys => by simp [tots]
  | x :: xs, ys => by simp only [List.cons_append, tots, tots_app xs ys]; omega
theorem okDs_app : ∀ xs ys : List Dt, okDs (xs ++ ys) = (okDs xs && okDs ys)
  | [], ys => by simp [okDs]
  | x :: xs, ys => by simp only [List.cons_append, okDs, okDs_app xs ys, Bool.and_assoc]
theorem depths_app : ∀ xs ys : List Dt, PyData.depthAll (xs ++ ys) = max (PyData.depthAll xs) (PyData.depthAll ys)
  | [], ys => by simp [PyData.depthAll]
  | x :: xs, ys => by simp only [List.cons_append, PyData.depthAll, depths_app xs ys]; omega
structure Row (n d m : Nat) (xs : List Dt) : Prop where
  ok : okDs xs = true
  b : bds xs ≤ n
  t : tots xs ≤ n
  dp : PyData.depthAll xs ≤ d
  ln : xs.length ≤ m
theorem Row.ins {n d m a e : Nat} {xs : List Dt} {x : Dt} (h : Row n d m xs) (hx : Fine a e x) (he : e ≤ d) (k : Int) : Row (n + a + 2) d (m + 1) (insD xs k x) := by
  have s : xs.take k.toNat ++ xs.drop k.toNat = xs := List.take_append_drop _ _
  obtain ⟨o, b, t, dp, ln⟩ := h
  have o' := okDs_app (xs.take k.toNat) (xs.drop k.toNat)
  have b' := bds_app (xs.take k.toNat) (xs.drop k.toNat)
  have t' := tots_app (xs.take k.toNat) (xs.drop k.toNat)
  have d' := depths_app (xs.take k.toNat) (xs.drop k.toNat)
  have l' := congrArg List.length s
  rw [s] at o' b' t' d'
  rw [List.length_append] at l'
  rw [o, eq_comm, Bool.and_eq_true] at o'
  unfold insD
  refine ⟨?_, ?_, ?_, ?_, ?_⟩
  · simp only [okDs_app, okDs, o'.1, o'.2, hx.ok, Bool.and_true]
  · simp only [bds_app, bds]; have := hx.b; omega
  · simp only [tots_app, tots]; have := hx.t; omega
  · simp only [depths_app, PyData.depthAll]; have := hx.dp; omega
  · simp only [List.length_append, List.length_singleton]; omega
theorem pfs_ins (xs : List Dt) (k : Int) (x : Dt) : pfs (insD xs k x) = insD (pfs xs) k (pf x) := by
  unfold insD
  simp only [pfs_map, List.map_append, List.map_take, List.map_drop, List.map_cons, List.map_nil]
def free (s : Sl) : Prop := s = .un ∨ ∃ y, s = .d y
theorem setS_free {E : En} {i : Nat} {s0 s : Sl} (h : E[i]? = some s0) (hf : free s0) : setS i s E = .ok .nx (E.set i s) := by
  unfold setS
  rw [h]
  rcases hf with rfl | ⟨y, rfl⟩ <;> rfl
theorem aCons_go {ma : M Rv} {mr : M (List Rv)} {E E1 E2 : En} {r : Rv} {rs : List Rv} (h : ma E = .ok r E1) (h2 : mr E1 = .ok rs E2) : aCons ma mr E = .ok (fz r :: rs) E2 := by
  unfold aCons
  rw [bnd_ap, h, go_ok, bnd_ap, h2]
  rfl
def bodyI : M Fl := sSeq (sSet 7 (eCall f__law_beside [true] (aCons (eVar 0) aNil))) (sSeq (sSet 8 (eCall f__law_pick [true, false] (aCons (eVar 0) (aCons (e2 gAdd (eB gLen (aCons (eVar 4) aNil)) (eC (.int 1))) aNil)))) (sSeq (sIns 4 (aCons (eVar 8) (aCons (e2 gIx (eVar 7) (eC (.int 0))) aNil))) (sIns 5 (aCons (eVar 8) (aCons (e2 gIx (eVar 7) (eC (.int 1))) aNil)))))
theorem sIns_ok {i : Nat} {ma : M (List Rv)} {E : En} {s : Sl} {xs : List Dt} {k : Nat} {x : Dt} (hs : E[i]? = some s) (ho : ownL s = some xs) (ha : ma E = .ok [.v 8, .d x] E) (hk : E[8]? = some (.d (.int (k : Int)))) (hl : xs.length ≤ 1000) (hk2 : k ≤ 1000) : sIns i ma E = .ok .nx (E.set i (putL s (insD xs k x))) := by
  unfold sIns
  rw [hs]
  show (match ownL s with | some _ => _ | none => _) = _
  rw [ho]
  simp only [bnd_ap]
  rw [ha, go_ok]
  simp only [bnd_ap]
  rw [val_v, hk]
  simp only [Option.bind_some, slotD_d, go_ok, keep_d, bnd_ap]
  unfold mutL
  rw [hs]
  simp only [ho, Option.bind_some]
  rw [okLen_of (by omega), decide_eq_true (show 0 ≤ (k : Int) ∧ (k : Int) < 2 ^ 62 from ⟨by omega, by omega⟩)]
  rfl
theorem bodyI_ok {xs row dues : List Dt} {t u n s6 s7 s8 : Sl} (h : Deck xs) (hl : row.length ≤ 900) (hd : dues.length ≤ 900) (h7 : free s7) (h8 : free s8) :
    ∃ (a : Dt) (k : Nat) (ys : List Dt) (s7' s8' : Sl), bodyI [.r false xs, t, u, n, .l row, .l dues, s6, s7, s8] = .ok .nx [.r false ys, t, u, n, .l (insD row k a), .l (insD dues k (pf a)), s6, s7', s8'] ∧ free s7' ∧ free s8' ∧ Fine 2100 8 a ∧ Deck ys := by
  obtain ⟨a, b, y1, p1, ⟨hf, hb⟩, h1⟩ := beside_ok h
  subst hb
  obtain ⟨k, y2, p2, hk, h2⟩ := pick_ok h1 (m := (row.length : Int) + 1) (by omega)
  refine ⟨a, k, y2, .d (.tuple [a, pf a]), .d (.int (k : Int)), ?_, .inr ⟨_, rfl⟩, .inr ⟨_, rfl⟩, hf, h2⟩
  have a1 : sSet 7 (eCall f__law_beside [true] (aCons (eVar 0) aNil)) [.r false xs, t, u, n, .l row, .l dues, s6, s7, s8] = .ok .nx [.r false y1, t, u, n, .l row, .l dues, s6, .d (.tuple [a, pf a]), s8] := by
    unfold sSet
    rw [bnd_ap, call0 p1, go_ok]
    show setS 7 (.d (.tuple [a, pf a])) _ = _
    rw [setS_free (s0 := s7) rfl h7]
    rfl
  have q1 : e2 gAdd (eB gLen (aCons (eVar 4) aNil)) (eC (.int 1)) [.r false y1, t, u, n, .l row, .l dues, s6, .d (.tuple [a, pf a]), s8] = .ok (.d (.int ((row.length : Int) + 1))) [.r false y1, t, u, n, .l row, .l dues, s6, .d (.tuple [a, pf a]), s8] := by
    simp [val_v, keep_v, sRet, sSeq, sIf, sSet, putV, setS, sNil, sBrk, sCnt, sExp, sUnp, unp, setAll, sAdd, sApp, sExt, sPut, mutL, sIns, sRetN, sRaise, rtV, endF, cutR, cut1, eAnd, eOr, eNot, eIf, e1, e2, eB, eC, eVar, eTup, eLst, aNil, aCons, vals, keeps, isB, tB1, tAndM, tOrM, tNotM, eSl, part, eCall, callM, prep, slotsOf, slotOf, refsOf, goBack, backs, unref, eDict, eM, gAdd, Vs.gSub, gDiv, gMod, gPow, gNeg, gCmp, gLt, gLe, gGt, gGe, gIsN, gNotN, isNone, gIsi, gIsi2, gLen, gList, gTuple, gMin, gMax, gInt, gAbs, iSeq, iEn, iCh, sFor, tgN, tgU]
  have q2 : eCall f__law_pick [true, false] (aCons (eVar 0) (aCons (e2 gAdd (eB gLen (aCons (eVar 4) aNil)) (eC (.int 1))) aNil)) [.r false y1, t, u, n, .l row, .l dues, s6, .d (.tuple [a, pf a]), s8] = .ok (.d (.int (k : Int))) [.r false y2, t, u, n, .l row, .l dues, s6, .d (.tuple [a, pf a]), s8] := by
    have q0 : aCons (eVar 0) (aCons (e2 gAdd (eB gLen (aCons (eVar 4) aNil)) (eC (.int 1))) aNil) [.r false y1, t, u, n, .l row, .l dues, s6, .d (.tuple [a, pf a]), s8] = .ok [.v 0, .d (.int ((row.length : Int) + 1))] [.r false y1, t, u, n, .l row, .l dues, s6, .d (.tuple [a, pf a]), s8] := aCons_go (r := .v 0) rfl (aCons_go q1 rfl)
    unfold eCall
    rw [bnd_ap, q0, go_ok]
    simp [val_v, keep_v, sRet, sSeq, sIf, sSet, putV, setS, sNil, sBrk, sCnt, sExp, sUnp, unp, setAll, sAdd, sApp, sExt, sPut, mutL, sIns, sRetN, sRaise, rtV, endF, cutR, cut1, eAnd, eOr, eNot, eIf, e1, e2, eB, eC, eVar, eTup, eLst, aNil, aCons, vals, keeps, isB, tB1, tAndM, tOrM, tNotM, eSl, part, eCall, callM, prep, slotsOf, slotOf, refsOf, goBack, backs, unref, eDict, eM, gAdd, Vs.gSub, gDiv, gMod, gPow, gNeg, gCmp, gLt, gLe, gGt, gGe, gIsN, gNotN, isNone, gIsi, gIsi2, gLen, gList, gTuple, gMin, gMax, gInt, gAbs, iSeq, iEn, iCh, sFor, tgN, tgU, p2]
  have a2 : sSet 8 (eCall f__law_pick [true, false] (aCons (eVar 0) (aCons (e2 gAdd (eB gLen (aCons (eVar 4) aNil)) (eC (.int 1))) aNil))) [.r false y1, t, u, n, .l row, .l dues, s6, .d (.tuple [a, pf a]), s8] = .ok .nx [.r false y2, t, u, n, .l row, .l dues, s6, .d (.tuple [a, pf a]), .d (.int (k : Int))] := by
    unfold sSet
    rw [bnd_ap, q2, go_ok]
    show setS 8 (.d (.int (k : Int))) _ = _
    rw [setS_free (s0 := s8) rfl h8]
    rfl
  have ix : ∀ {E : En} {j : Nat} {y : Dt}, E[7]? = some (.d (.tuple [a, pf a])) → E[8]? = some (.d (.int (k : Int))) → [a, pf a][j]? = some y → aCons (eVar 8) (aCons (e2 gIx (eVar 7) (eC (.int (j : Int)))) aNil) E = .ok [.v 8, .d y] E := by
    intro E j y e7 e8 ej
    have g : gIx (.tuple [a, pf a]) (.int (j : Int)) = some (.d y) := by
      show (L2.atI _ (j : Int)).map Rv.d = _
      rw [atI_nat ej]
      rfl
    have q := e2_go (ma := eVar 7) (mb := eC (.int (j : Int))) (g := gIx) (E := E) (r1 := .v 7) (r2 := .d (.int (j : Int))) (x := .tuple [a, pf a]) (y := .int (j : Int)) (eVar_d e7) rfl (by rw [fz_v, val_v, e7]; rfl) rfl g
    exact aCons_go (eVar_d e8) (aCons_go q rfl)
  have a3 := sIns_ok (i := 4) (k := k) (x := a) (E := [.r false y2, t, u, n, .l row, .l dues, s6, .d (.tuple [a, pf a]), .d (.int (k : Int))]) (s := .l row) (xs := row) rfl rfl (ix (j := 0) rfl rfl rfl) rfl (by omega) (by omega)
  have a4 := sIns_ok (i := 5) (k := k) (x := pf a) (E := [.r false y2, t, u, n, .l (insD row k a), .l dues, s6, .d (.tuple [a, pf a]), .d (.int (k : Int))]) (s := .l dues) (xs := dues) rfl rfl (ix (j := 1) rfl rfl rfl) rfl (by omega) (by omega)
  unfold bodyI
  rw [seq_nx a1, seq_nx a2]
  refine Eq.trans (seq_nx a3) ?_
  exact a4
end K04
/-! # K04S -/
set_option Elab.async false
set_option linter.all false
set_option maxRecDepth 100000
set_option maxHeartbeats 4000000
/-! k04, the plain law: a thing. -/
namespace K04
open PySem L2 Vs
def nr (s : Sl) : Prop := s = .un ∨ (∃ y, s = .d y) ∨ ∃ l, s = .l l
theorem setS_nr {E : En} {i : Nat} {s0 s : Sl} (h : E[i]? = some s0) (hf : nr s0) : setS i s E = .ok .nx (E.set i s) := by
  unfold setS
  rw [h]
  rcases hf with rfl | ⟨y, rfl⟩ | ⟨y, rfl⟩ <;> rfl
theorem set_o {i : Nat} {me : M Rv} {E E1 : En} {xs : List Dt} {s0 : Sl} (h : me E = .ok (.o xs) E1) (hs : E1[i]? = some s0) (hf : nr s0) : sSet i me E = .ok .nx (E1.set i (.l xs)) := by
  unfold sSet
  rw [bnd_ap, h, go_ok]
  exact setS_nr hs hf
theorem set_d {i : Nat} {me : M Rv} {E E1 : En} {x : Dt} {s0 : Sl} (h : me E = .ok (.d x) E1) (hs : E1[i]? = some s0) (hf : nr s0) : sSet i me E = .ok .nx (E1.set i (.d x)) := by
  unfold sSet
  rw [bnd_ap, h, go_ok]
  show (bnd (keep (.d x)) fun x => setS i (.d x)) E1 = _
  rw [bnd_ap, keep_d, go_ok]
  exact setS_nr hs hf
def bodyO : M Fl := sSeq (sSet 4 (eLst (aCons (eVar 1) aNil))) (sSeq (sSet 5 (eLst (aCons (eVar 2) aNil))) (sSeq (sFor (tgN 6) (iRng rng1 (aCons (pk 4) aNil)) bodyI) (sSeq (sSet 2 (eB gTuple (aCons (eVar 5) aNil))) (sSeq (sSet 1 (eVar 4)) (sIf (tB1 (e2 gEq (pk 2) (eC (.int 1)))) (sSet 1 (eB gTuple (aCons (eVar 4) aNil))) sNil)))))
theorem m_thing_eq : m__law_thing = sSeq (sSet 1 (eCall f__law_leaf [true] (aCons (eVar 0) aNil))) (sSeq (sSet 2 (eVar 1)) (sSeq (sFor (tgN 3) (iRng rng1 (aCons (pk 9) aNil)) bodyO) (sRet (eTup (aCons (eVar 1) (aCons (eVar 2) aNil)))))) := rfl
theorem inner_ok {xs : List Dt} {x : Dt} {N d m : Nat} {t u n s6 s7 s8 : Sl} (h : Deck xs) (hx : Fine N d x) (hd : 8 ≤ d) (hm : m ≤ 3) (h6 : nr s6) (h7 : free s7) (h8 : free s8) :
    ∃ (ys row : List Dt) (s6' s7' s8' : Sl), Vs.forM (tgN 6) bodyI (rngD 0 m) [.r false xs, t, u, n, .l [x], .l [pf x], s6, s7, s8] = .ok .nx [.r false ys, t, u, n, .l row, .l (pfs row), s6', s7', s8'] ∧ Row (N + 6308) d 4 row ∧ nr s6' ∧ free s7' ∧ free s8' ∧ Deck ys := by
  refine forM_all (g := tgN 6) (mb := bodyI) (fun rest E => ∃ (ys row : List Dt) (s6' s7' s8' : Sl) (c : Nat), E = [.r false ys, t, u, n, .l row, .l (pfs row), s6', s7', s8'] ∧ Row (N + 2 + 2102 * c) d (1 + c) row ∧ nr s6' ∧ free s7' ∧ free s8' ∧ Deck ys ∧ c + rest.length = m)
    (fun res => ∃ (ys row : List Dt) (s6' s7' s8' : Sl), res = .ok .nx [.r false ys, t, u, n, .l row, .l (pfs row), s6', s7', s8'] ∧ Row (N + 6308) d 4 row ∧ nr s6' ∧ free s7' ∧ free s8' ∧ Deck ys)
    ?_ ?_ (rngD 0 m) _ ⟨xs, [x], s6, s7, s8, 0, rfl, ?_, h6, h7, h8, h, by rw [rngD_len]; omega⟩
  · rintro E ⟨ys, row, s6', s7', s8', c, rfl, ⟨o, b, tt, dp, ln⟩, f6, f7, f8, hD, hc⟩
    rw [List.length_nil] at hc
    exact ⟨ys, row, s6', s7', s8', rfl, ⟨o, by omega, by omega, dp, by omega⟩, f6, f7, f8, hD⟩
  · rintro y rest E ⟨ys, row, s6', s7', s8', c, rfl, hR, f6, f7, f8, hD, hc⟩
    rw [List.length_cons] at hc
    have hl := hR.ln
    have hl2 : (pfs row).length = row.length := by rw [pfs_map, List.length_map]
    obtain ⟨a, k, zs, s7'', s8'', eb, g7, g8, hf, hz⟩ := bodyI_ok (t := t) (u := u) (n := n) (s6 := .d y) (row := row) (dues := pfs row) hD (by omega) (by omega) f7 f8
    refine ⟨[.r false ys, t, u, n, .l row, .l (pfs row), .d y, s7', s8'], setS_nr (s0 := s6') rfl f6, .inl ⟨_, .inl eb, zs, insD row k a, .d y, s7'', s8'', c + 1, by rw [pfs_ins], ?_, .inr (.inl ⟨_, rfl⟩), g7, g8, hz, by omega⟩⟩
    obtain ⟨o, b, tt, dp, ln⟩ := hR.ins hf hd (k : Int)
    exact ⟨o, by omega, by omega, dp, by omega⟩
  · obtain ⟨o, b, tt, dp⟩ := hx
    refine ⟨?_, ?_, ?_, ?_, ?_⟩
    · simp only [okDs, o, Bool.and_true]
    · simp only [bds]; omega
    · simp only [tots]; omega
    · simp only [PyData.depthAll]; omega
    · simp
theorem bodyO_ok {xs : List Dt} {x : Dt} {N d : Nat} {n s4 s5 s6 s7 s8 : Sl} (h : Deck xs) (hx : Fine N d x) (hd : 8 ≤ d) (h4 : nr s4) (h5 : nr s5) (h6 : nr s6) (h7 : free s7) (h8 : free s8) :
    ∃ (ys : List Dt) (x' : Dt) (s4' s5' s6' s7' s8' : Sl), bodyO [.r false xs, .d x, .d (pf x), n, s4, s5, s6, s7, s8] = .ok .nx [.r false ys, .d x', .d (pf x'), n, s4', s5', s6', s7', s8'] ∧ Fine (N + 6400) (d + 1) x' ∧ nr s4' ∧ nr s5' ∧ nr s6' ∧ free s7' ∧ free s8' ∧ Deck ys := by
  obtain ⟨m, y1, p1, hm, h1⟩ := pick_ok h (m := 4) (by omega)
  obtain ⟨y2, row, s6', s7', s8', ef, hR, f6, f7, f8, h2⟩ := inner_ok (t := .d x) (u := .d (pf x)) (n := n) (m := m) h1 hx hd (by omega) h6 h7 h8
  obtain ⟨r, y3, p3, hr, h3⟩ := pick_ok h2 (m := 2) (by omega)
  have a1 : sSet 4 (eLst (aCons (eVar 1) aNil)) [.r false xs, .d x, .d (pf x), n, s4, s5, s6, s7, s8] = .ok .nx [.r false xs, .d x, .d (pf x), n, .l [x], s5, s6, s7, s8] := set_o (xs := [x]) (E1 := [.r false xs, .d x, .d (pf x), n, s4, s5, s6, s7, s8]) (by simp [val_v, keep_v, sRet, sSeq, sIf, sSet, putV, setS, sNil, sBrk, sCnt, sExp, sUnp, unp, setAll, sAdd, sApp, sExt, sPut, mutL, sIns, sRetN, sRaise, rtV, endF, cutR, cut1, eAnd, eOr, eNot, eIf, e1, e2, eB, eC, eVar, eTup, eLst, aNil, aCons, vals, keeps, isB, tB1, tAndM, tOrM, tNotM, eSl, part, eCall, callM, prep, slotsOf, slotOf, refsOf, goBack, backs, unref, eDict, eM, gAdd, Vs.gSub, gDiv, gMod, gPow, gNeg, gCmp, gLt, gLe, gGt, gGe, gIsN, gNotN, isNone, gIsi, gIsi2, gLen, gList, gTuple, gMin, gMax, gInt, gAbs, iSeq, iEn, iCh, sFor, tgN, tgU]) rfl h4
  have a2 : sSet 5 (eLst (aCons (eVar 2) aNil)) [.r false xs, .d x, .d (pf x), n, .l [x], s5, s6, s7, s8] = .ok .nx [.r false xs, .d x, .d (pf x), n, .l [x], .l [pf x], s6, s7, s8] := set_o (xs := [pf x]) (E1 := [.r false xs, .d x, .d (pf x), n, .l [x], s5, s6, s7, s8]) (by simp [val_v, keep_v, sRet, sSeq, sIf, sSet, putV, setS, sNil, sBrk, sCnt, sExp, sUnp, unp, setAll, sAdd, sApp, sExt, sPut, mutL, sIns, sRetN, sRaise, rtV, endF, cutR, cut1, eAnd, eOr, eNot, eIf, e1, e2, eB, eC, eVar, eTup, eLst, aNil, aCons, vals, keeps, isB, tB1, tAndM, tOrM, tNotM, eSl, part, eCall, callM, prep, slotsOf, slotOf, refsOf, goBack, backs, unref, eDict, eM, gAdd, Vs.gSub, gDiv, gMod, gPow, gNeg, gCmp, gLt, gLe, gGt, gGe, gIsN, gNotN, isNone, gIsi, gIsi2, gLen, gList, gTuple, gMin, gMax, gInt, gAbs, iSeq, iEn, iCh, sFor, tgN, tgU]) rfl h5
  have b1 : iRng rng1 (aCons (pk 4) aNil) [.r false xs, .d x, .d (pf x), n, .l [x], .l [pf x], s6, s7, s8] = .ok (rngD 0 m) [.r false y1, .d x, .d (pf x), n, .l [x], .l [pf x], s6, s7, s8] := iRng1_ok (aCons_go (pk_ok p1) rfl) rfl (by omega)
  have a3 := (for_go (g := tgN 6) (mb := bodyI) b1).trans ef
  have a4 : sSet 2 (eB gTuple (aCons (eVar 5) aNil)) [.r false y2, .d x, .d (pf x), n, .l row, .l (pfs row), s6', s7', s8'] = .ok .nx [.r false y2, .d x, .d (.tuple (pfs row)), n, .l row, .l (pfs row), s6', s7', s8'] := set_d (x := .tuple (pfs row)) (E1 := [.r false y2, .d x, .d (pf x), n, .l row, .l (pfs row), s6', s7', s8']) (by simp [val_v, keep_v, sRet, sSeq, sIf, sSet, putV, setS, sNil, sBrk, sCnt, sExp, sUnp, unp, setAll, sAdd, sApp, sExt, sPut, mutL, sIns, sRetN, sRaise, rtV, endF, cutR, cut1, eAnd, eOr, eNot, eIf, e1, e2, eB, eC, eVar, eTup, eLst, aNil, aCons, vals, keeps, isB, tB1, tAndM, tOrM, tNotM, eSl, part, eCall, callM, prep, slotsOf, slotOf, refsOf, goBack, backs, unref, eDict, eM, gAdd, Vs.gSub, gDiv, gMod, gPow, gNeg, gCmp, gLt, gLe, gGt, gGe, gIsN, gNotN, isNone, gIsi, gIsi2, gLen, gList, gTuple, gMin, gMax, gInt, gAbs, iSeq, iEn, iCh, sFor, tgN, tgU]) rfl (.inr (.inl ⟨_, rfl⟩))
  have a5 : sSet 1 (eVar 4) [.r false y2, .d x, .d (.tuple (pfs row)), n, .l row, .l (pfs row), s6', s7', s8'] = .ok .nx [.r false y2, .d (.list row), .d (.tuple (pfs row)), n, .d (.list row), .l (pfs row), s6', s7', s8'] := by simp [val_v, keep_v, sRet, sSeq, sIf, sSet, putV, setS, sNil, sBrk, sCnt, sExp, sUnp, unp, setAll, sAdd, sApp, sExt, sPut, mutL, sIns, sRetN, sRaise, rtV, endF, cutR, cut1, eAnd, eOr, eNot, eIf, e1, e2, eB, eC, eVar, eTup, eLst, aNil, aCons, vals, keeps, isB, tB1, tAndM, tOrM, tNotM, eSl, part, eCall, callM, prep, slotsOf, slotOf, refsOf, goBack, backs, unref, eDict, eM, gAdd, Vs.gSub, gDiv, gMod, gPow, gNeg, gCmp, gLt, gLe, gGt, gGe, gIsN, gNotN, isNone, gIsi, gIsi2, gLen, gList, gTuple, gMin, gMax, gInt, gAbs, iSeq, iEn, iCh, sFor, tgN, tgU]
  have q := pk_ok (E := [.d (.list row), .d (.tuple (pfs row)), n, .d (.list row), .l (pfs row), s6', s7', s8']) p3
  have q2 := e2_to (g := gEq) (mb := eC (.int 1)) (r2 := .d (.int 1)) (y := .int 1) (z := .d (.bool (decide ((r : Int) = 1)))) q rfl rfl rfl (by simp [gEq, eqD])
  have q3 : tB1 (e2 gEq (pk 2) (eC (.int 1))) [.r false y2, .d (.list row), .d (.tuple (pfs row)), n, .d (.list row), .l (pfs row), s6', s7', s8'] = .ok (decide ((r : Int) = 1)) [.r false y3, .d (.list row), .d (.tuple (pfs row)), n, .d (.list row), .l (pfs row), s6', s7', s8'] := by
    unfold tB1
    rw [bnd_ap, q2]
    rfl
  obtain ⟨o, b, tt, dp, ln⟩ := hR
  by_cases hr1 : (r : Int) = 1
  · refine ⟨y3, .tuple row, .d (.list row), .l (pfs row), s6', s7', s8', ?_, ⟨o, ?_, ?_, ?_⟩, .inr (.inl ⟨_, rfl⟩), .inr (.inr ⟨_, rfl⟩), f6, f7, f8, h3⟩
    · unfold bodyO
      rw [seq_nx a1, seq_nx a2, seq_nx a3, seq_nx a4, seq_nx a5]
      rw [decide_eq_true hr1] at q3
      rw [if_t q3]
      exact set_d (x := .tuple row) (E1 := [.r false y3, .d (.list row), .d (.tuple (pfs row)), n, .d (.list row), .l (pfs row), s6', s7', s8']) (by simp [val_v, keep_v, sRet, sSeq, sIf, sSet, putV, setS, sNil, sBrk, sCnt, sExp, sUnp, unp, setAll, sAdd, sApp, sExt, sPut, mutL, sIns, sRetN, sRaise, rtV, endF, cutR, cut1, eAnd, eOr, eNot, eIf, e1, e2, eB, eC, eVar, eTup, eLst, aNil, aCons, vals, keeps, isB, tB1, tAndM, tOrM, tNotM, eSl, part, eCall, callM, prep, slotsOf, slotOf, refsOf, goBack, backs, unref, eDict, eM, gAdd, Vs.gSub, gDiv, gMod, gPow, gNeg, gCmp, gLt, gLe, gGt, gGe, gIsN, gNotN, isNone, gIsi, gIsi2, gLen, gList, gTuple, gMin, gMax, gInt, gAbs, iSeq, iEn, iCh, sFor, tgN, tgU]) rfl (.inr (.inl ⟨_, rfl⟩))
    · simp only [bd]; omega
    · simp only [tot]; omega
    · simp only [PyData.depth]; omega
  · refine ⟨y3, .list row, .d (.list row), .l (pfs row), s6', s7', s8', ?_, ⟨o, ?_, ?_, ?_⟩, .inr (.inl ⟨_, rfl⟩), .inr (.inr ⟨_, rfl⟩), f6, f7, f8, h3⟩
    · unfold bodyO
      rw [seq_nx a1, seq_nx a2, seq_nx a3, seq_nx a4, seq_nx a5]
      rw [decide_eq_false hr1] at q3
      rw [if_f q3]
      rfl
    · simp only [bd]; omega
    · simp only [tot]; omega
    · simp only [PyData.depth]; omega
end K04
/-! # K04T -/
set_option Elab.async false
set_option linter.all false
set_option maxRecDepth 100000
set_option maxHeartbeats 4000000
/-! k04, the plain law: a thing, whole. -/
namespace K04
open PySem L2 Vs
theorem Fine.up {n m d e : Nat} {x : Dt} (h : Fine n d x) (h1 : n ≤ m) (h2 : d ≤ e) : Fine m e x := ⟨h.ok, Nat.le_trans h.b h1, Nat.le_trans h.t h1, Nat.le_trans h.dp h2⟩
theorem outer_ok {xs : List Dt} {x : Dt} {m : Nat} (h : Deck xs) (hx : Fine 1010 8 x) (hm : m ≤ 8) :
    ∃ (ys : List Dt) (x' : Dt) (s3 s4 s5 s6 s7 s8 : Sl), Vs.forM (tgN 3) bodyO (rngD 0 m) [.r false xs, .d x, .d (pf x), .un, .un, .un, .un, .un, .un] = .ok .nx [.r false ys, .d x', .d (pf x'), s3, s4, s5, s6, s7, s8] ∧ Fine 53000 16 x' ∧ Deck ys := by
  refine forM_all (g := tgN 3) (mb := bodyO) (fun rest E => ∃ (ys : List Dt) (x' : Dt) (s3 s4 s5 s6 s7 s8 : Sl) (c : Nat), E = [.r false ys, .d x', .d (pf x'), s3, s4, s5, s6, s7, s8] ∧ Fine (1010 + 6400 * c) (8 + c) x' ∧ nr s3 ∧ nr s4 ∧ nr s5 ∧ nr s6 ∧ free s7 ∧ free s8 ∧ Deck ys ∧ c + rest.length = m)
    (fun res => ∃ (ys : List Dt) (x' : Dt) (s3 s4 s5 s6 s7 s8 : Sl), res = .ok .nx [.r false ys, .d x', .d (pf x'), s3, s4, s5, s6, s7, s8] ∧ Fine 53000 16 x' ∧ Deck ys)
    ?_ ?_ (rngD 0 m) _ ⟨xs, x, .un, .un, .un, .un, .un, .un, 0, rfl, hx.up (by omega) (by omega), .inl rfl, .inl rfl, .inl rfl, .inl rfl, .inl rfl, .inl rfl, h, by rw [rngD_len]; omega⟩
  · rintro E ⟨ys, x', s3, s4, s5, s6, s7, s8, c, rfl, hF, f3, f4, f5, f6, f7, f8, hD, hc⟩
    rw [List.length_nil] at hc
    exact ⟨ys, x', s3, s4, s5, s6, s7, s8, rfl, hF.up (by omega) (by omega), hD⟩
  · rintro y rest E ⟨ys, x', s3, s4, s5, s6, s7, s8, c, rfl, hF, f3, f4, f5, f6, f7, f8, hD, hc⟩
    rw [List.length_cons] at hc
    obtain ⟨zs, x'', t4, t5, t6, t7, t8, eb, hF', g4, g5, g6, g7, g8, hz⟩ := bodyO_ok (n := .d y) hD hF (by omega) f4 f5 f6 f7 f8
    exact ⟨[.r false ys, .d x', .d (pf x'), .d y, s4, s5, s6, s7, s8], setS_nr (s0 := s3) rfl f3, .inl ⟨_, .inl eb, zs, x'', .d y, t4, t5, t6, t7, t8, c + 1, rfl, hF'.up (by omega) (by omega), .inr (.inl ⟨_, rfl⟩), g4, g5, g6, g7, g8, hz, by omega⟩⟩
theorem thing_ok {xs : List Dt} (h : Deck xs) : ∃ (x : Dt) (ys : List Dt), f__law_thing [.r false xs] = .ok (.d (.tuple [x, pf x])) [.r false ys] ∧ Fine 53000 16 x ∧ Deck ys := by
  obtain ⟨x, y1, p1, ⟨hx, hp⟩, h1⟩ := leaf_ok h
  obtain ⟨m, y2, p2, hm, h2⟩ := pick_ok h1 (m := 9) (by omega)
  obtain ⟨y3, x', s3, s4, s5, s6, s7, s8, ef, hF, h3⟩ := outer_ok (m := m) h2 (hx.up (by omega) (by omega)) (by omega)
  refine ⟨x', y3, ?_, hF, h3⟩
  have a1 : sSet 1 (eCall f__law_leaf [true] (aCons (eVar 0) aNil)) [.r false xs, .un, .un, .un, .un, .un, .un, .un, .un] = .ok .nx [.r false y1, .d x, .un, .un, .un, .un, .un, .un, .un] := set_d (x := x) (call0 p1) rfl (.inl rfl)
  have a2 : sSet 2 (eVar 1) [.r false y1, .d x, .un, .un, .un, .un, .un, .un, .un] = .ok .nx [.r false y1, .d x, .d (pf x), .un, .un, .un, .un, .un, .un] := by
    rw [hp]
    simp [val_v, keep_v, sRet, sSeq, sIf, sSet, putV, setS, sNil, sBrk, sCnt, sExp, sUnp, unp, setAll, sAdd, sApp, sExt, sPut, mutL, sIns, sRetN, sRaise, rtV, endF, cutR, cut1, eAnd, eOr, eNot, eIf, e1, e2, eB, eC, eVar, eTup, eLst, aNil, aCons, vals, keeps, isB, tB1, tAndM, tOrM, tNotM, eSl, part, eCall, callM, prep, slotsOf, slotOf, refsOf, goBack, backs, unref, eDict, eM, gAdd, Vs.gSub, gDiv, gMod, gPow, gNeg, gCmp, gLt, gLe, gGt, gGe, gIsN, gNotN, isNone, gIsi, gIsi2, gLen, gList, gTuple, gMin, gMax, gInt, gAbs, iSeq, iEn, iCh, sFor, tgN, tgU]
  have b1 : iRng rng1 (aCons (pk 9) aNil) [.r false y1, .d x, .d (pf x), .un, .un, .un, .un, .un, .un] = .ok (rngD 0 m) [.r false y2, .d x, .d (pf x), .un, .un, .un, .un, .un, .un] := iRng1_ok (aCons_go (pk_ok p2) rfl) rfl (by omega)
  have a3 := (for_go (g := tgN 3) (mb := bodyO) b1).trans ef
  have a4 : sRet (eTup (aCons (eVar 1) (aCons (eVar 2) aNil))) [.r false y3, .d x', .d (pf x'), s3, s4, s5, s6, s7, s8] = .ok (.rt (.d (.tuple [x', pf x']))) [.r false y3, .d x', .d (pf x'), s3, s4, s5, s6, s7, s8] := ret_ok (by simp [val_v, keep_v, sRet, sSeq, sIf, sSet, putV, setS, sNil, sBrk, sCnt, sExp, sUnp, unp, setAll, sAdd, sApp, sExt, sPut, mutL, sIns, sRetN, sRaise, rtV, endF, cutR, cut1, eAnd, eOr, eNot, eIf, e1, e2, eB, eC, eVar, eTup, eLst, aNil, aCons, vals, keeps, isB, tB1, tAndM, tOrM, tNotM, eSl, part, eCall, callM, prep, slotsOf, slotOf, refsOf, goBack, backs, unref, eDict, eM, gAdd, Vs.gSub, gDiv, gMod, gPow, gNeg, gCmp, gLt, gLe, gGt, gGe, gIsN, gNotN, isNone, gIsi, gIsi2, gLen, gList, gTuple, gMin, gMax, gInt, gAbs, iSeq, iEn, iCh, sFor, tgN, tgU])
  refine mkFn_rt (E0 := [.r false xs, .un, .un, .un, .un, .un, .un, .un, .un]) (E := [.r false y3, .d x', .d (pf x'), s3, s4, s5, s6, s7, s8]) rfl rfl ?_
  rw [m_thing_eq, seq_nx a1, seq_nx a2, seq_nx a3, a4]
/-! ### what is due -/
mutual
theorem pf_bd : ∀ x : Dt, bd (pf x) ≤ bd x + tot x
  | .none => by simp [pf]
  | .bool _ => by simp [pf]
  | .int _ => by simp [pf]
  | .str _ => by simp [pf]
  | .dict _ => by simp [pf]
  | .list xs => by
    have := pfs_bd xs
    simp only [pf, bd, tot]
    omega
  | .tuple xs => by
    have := pfs_bd xs
    simp only [pf, bd, tot]
    omega
theorem pfs_bd : ∀ xs : List Dt, bds (pfs xs) ≤ bds xs + tots xs
  | [] => by simp [pfs, bds]
  | x :: xs => by
    have h1 := pf_bd x
    have h2 := pfs_bd xs
    simp only [pfs, bds, tots]
    omega
end
mutual
theorem pf_okD : ∀ x : Dt, okD (pf x) = okD x
  | .none => rfl
  | .bool _ => rfl
  | .int _ => rfl
  | .str _ => rfl
  | .dict _ => rfl
  | .list xs => by
    have := pfs_okD xs
    simp only [pf, okD, this]
  | .tuple xs => by
    have := pfs_okD xs
    simp only [pf, okD, this]
theorem pfs_okD : ∀ xs : List Dt, okDs (pfs xs) = okDs xs
  | [] => rfl
  | x :: xs => by
    have h1 := pf_okD x
    have h2 := pfs_okD xs
    simp only [pfs, okDs, h1, h2]
end
mutual
theorem pf_tot : ∀ x : Dt, tot (pf x) = tot x
  | .none => rfl
  | .bool _ => rfl
  | .int _ => rfl
  | .str _ => rfl
  | .dict _ => rfl
  | .list xs => by
    have := pfs_tot xs
    simp only [pf, tot, this]
  | .tuple xs => by
    have := pfs_tot xs
    simp only [pf, tot, this]
theorem pfs_tot : ∀ xs : List Dt, tots (pfs xs) = tots xs
  | [] => rfl
  | x :: xs => by
    have h1 := pf_tot x
    have h2 := pfs_tot xs
    simp only [pfs, tots, h1, h2]
end
mutual
theorem pf_depth : ∀ x : Dt, (pf x).depth = x.depth
  | .none => rfl
  | .bool _ => rfl
  | .int _ => rfl
  | .str _ => rfl
  | .dict _ => rfl
  | .list xs => by
    have := pfs_depth xs
    simp only [pf, PyData.depth, this]
  | .tuple xs => by
    have := pfs_depth xs
    simp only [pf, PyData.depth, this]
theorem pfs_depth : ∀ xs : List Dt, PyData.depthAll (pfs xs) = PyData.depthAll xs
  | [] => rfl
  | x :: xs => by
    have h1 := pf_depth x
    have h2 := pfs_depth xs
    simp only [pfs, PyData.depthAll, h1, h2]
end
mutual
theorem pf_pf : ∀ x : Dt, pf (pf x) = pf x
  | .none => rfl
  | .bool _ => rfl
  | .int _ => rfl
  | .str _ => rfl
  | .dict _ => rfl
  | .list xs => by
    have := pfs_pfs xs
    simp only [pf, this]
  | .tuple xs => by
    have := pfs_pfs xs
    simp only [pf, this]
theorem pfs_pfs : ∀ xs : List Dt, pfs (pfs xs) = pfs xs
  | [] => rfl
  | x :: xs => by
    have h1 := pf_pf x
    have h2 := pfs_pfs xs
    simp only [pfs, h1, h2]
end
theorem Fine.pf {n d : Nat} {x : Dt} (h : Fine n d x) : Fine (n + n) d (pf x) := by
  have h1 := pf_bd x
  have h2 := pf_tot x
  have h3 := pf_depth x
  obtain ⟨o, b, t, dp⟩ := h
  exact ⟨by rw [pf_okD]; exact o, by omega, by omega, by omega⟩
end K04
/-! # K04U -/
set_option Elab.async false
set_option linter.all false
set_option maxRecDepth 100000
set_option maxHeartbeats 4000000
/-! k04, the plain law: the deck is laid. -/
namespace K04
open PySem L2 Vs
def dk (ds : List Nat) : List Dt := .int 0 :: ds.map fun (d : Nat) => PyData.int (d : Int)
def bodyE : M Fl := sSeq (sApp 1 (e2 gMod (eVar 3) (eC (.int 36)))) (sSeq (sSet 3 (e2 gDiv (eVar 3) (eC (.int 36)))) (sIf (tB1 (e2 gEq (eVar 3) (eC (.int 0)))) sBrk sNil))
def bodyD : M Fl := sSeq (sSet 3 (eB gInt (aCons (eIxS 0 (eVar 2)) aNil))) (sSeq (sIf (tB1 (e2 gLt (eVar 3) (eC (.int 0)))) (sSet 3 (e2 Vs.gSub (eC (.int 5)) (e2 gMul (eC (.int 3)) (eVar 3)))) sNil) (sSeq (sSet 3 (e2 gMod (eVar 3) (e2 gPow (eC (.int 36)) (eC (.int 20))))) (sFor (tgN 4) (iRng rng1 (aCons (eC (.int 20)) aNil)) bodyE)))
theorem m_deck_eq : m__law_deck = sSeq (sSet 1 (eLst (aCons (eC (.int 0)) aNil))) (sSeq (sFor (tgN 2) (iRng rng1 (aCons (eB gMin (aCons (eLenS 0) (aCons (eC (.int 40)) aNil))) aNil)) bodyD) (sRet (eVar 1))) := rfl
theorem sApp_ok {i : Nat} {me : M Rv} {E : En} {s : Sl} {xs : List Dt} {x : Dt} (hs : E[i]? = some s) (ho : ownL s = some xs) (hm : me E = .ok (.d x) E) (hl : xs.length ≤ 100000) : sApp i me E = .ok .nx (E.set i (putL s (xs ++ [x]))) := by
  unfold sApp
  rw [hs]
  show (match ownL s with | some _ => _ | none => _) = _
  rw [ho]
  simp only [bnd_ap]
  rw [hm, go_ok]
  simp only [bnd_ap, fz_d, keep_d, go_ok]
  unfold mutL
  rw [hs]
  simp only [ho, Option.bind_some]
  rw [okLen_of hl]
  rfl
theorem dk_app (ds : List Nat) (d : Nat) : dk ds ++ [.int (d : Int)] = dk (ds ++ [d]) := by simp [dk]
theorem bodyE_ok {ns : List Int} {ds : List Nat} {a : Sl} {n : Nat} {s4 : Sl} (hl : ds.length ≤ 1000) : ∃ (d n' : Nat) (f : Fl), bodyE [.s ns, .l (dk ds), a, .d (.int (n : Int)), s4] = .ok f [.s ns, .l (dk (ds ++ [d])), a, .d (.int (n' : Int)), s4] ∧ (f = .nx ∨ f = .bk) ∧ d < 36 := by
  obtain ⟨d, hd, hd2⟩ := mod_nat (i := (n : Int)) (j := 36) (by omega)
  have hn : (n : Int) / 36 = ((n / 36 : Nat) : Int) := by omega
  have q1 : e2 gMod (eVar 3) (eC (.int 36)) [.s ns, .l (dk ds), a, .d (.int (n : Int)), s4] = .ok (.d (.int (d : Int))) [.s ns, .l (dk ds), a, .d (.int (n : Int)), s4] :=
    e2_go (r1 := .v 3) (r2 := .d (.int 36)) (x := .int (n : Int)) (y := .int 36) rfl rfl rfl rfl (by rw [gMod_ok (by omega), hd])
  have a1 : sApp 1 (e2 gMod (eVar 3) (eC (.int 36))) [.s ns, .l (dk ds), a, .d (.int (n : Int)), s4] = .ok .nx [.s ns, .l (dk (ds ++ [d])), a, .d (.int (n : Int)), s4] := by
    rw [sApp_ok (s := .l (dk ds)) (xs := dk ds) rfl rfl q1 (by simp [dk]; omega), dk_app]
    rfl
  have q2 : e2 gDiv (eVar 3) (eC (.int 36)) [.s ns, .l (dk (ds ++ [d])), a, .d (.int (n : Int)), s4] = .ok (.d (.int ((n / 36 : Nat) : Int))) [.s ns, .l (dk (ds ++ [d])), a, .d (.int (n : Int)), s4] :=
    e2_go (r1 := .v 3) (r2 := .d (.int 36)) (x := .int (n : Int)) (y := .int 36) rfl rfl rfl rfl (by rw [gDiv_ok (by omega) (by decide), hn])
  have a2 : sSet 3 (e2 gDiv (eVar 3) (eC (.int 36))) [.s ns, .l (dk (ds ++ [d])), a, .d (.int (n : Int)), s4] = .ok .nx [.s ns, .l (dk (ds ++ [d])), a, .d (.int ((n / 36 : Nat) : Int)), s4] := set_d q2 rfl (.inr (.inl ⟨_, rfl⟩))
  have q3 := isK_ok (k := ((n / 36 : Nat) : Int)) (j := 0) (i := 3) (E := [.s ns, .l (dk (ds ++ [d])), a, .d (.int ((n / 36 : Nat) : Int)), s4]) rfl
  unfold isK at q3
  by_cases h0 : ((n / 36 : Nat) : Int) = 0
  · refine ⟨d, n / 36, .bk, ?_, .inr rfl, by omega⟩
    unfold bodyE
    rw [seq_nx a1, seq_nx a2]
    rw [decide_eq_true h0] at q3
    rw [if_t q3]
    rfl
  · refine ⟨d, n / 36, .nx, ?_, .inl rfl, by omega⟩
    unfold bodyE
    rw [seq_nx a1, seq_nx a2]
    rw [decide_eq_false h0] at q3
    rw [if_f q3]
    rfl
theorem small_app {ds : List Nat} {d : Nat} (h : ∀ d ∈ ds, d < 36) (hd : d < 36) : ∀ e ∈ ds ++ [d], e < 36 := fun e he => by
  rcases List.mem_append.mp he with h1 | h1
  · exact h e h1
  · rw [List.mem_singleton.mp h1]; exact hd
theorem turns_ok {ns : List Int} {ds : List Nat} {a : Sl} {n : Nat} {s4 : Sl} (hl : ds.length ≤ 900) (hs : ∀ d ∈ ds, d < 36) (h4 : nr s4) : ∃ (ds' : List Nat) (n' : Nat) (s4' : Sl), Vs.forM (tgN 4) bodyE (rngD 0 20) [.s ns, .l (dk ds), a, .d (.int (n : Int)), s4] = .ok .nx [.s ns, .l (dk ds'), a, .d (.int (n' : Int)), s4'] ∧ ds'.length ≤ ds.length + 20 ∧ (∀ d ∈ ds', d < 36) ∧ nr s4' := by
  refine forM_all (g := tgN 4) (mb := bodyE) (fun rest E => ∃ (ds' : List Nat) (n' : Nat) (s4' : Sl), E = [.s ns, .l (dk ds'), a, .d (.int (n' : Int)), s4'] ∧ ds'.length + rest.length ≤ ds.length + 20 ∧ (∀ d ∈ ds', d < 36) ∧ nr s4')
    (fun res => ∃ (ds' : List Nat) (n' : Nat) (s4' : Sl), res = .ok .nx [.s ns, .l (dk ds'), a, .d (.int (n' : Int)), s4'] ∧ ds'.length ≤ ds.length + 20 ∧ (∀ d ∈ ds', d < 36) ∧ nr s4')
    ?_ ?_ (rngD 0 20) _ ⟨ds, n, s4, rfl, by rw [rngD_len]; omega, hs, h4⟩
  · rintro E ⟨ds', n', s4', rfl, hc, h, f4⟩
    rw [List.length_nil] at hc
    exact ⟨ds', n', s4', rfl, by omega, h, f4⟩
  · rintro y rest E ⟨ds', n', s4', rfl, hc, h, f4⟩
    rw [List.length_cons] at hc
    obtain ⟨d, m, f, eb, hf, hd⟩ := bodyE_ok (ns := ns) (ds := ds') (a := a) (n := n') (s4 := .d y) (by omega)
    refine ⟨[.s ns, .l (dk ds'), a, .d (.int (n' : Int)), .d y], setS_nr (s0 := s4') rfl f4, ?_⟩
    rcases hf with rfl | rfl
    · exact .inl ⟨_, .inl eb, ds' ++ [d], m, .d y, rfl, by rw [List.length_append, List.length_singleton]; omega, small_app h hd, .inr (.inl ⟨_, rfl⟩)⟩
    · exact .inr (.inl ⟨_, eb, ds' ++ [d], m, .d y, rfl, by rw [List.length_append, List.length_singleton]; omega, small_app h hd, .inr (.inl ⟨_, rfl⟩)⟩)
theorem bodyD_ok {ns : List Int} {ds : List Nat} {i : Nat} {s3 s4 : Sl} (hi : i < ns.length) (hl : ds.length ≤ 900) (hs : ∀ d ∈ ds, d < 36) (h3 : nr s3) (h4 : nr s4) : ∃ (ds' : List Nat) (s3' s4' : Sl), bodyD [.s ns, .l (dk ds), .d (.int (i : Int)), s3, s4] = .ok .nx [.s ns, .l (dk ds'), .d (.int (i : Int)), s3', s4'] ∧ ds'.length ≤ ds.length + 20 ∧ (∀ d ∈ ds', d < 36) ∧ nr s3' ∧ nr s4' := by
  have q1 : eIxS 0 (eVar 2) [.s ns, .l (dk ds), .d (.int (i : Int)), s3, s4] = .ok (.d (.int ns[i])) [.s ns, .l (dk ds), .d (.int (i : Int)), s3, s4] := by
    show (match atI ns (i : Int) with
      | some n => Vs.ret (Rv.d (.int n))
      | none => fail) [.s ns, .l (dk ds), .d (.int (i : Int)), s3, s4] = _
    rw [atI_nat (List.getElem?_eq_getElem hi)]
    rfl
  have q2 : eB gInt (aCons (eIxS 0 (eVar 2)) aNil) [.s ns, .l (dk ds), .d (.int (i : Int)), s3, s4] = .ok (.d (.int ns[i])) [.s ns, .l (dk ds), .d (.int (i : Int)), s3, s4] := by
    unfold eB
    rw [bnd_ap, aCons_go (mr := aNil) q1 rfl]
    rfl
  have a1 : sSet 3 (eB gInt (aCons (eIxS 0 (eVar 2)) aNil)) [.s ns, .l (dk ds), .d (.int (i : Int)), s3, s4] = .ok .nx [.s ns, .l (dk ds), .d (.int (i : Int)), .d (.int ns[i]), s4] := set_d q2 rfl h3
  obtain ⟨w, a2⟩ : ∃ w : Int, sIf (tB1 (e2 gLt (eVar 3) (eC (.int 0)))) (sSet 3 (e2 Vs.gSub (eC (.int 5)) (e2 gMul (eC (.int 3)) (eVar 3)))) sNil [.s ns, .l (dk ds), .d (.int (i : Int)), .d (.int ns[i]), s4] = .ok .nx [.s ns, .l (dk ds), .d (.int (i : Int)), .d (.int w), s4] := by
    generalize ns[i] = v
    have c1 : tB1 (e2 gLt (eVar 3) (eC (.int 0))) [.s ns, .l (dk ds), .d (.int (i : Int)), .d (.int v), s4] = .ok (decide (v < 0)) [.s ns, .l (dk ds), .d (.int (i : Int)), .d (.int v), s4] := by
      have q := e2_go (ma := eVar 3) (mb := eC (.int 0)) (g := gLt) (E := [.s ns, .l (dk ds), .d (.int (i : Int)), .d (.int v), s4]) (r1 := .v 3) (r2 := .d (.int 0)) (x := .int v) (y := .int 0) (z := .d (.bool (decide (v < 0)))) rfl rfl rfl rfl rfl
      unfold tB1
      rw [bnd_ap, q]
      rfl
    by_cases hv : v < 0
    · refine ⟨5 - 3 * v, ?_⟩
      rw [decide_eq_true hv] at c1
      rw [if_t c1]
      have m1 := e2_go (ma := eC (.int 3)) (mb := eVar 3) (g := gMul) (E := [.s ns, .l (dk ds), .d (.int (i : Int)), .d (.int v), s4]) (r1 := .d (.int 3)) (r2 := .v 3) (x := .int 3) (y := .int v) rfl rfl rfl rfl (gMul_ok (mulOk_l (by decide) (by decide)))
      have m2 := e2_go (ma := eC (.int 5)) (g := Vs.gSub) (r1 := .d (.int 5)) (x := .int 5) (z := .d (.int (5 - 3 * v))) rfl m1 rfl rfl rfl
      exact set_d m2 rfl (.inr (.inl ⟨_, rfl⟩))
    · refine ⟨v, ?_⟩
      rw [decide_eq_false hv] at c1
      rw [if_f c1]
      rfl
  have hp : (0 : Int) < 36 ^ 20 := by decide
  obtain ⟨n, hn, _⟩ := mod_nat (i := w) hp
  have p1 : e2 gPow (eC (.int 36)) (eC (.int 20)) [.s ns, .l (dk ds), .d (.int (i : Int)), .d (.int w), s4] = .ok (.d (.int (36 ^ 20))) [.s ns, .l (dk ds), .d (.int (i : Int)), .d (.int w), s4] := by
    refine e2_go (r1 := .d (.int 36)) (r2 := .d (.int 20)) (x := .int 36) (y := .int 20) rfl rfl rfl rfl ?_
    simp only [gPow]
    rw [if_pos (by decide)]
    rfl
  have p2 := e2_go (ma := eVar 3) (g := gMod) (r1 := .v 3) (x := .int w) rfl p1 rfl rfl (gMod_ok hp)
  rw [hn] at p2
  have a3 : sSet 3 (e2 gMod (eVar 3) (e2 gPow (eC (.int 36)) (eC (.int 20)))) [.s ns, .l (dk ds), .d (.int (i : Int)), .d (.int w), s4] = .ok .nx [.s ns, .l (dk ds), .d (.int (i : Int)), .d (.int (n : Int)), s4] := set_d p2 rfl (.inr (.inl ⟨_, rfl⟩))
  obtain ⟨ds', n', s4', ef, hl', hs', f4⟩ := turns_ok (ns := ns) (a := .d (.int (i : Int))) (n := n) (s4 := s4) hl hs h4
  have b1 : iRng rng1 (aCons (eC (.int 20)) aNil) [.s ns, .l (dk ds), .d (.int (i : Int)), .d (.int (n : Int)), s4] = .ok (rngD 0 20) [.s ns, .l (dk ds), .d (.int (i : Int)), .d (.int (n : Int)), s4] := iRng1_ok (n := 20) (rs := [.d (.int 20)]) rfl rfl (by omega)
  refine ⟨ds', .d (.int (n' : Int)), s4', ?_, hl', hs', .inr (.inl ⟨_, rfl⟩), f4⟩
  unfold bodyD
  rw [seq_nx a1, seq_nx a2, seq_nx a3, for_go b1, ef]
theorem deck_ok (ns : List Int) : ∃ xs : List Dt, f__law_deck [.s ns] = .ok (.o xs) [.un] ∧ Deck xs := by
  have a1 : sSet 1 (eLst (aCons (eC (.int 0)) aNil)) [.s ns, .un, .un, .un, .un] = .ok .nx [.s ns, .l (dk []), .un, .un, .un] := set_o (xs := dk []) (E1 := [.s ns, .un, .un, .un, .un]) (by simp [val_v, keep_v, sRet, sSeq, sIf, sSet, putV, setS, sNil, sBrk, sCnt, sExp, sUnp, unp, setAll, sAdd, sApp, sExt, sPut, mutL, sIns, sRetN, sRaise, rtV, endF, cutR, cut1, eAnd, eOr, eNot, eIf, e1, e2, eB, eC, eVar, eTup, eLst, aNil, aCons, vals, keeps, isB, tB1, tAndM, tOrM, tNotM, eSl, part, eCall, callM, prep, slotsOf, slotOf, refsOf, goBack, backs, unref, eDict, eM, gAdd, Vs.gSub, gDiv, gMod, gPow, gNeg, gCmp, gLt, gLe, gGt, gGe, gIsN, gNotN, isNone, gIsi, gIsi2, gLen, gList, gTuple, gMin, gMax, gInt, gAbs, iSeq, iEn, iCh, sFor, tgN, tgU, dk]) rfl (.inl rfl)
  obtain ⟨m, hm, hm1, hm2⟩ : ∃ m : Nat, (if (40 : Int) < (ns.length : Int) then (40 : Int) else (ns.length : Int)) = (m : Int) ∧ m ≤ 40 ∧ m ≤ ns.length := by
    by_cases h : (40 : Int) < (ns.length : Int)
    · rw [if_pos h]; exact ⟨40, rfl, by omega, by omega⟩
    · rw [if_neg h]; exact ⟨ns.length, rfl, by omega, by omega⟩
  have b0 : eB gMin (aCons (eLenS 0) (aCons (eC (.int 40)) aNil)) [.s ns, .l (dk []), .un, .un, .un] = .ok (.d (.int (m : Int))) [.s ns, .l (dk []), .un, .un, .un] := by
    rw [← hm]
    rfl
  have b1 := iRng1_ok (aCons_go b0 (rfl : aNil [.s ns, .l (dk []), .un, .un, .un] = .ok [] [.s ns, .l (dk []), .un, .un, .un])) rfl (show m ≤ 1000000000 by omega)
  have key := forM_all (g := tgN 2) (mb := bodyD) (fun rest E => ∃ (ds : List Nat) (s2 s3 s4 : Sl), E = [.s ns, .l (dk ds), s2, s3, s4] ∧ ds.length + 20 * rest.length ≤ 800 ∧ (∀ x ∈ rest, ∃ i : Nat, i < ns.length ∧ x = .int (i : Int)) ∧ (∀ d ∈ ds, d < 36) ∧ nr s2 ∧ nr s3 ∧ nr s4)
    (fun res => ∃ (ds : List Nat) (s2 s3 s4 : Sl), res = .ok .nx [.s ns, .l (dk ds), s2, s3, s4] ∧ ds.length ≤ 800 ∧ (∀ d ∈ ds, d < 36))
    (by
      rintro E ⟨ds, s2, s3, s4, rfl, hl, _, hs, _⟩
      exact ⟨ds, s2, s3, s4, rfl, by omega, hs⟩)
    (by
      rintro y rest E ⟨ds, s2, s3, s4, rfl, hl, hr, hs, f2, f3, f4⟩
      rw [List.length_cons] at hl
      obtain ⟨i, hi, rfl⟩ := hr y (List.mem_cons_self ..)
      obtain ⟨ds', t3, t4, eb, hl', hs', g3, g4⟩ := bodyD_ok (ns := ns) (ds := ds) (i := i) (s3 := s3) (s4 := s4) hi (by omega) hs f3 f4
      exact ⟨[.s ns, .l (dk ds), .d (.int (i : Int)), s3, s4], setS_nr (s0 := s2) rfl f2, .inl ⟨_, .inl eb, ds', _, t3, t4, rfl, by omega, fun x hx => hr x (List.mem_cons_of_mem _ hx), hs', .inr (.inl ⟨_, rfl⟩), g3, g4⟩⟩)
    (rngD 0 m) [.s ns, .l (dk []), .un, .un, .un] ⟨[], .un, .un, .un, rfl, by rw [rngD_len]; simp; omega, fun x hx => by
      obtain ⟨j, hj⟩ := List.mem_iff_getElem?.mp hx
      obtain ⟨h1, h2⟩ := rngD_at hj
      exact ⟨j, by omega, by rw [h2, Int.zero_add]⟩, fun d hd => (by cases hd), .inl rfl, .inl rfl, .inl rfl⟩
  obtain ⟨ds, s2, s3, s4, ef, hl, hs⟩ := key
  have a2 := (for_go (g := tgN 2) (mb := bodyD) b1).trans ef
  refine ⟨dk ds, ?_, Deck.mk' (p := 0) hs (by omega)⟩
  have hm : m__law_deck [.s ns, .un, .un, .un, .un] = .ok (.rt (.o (dk ds))) [.s ns, .un, s2, s3, s4] := by
    rw [m_deck_eq, seq_nx a1, seq_nx a2]
    rfl
  show (if [Sl.s ns].length = 1 then endF [.s ns] (m__law_deck [.s ns, .un, .un, .un, .un]) else .no) = _
  rw [hm]
  rfl
end K04
/-! # K04V -/
set_option Elab.async false
set_option linter.all false
set_option maxRecDepth 100000
set_option maxHeartbeats 4000000
/-! k04, the plain law: errors raised and kept. -/
namespace K04
open PySem L2 Vs
def tryK : M Fl := tryM (sExp (eCall f__law_raise [false, false] (aCons (eVar 0) (aCons (eVar 1) aNil)))) [⟨isC (some 20), (some 3), sSet 2 (eTup (aCons (eC (.str "line")) (aCons (eFld at_line 3) aNil)))⟩, ⟨isC (some 21), (some 3), sSet 2 (eTup (aCons (eC (.str "limit")) (aCons (eFld at_limit 3) aNil)))⟩, ⟨isC none, (some 3), sSet 2 (eTup (aCons (eC (.str "at")) (aCons (eFld at_at 3) aNil)))⟩]
theorem m_kept_eq : m__law_kept = sSeq (sSet 2 (eTup (aCons (eC (.str "none")) aNil))) (sSeq tryK (sRet (eB gRepr (aCons (eVar 2) aNil)))) := rfl
theorem kept_of {k : Int} {w : Str} {x : Dt} (t : tryK [.d (.int k), .d x, .d (.tuple [.str "none"]), .un] = .ok .nx [.d (.int k), .d x, .d (.tuple [.str w, x]), .un]) (h : okRepr (.tuple [.str w, x]) = true) : f__law_kept [.d (.int k), .d x] = .ok (.d (.str (PyData.tuple [.str w, x]).shown)) [.un, .un] := by
  have g : gRepr [.tuple [.str w, x]] = some (.d (.str (PyData.tuple [.str w, x]).shown)) := if_pos h
  have a0 : sSet 2 (eTup (aCons (eC (.str "none")) aNil)) [.d (.int k), .d x, .un, .un] = .ok .nx [.d (.int k), .d x, .d (.tuple [.str "none"]), .un] := rfl
  have c0 : aCons (eVar 2) aNil [.d (.int k), .d x, .d (.tuple [.str w, x]), .un] = .ok [.v 2] [.d (.int k), .d x, .d (.tuple [.str w, x]), .un] := rfl
  have c1 : vals [.v 2] [.d (.int k), .d x, .d (.tuple [.str w, x]), .un] = .ok [.tuple [.str w, x]] [.d (.int k), .d x, .d (.tuple [.str w, x]), .un] := rfl
  refine mkFn_rt (E0 := [.d (.int k), .d x, .un, .un]) (E := [.d (.int k), .d x, .d (.tuple [.str w, x]), .un]) rfl rfl ?_
  rw [m_kept_eq, seq_nx a0, seq_nx t]
  refine ret_ok ?_
  unfold eB
  rw [bnd_ap, c0, go_ok, bnd_ap, c1, go_ok, g]
  rfl
def wordK (k : Nat) : Str := if k = 20 then "line" else if k = 21 then "limit" else "at"
theorem tryK_ok (x : Dt) : ∀ k : Nat, k < 22 → tryK [.d (.int (k : Int)), .d x, .d (.tuple [.str "none"]), .un] = .ok .nx [.d (.int (k : Int)), .d x, .d (.tuple [.str (wordK k), x]), .un]
  | 0, _ => rfl
  | 1, _ => rfl
  | 2, _ => rfl
  | 3, _ => rfl
  | 4, _ => rfl
  | 5, _ => rfl
  | 6, _ => rfl
  | 7, _ => rfl
  | 8, _ => rfl
  | 9, _ => rfl
  | 10, _ => rfl
  | 11, _ => rfl
  | 12, _ => rfl
  | 13, _ => rfl
  | 14, _ => rfl
  | 15, _ => rfl
  | 16, _ => rfl
  | 17, _ => rfl
  | 18, _ => rfl
  | 19, _ => rfl
  | 20, _ => rfl
  | 21, _ => rfl
  | k + 22, h => by omega
end K04
/-! # K04W -/
set_option Elab.async false
set_option linter.all false
set_option maxRecDepth 100000
set_option maxHeartbeats 4000000
/-! k04, the plain law: a box. -/
namespace K04
open PySem L2 Vs
/-- what a box holds -/
def EntB (b : Nat) (x : Dt) : Prop := x = .str "many" ∨ ∃ n : Nat, x = .int (n : Int) ∧ n < b
abbrev Ent (x : Dt) : Prop := EntB (10 ^ 31) x
theorem EntB.up {a b : Nat} {x : Dt} (h : EntB a x) (hab : a ≤ b) : EntB b x := by
  rcases h with h | ⟨n, h, hn⟩
  · exact .inl h
  · exact .inr ⟨n, h, Nat.lt_of_lt_of_le hn hab⟩
theorem sApp_to {i : Nat} {me : M Rv} {E E1 : En} {s s1 : Sl} {xs ys : List Dt} {x : Dt} (hs : E[i]? = some s) (ho : ownL s = some xs) (hm : me E = .ok (.d x) E1) (hs1 : E1[i]? = some s1) (ho1 : ownL s1 = some ys) (hl : ys.length ≤ 100000) : sApp i me E = .ok .nx (E1.set i (putL s1 (ys ++ [x]))) := by
  unfold sApp
  rw [hs]
  show (match ownL s with | some _ => _ | none => _) = _
  rw [ho]
  simp only [bnd_ap]
  rw [hm, go_ok]
  simp only [bnd_ap, fz_d, keep_d, go_ok]
  unfold mutL
  rw [hs1]
  simp only [ho1, Option.bind_some]
  rw [okLen_of hl]
  rfl
def greatB : M Rv := e2 gMod (eB gAbs (aCons (eCall f__law_great [true] (aCons (eVar 0) aNil)) aNil)) (e2 gPow (eC (.int 10)) (eC (.int 30)))
def bodyB : M Fl := sSeq (sSet 4 (pk 4)) (sIf (isK 4 1) (sApp 2 (eC (.str "many"))) (sIf (isK 4 2) (sApp 2 greatB) (sApp 2 (pk 4))))
theorem m_box_eq : m__law_box = sSeq (sSet 2 (eLst aNil)) (sSeq (sFor (tgN 3) (iRng rng1 (aCons (eVar 1) aNil)) bodyB) (sRet (eVar 2))) := rfl
theorem greatB_ok {xs : List Dt} {E : En} (h : Deck xs) : ∃ (n : Nat) (ys : List Dt), greatB (.r false xs :: E) = .ok (.d (.int (n : Int))) (.r false ys :: E) ∧ n < 10 ^ 30 ∧ Deck ys := by
  obtain ⟨i, ys, p1, _, h1⟩ := great_ok h
  have hp : (0 : Int) < 10 ^ 30 := by decide
  have q1 : ∃ j : Int, eB gAbs (aCons (eCall f__law_great [true] (aCons (eVar 0) aNil)) aNil) (.r false xs :: E) = .ok (.d (.int j)) (.r false ys :: E) := by
    have c := aCons_go (mr := aNil) (call0 (E := E) p1) rfl
    unfold eB
    rw [bnd_ap, c]
    exact ⟨_, rfl⟩
  obtain ⟨j, q1⟩ := q1
  have p2 : e2 gPow (eC (.int 10)) (eC (.int 30)) (.r false ys :: E) = .ok (.d (.int (10 ^ 30))) (.r false ys :: E) := by
    refine e2_go (r1 := .d (.int 10)) (r2 := .d (.int 30)) (x := .int 10) (y := .int 30) rfl rfl rfl rfl ?_
    simp only [gPow]
    rw [if_pos (by decide)]
    rfl
  obtain ⟨n, hn, hn2⟩ := mod_nat (i := j) hp
  have q3 := e2_to (g := gMod) q1 p2 rfl rfl (gMod_ok hp)
  rw [hn] at q3
  exact ⟨n, ys, q3, by omega, h1⟩
theorem bodyB_ok {xs row : List Dt} {a s3 s4 : Sl} (h : Deck xs) (h4 : nr s4) (hl : row.length ≤ 1000) : ∃ (ys : List Dt) (x : Dt) (s4' : Sl), bodyB [.r false xs, a, .l row, s3, s4] = .ok .nx [.r false ys, a, .l (row ++ [x]), s3, s4'] ∧ EntB (10 ^ 30) x ∧ nr s4' ∧ Deck ys := by
  obtain ⟨k, y1, p1, hk, h1⟩ := pick_ok h (m := 4) (by omega)
  have a1 : sSet 4 (pk 4) [.r false xs, a, .l row, s3, s4] = .ok .nx [.r false y1, a, .l row, s3, .d (.int (k : Int))] := set_d (pk_ok p1) rfl h4
  by_cases k1 : (k : Int) = 1
  · refine ⟨y1, .str "many", .d (.int (k : Int)), ?_, .inl rfl, .inr (.inl ⟨_, rfl⟩), h1⟩
    unfold bodyB
    rw [seq_nx a1, if_t (isK_t rfl k1)]
    exact sApp_to (s := .l row) (s1 := .l row) rfl rfl rfl rfl rfl (by omega)
  by_cases k2 : (k : Int) = 2
  · obtain ⟨n, y2, p2, hn, h2⟩ := greatB_ok (E := [a, .l row, s3, .d (.int (k : Int))]) h1
    refine ⟨y2, .int (n : Int), .d (.int (k : Int)), ?_, .inr ⟨n, rfl, hn⟩, .inr (.inl ⟨_, rfl⟩), h2⟩
    unfold bodyB
    rw [seq_nx a1, if_f (isK_f rfl k1), if_t (isK_t rfl k2)]
    exact sApp_to (s := .l row) (s1 := .l row) rfl rfl p2 rfl rfl (by omega)
  · obtain ⟨n, y2, p2, hn, h2⟩ := pick_ok h1 (m := 4) (by omega)
    refine ⟨y2, .int (n : Int), .d (.int (k : Int)), ?_, .inr ⟨n, rfl, by omega⟩, .inr (.inl ⟨_, rfl⟩), h2⟩
    unfold bodyB
    rw [seq_nx a1, if_f (isK_f rfl k1), if_f (isK_f rfl k2)]
    exact sApp_to (s := .l row) (s1 := .l row) rfl rfl (pk_ok p2) rfl rfl (by omega)
end K04
/-! # K04Y -/
set_option Elab.async false
set_option linter.all false
set_option maxRecDepth 100000
set_option maxHeartbeats 4000000
/-! k04, the plain law: a box, whole. -/
namespace K04
open PySem L2 Vs
theorem box_ok {xs : List Dt} {m : Nat} (h : Deck xs) (hm : m ≤ 900) : ∃ (row ys : List Dt), f__law_box [.r false xs, .d (.int (m : Int))] = .ok (.o row) [.r false ys, .un] ∧ row.length = m ∧ (∀ x ∈ row, EntB (10 ^ 30) x) ∧ Deck ys := by
  have a1 : sSet 2 (eLst aNil) [.r false xs, .d (.int (m : Int)), .un, .un, .un] = .ok .nx [.r false xs, .d (.int (m : Int)), .l [], .un, .un] := set_o (xs := []) (E1 := [.r false xs, .d (.int (m : Int)), .un, .un, .un]) (by simp [val_v, keep_v, sRet, sSeq, sIf, sSet, putV, setS, sNil, sBrk, sCnt, sExp, sUnp, unp, setAll, sAdd, sApp, sExt, sPut, mutL, sIns, sRetN, sRaise, rtV, endF, cutR, cut1, eAnd, eOr, eNot, eIf, e1, e2, eB, eC, eVar, eTup, eLst, aNil, aCons, vals, keeps, isB, tB1, tAndM, tOrM, tNotM, eSl, part, eCall, callM, prep, slotsOf, slotOf, refsOf, goBack, backs, unref, eDict, eM, gAdd, Vs.gSub, gDiv, gMod, gPow, gNeg, gCmp, gLt, gLe, gGt, gGe, gIsN, gNotN, isNone, gIsi, gIsi2, gLen, gList, gTuple, gMin, gMax, gInt, gAbs, iSeq, iEn, iCh, sFor, tgN, tgU]) rfl (.inl rfl)
  have b1 : iRng rng1 (aCons (eVar 1) aNil) [.r false xs, .d (.int (m : Int)), .l [], .un, .un] = .ok (rngD 0 m) [.r false xs, .d (.int (m : Int)), .l [], .un, .un] := iRng1_ok (rs := [.v 1]) rfl rfl (by omega)
  have key := forM_all (g := tgN 3) (mb := bodyB) (fun rest E => ∃ (ys row : List Dt) (s3 s4 : Sl), E = [.r false ys, .d (.int (m : Int)), .l row, s3, s4] ∧ row.length + rest.length = m ∧ (∀ x ∈ row, EntB (10 ^ 30) x) ∧ nr s3 ∧ nr s4 ∧ Deck ys)
    (fun res => ∃ (ys row : List Dt) (s3 s4 : Sl), res = .ok .nx [.r false ys, .d (.int (m : Int)), .l row, s3, s4] ∧ row.length = m ∧ (∀ x ∈ row, EntB (10 ^ 30) x) ∧ Deck ys)
    (by
      rintro E ⟨ys, row, s3, s4, rfl, hl, hs, _, _, hD⟩
      exact ⟨ys, row, s3, s4, rfl, by simpa using hl, hs, hD⟩)
    (by
      rintro y rest E ⟨ys, row, s3, s4, rfl, hl, hs, f3, f4, hD⟩
      rw [List.length_cons] at hl
      obtain ⟨zs, x, t4, eb, hx, g4, hz⟩ := bodyB_ok (row := row) (a := .d (.int (m : Int))) (s3 := .d y) hD f4 (by omega)
      refine ⟨[.r false ys, .d (.int (m : Int)), .l row, .d y, s4], setS_nr (s0 := s3) rfl f3, .inl ⟨_, .inl eb, zs, row ++ [x], .d y, t4, rfl, by rw [List.length_append, List.length_singleton]; omega, fun z hz' => ?_, .inr (.inl ⟨_, rfl⟩), g4, hz⟩⟩
      rcases List.mem_append.mp hz' with h1 | h1
      · exact hs z h1
      · rw [List.mem_singleton.mp h1]; exact hx)
    (rngD 0 m) [.r false xs, .d (.int (m : Int)), .l [], .un, .un] ⟨xs, [], .un, .un, rfl, by rw [rngD_len]; simp, fun x hx => (by cases hx), .inl rfl, .inl rfl, h⟩
  obtain ⟨ys, row, s3, s4, ef, hl, hs, hD⟩ := key
  have a2 := (for_go (g := tgN 3) (mb := bodyB) b1).trans ef
  refine ⟨row, ys, ?_, hl, hs, hD⟩
  have hm : ∃ t2 : Sl, m__law_box [.r false xs, .d (.int (m : Int)), .un, .un, .un] = .ok (.rt (.o row)) [.r false ys, .d (.int (m : Int)), t2, s3, s4] := by
    rw [m_box_eq, seq_nx a1, seq_nx a2]
    exact ⟨_, rfl⟩
  obtain ⟨t2, hm⟩ := hm
  show (if [Sl.r false xs, .d (.int (m : Int))].length = 2 then endF [.r false xs, .d (.int (m : Int))] (m__law_box [.r false xs, .d (.int (m : Int)), .un, .un, .un]) else .no) = _
  rw [hm]
  rfl
end K04
/-! # K04Z -/
set_option Elab.async false
set_option linter.all false
set_option maxRecDepth 100000
set_option maxHeartbeats 4000000
/-! k04, the plain law: entries compared. -/
namespace K04
open PySem L2 Vs
def isMany : Dt → Bool
  | .str _ => true
  | _ => false
def gtD : Dt → Dt → Bool
  | .int i, .int j => decide (j < i)
  | _, _ => false
theorem eqMany {x : Dt} (h : Ent x) : eqD x (.str "many") = some (isMany x) := by
  rcases h with rfl | ⟨n, rfl, _⟩
  · show some (decide (("many" : Str) = ("many" : Str))) = _
    rw [decide_eq_true rfl]
    rfl
  · show (if SeqAt.shaped (.int (n : Int)) = true ∧ SeqAt.shaped (.str "many") = true then some (PyData.eqv (.int (n : Int)) (.str "many")) else none) = _
    rw [if_pos ⟨by simp [SeqAt.shaped, PyData.canLay0, PyData.depth], by decide +kernel⟩]
    rfl
theorem tEqMany {ma : M Rv} {E E1 : En} {r : Rv} {x : Dt} (hm : ma E = .ok r E1) (hv : val (fz r) E1 = .ok x E1) (h : Ent x) : tB1 (e2 gEq ma (eC (.str "many"))) E = .ok (isMany x) E1 := by
  have q := e2_to (g := gEq) (mb := eC (.str "many")) (r2 := .d (.str "many")) (y := .str "many") (z := .d (.bool (isMany x))) hm rfl hv rfl (by unfold gEq; rw [eqMany h]; rfl)
  unfold tB1
  rw [bnd_ap, q]
  rfl
theorem tNeMany {ma : M Rv} {E E1 : En} {r : Rv} {x : Dt} (hm : ma E = .ok r E1) (hv : val (fz r) E1 = .ok x E1) (h : Ent x) : tB1 (e2 gNe ma (eC (.str "many"))) E = .ok (!isMany x) E1 := by
  have q := e2_to (g := gNe) (mb := eC (.str "many")) (r2 := .d (.str "many")) (y := .str "many") (z := .d (.bool (!isMany x))) hm rfl hv rfl (by unfold gNe; rw [eqMany h]; rfl)
  unfold tB1
  rw [bnd_ap, q]
  rfl
theorem tGt {ma mb : M Rv} {E : En} {r1 r2 : Rv} {x y : Dt} (h1 : ma E = .ok r1 E) (h2 : mb E = .ok r2 E) (v1 : val (fz r1) E = .ok x E) (v2 : val (fz r2) E = .ok y E) (hx : Ent x) (hy : Ent y) (mx : isMany x = false) (my : isMany y = false) : tB1 (e2 gGt ma mb) E = .ok (gtD x y) E := by
  have g : gGt x y = some (.d (.bool (gtD x y))) := by
    rcases hx with rfl | ⟨n, rfl, _⟩
    · cases mx
    · rcases hy with rfl | ⟨k, rfl, _⟩
      · cases my
      · rfl
  have q := e2_go h1 h2 v1 v2 g
  unfold tB1
  rw [bnd_ap, q]
  rfl
/-- the low entry is too many for the high one -/
def over (l h : Dt) : Bool := !isMany h && (isMany l || gtD l h)
end K04
/-! # K04ZA -/
set_option Elab.async false
set_option linter.all false
set_option maxRecDepth 100000
set_option maxHeartbeats 4000000
/-! k04, the plain law: at most. -/
namespace K04
open PySem L2 Vs
def bodyM : M Fl := sIf (tAndM (tB1 (e2 gNe (e2 gIx (eVar 1) (eVar 2)) (eC (.str "many")))) (tOrM (tB1 (e2 gEq (e2 gIx (eVar 0) (eVar 2)) (eC (.str "many")))) (tB1 (e2 gGt (e2 gIx (eVar 0) (eVar 2)) (e2 gIx (eVar 1) (eVar 2)))))) (sRet (eC (.bool false))) sNil
theorem m_at_most_eq : m__law_at_most = sSeq (sFor (tgN 2) (iRng rng1 (aCons (eB gLen (aCons (eVar 0) aNil)) aNil)) bodyM) (sRet (eC (.bool true))) := rfl
theorem and_t {a b : M Bool} {E E1 : En} (h : a E = .ok true E1) : tAndM a b E = b E1 := by
  unfold tAndM
  rw [bnd_ap, h, go_ok, if_pos rfl]
theorem and_f {a b : M Bool} {E E1 : En} (h : a E = .ok false E1) : tAndM a b E = .ok false E1 := by
  unfold tAndM
  rw [bnd_ap, h, go_ok, if_neg Bool.false_ne_true]
  rfl
theorem ix_list {xs : List Dt} {k : Nat} {x : Dt} (h : xs[k]? = some x) : gIx (.list xs) (.int (k : Int)) = some (.d x) := by
  show (L2.atI _ (k : Int)).map Rv.d = _
  rw [atI_nat h]
  rfl
theorem bodyM_ok {as bs : List Dt} {k : Nat} {l h : Dt} (ha : as[k]? = some l) (hb : bs[k]? = some h) (el : Ent l) (eh : Ent h) : bodyM [.d (.list as), .d (.list bs), .d (.int (k : Int))] = (if over l h then .ok (.rt (.d (.bool false))) [.d (.list as), .d (.list bs), .d (.int (k : Int))] else .ok .nx [.d (.list as), .d (.list bs), .d (.int (k : Int))]) := by
  have q0 : e2 gIx (eVar 0) (eVar 2) [.d (.list as), .d (.list bs), .d (.int (k : Int))] = .ok (.d l) [.d (.list as), .d (.list bs), .d (.int (k : Int))] := e2_go (r1 := .v 0) (r2 := .v 2) (x := .list as) (y := .int (k : Int)) rfl rfl rfl rfl (ix_list ha)
  have q1 : e2 gIx (eVar 1) (eVar 2) [.d (.list as), .d (.list bs), .d (.int (k : Int))] = .ok (.d h) [.d (.list as), .d (.list bs), .d (.int (k : Int))] := e2_go (r1 := .v 1) (r2 := .v 2) (x := .list bs) (y := .int (k : Int)) rfl rfl rfl rfl (ix_list hb)
  have c1 := tNeMany q1 rfl eh
  have c2 := tEqMany q0 rfl el
  unfold bodyM over
  cases mh : isMany h with
  | true =>
    rw [mh] at c1
    rw [if_f (and_f c1)]
    rfl
  | false =>
    rw [mh] at c1
    cases ml : isMany l with
    | true =>
      rw [ml] at c2
      rw [if_t ((and_t c1).trans (or_t c2))]
      rfl
    | false =>
      rw [ml] at c2
      have c3 := tGt q0 q1 rfl rfl el eh ml mh
      cases mg : gtD l h with
      | true =>
        rw [mg] at c3
        rw [if_t ((and_t c1).trans ((or_f c2).trans c3))]
        rfl
      | false =>
        rw [mg] at c3
        rw [if_f ((and_t c1).trans ((or_f c2).trans c3))]
        rfl
end K04
/-! # K04ZB -/
set_option Elab.async false
set_option linter.all false
set_option maxRecDepth 100000
set_option maxHeartbeats 4000000
/-! k04, the plain law: at most, whole. -/
namespace K04
open PySem L2 Vs
/-- no entry is over -/
def NoOver (as bs : List Dt) (n : Nat) : Prop := ∀ j l h, j < n → as[j]? = some l → bs[j]? = some h → over l h = false
theorem at_most_ok {as bs : List Dt} (hl : as.length = bs.length) (hn : as.length ≤ 1000) (ha : ∀ x ∈ as, Ent x) (hb : ∀ x ∈ bs, Ent x) : ∃ b : Bool, f__law_at_most [.d (.list as), .d (.list bs)] = .ok (.d (.bool b)) [.un, .un] ∧ (b = true ↔ NoOver as bs as.length) := by
  have b0 : eB gLen (aCons (eVar 0) aNil) [.d (.list as), .d (.list bs), .un] = .ok (.d (.int (as.length : Int))) [.d (.list as), .d (.list bs), .un] := by simp [val_v, keep_v, sRet, sSeq, sIf, sSet, putV, setS, sNil, sBrk, sCnt, sExp, sUnp, unp, setAll, sAdd, sApp, sExt, sPut, mutL, sIns, sRetN, sRaise, rtV, endF, cutR, cut1, eAnd, eOr, eNot, eIf, e1, e2, eB, eC, eVar, eTup, eLst, aNil, aCons, vals, keeps, isB, tB1, tAndM, tOrM, tNotM, eSl, part, eCall, callM, prep, slotsOf, slotOf, refsOf, goBack, backs, unref, eDict, eM, gAdd, Vs.gSub, gDiv, gMod, gPow, gNeg, gCmp, gLt, gLe, gGt, gGe, gIsN, gNotN, isNone, gIsi, gIsi2, gLen, gList, gTuple, gMin, gMax, gInt, gAbs, iSeq, iEn, iCh, sFor, tgN, tgU]
  have b1 := iRng1_ok (aCons_go (mr := aNil) b0 rfl) rfl (show as.length ≤ 1000000000 by omega)
  have key := forM_all (g := tgN 2) (mb := bodyM) (fun rest E => ∃ (k : Nat) (s : Sl), E = [.d (.list as), .d (.list bs), s] ∧ nr s ∧ k + rest.length = as.length ∧ (∀ i x, rest[i]? = some x → x = PyData.int ((k + i : Nat) : Int)) ∧ NoOver as bs k)
    (fun res => ∃ (b : Bool) (s : Sl), res = (if b then .ok .nx [.d (.list as), .d (.list bs), s] else .ok (.rt (.d (.bool false))) [.d (.list as), .d (.list bs), s]) ∧ (b = true ↔ NoOver as bs as.length))
    (by
      rintro E ⟨k, s, rfl, _, hk, _, hN⟩
      rw [List.length_nil, Nat.add_zero] at hk
      subst hk
      exact ⟨true, s, rfl, fun _ => hN, fun _ => rfl⟩)
    (by
      rintro y rest E ⟨k, s, rfl, hs, hk, hr, hN⟩
      rw [List.length_cons] at hk
      have e0 := hr 0 y rfl
      rw [Nat.add_zero] at e0
      subst e0
      have hka : k < as.length := by omega
      have hkb : k < bs.length := by omega
      have eb := bodyM_ok (List.getElem?_eq_getElem hka) (List.getElem?_eq_getElem hkb) (ha _ (List.getElem_mem hka)) (hb _ (List.getElem_mem hkb))
      refine ⟨[.d (.list as), .d (.list bs), .d (.int (k : Int))], setS_nr (s0 := s) rfl hs, ?_⟩
      cases ho : over as[k] bs[k] with
      | true =>
        rw [ho, if_pos rfl] at eb
        refine .inr (.inr (.inl ⟨_, _, eb, false, _, rfl, fun h => Bool.noConfusion h, fun h => ?_⟩))
        have := h k _ _ hka (List.getElem?_eq_getElem hka) (List.getElem?_eq_getElem hkb)
        rw [ho] at this
        exact this.symm
      | false =>
        rw [ho, if_neg Bool.false_ne_true] at eb
        refine .inl ⟨_, .inl eb, k + 1, _, rfl, .inr (.inl ⟨_, rfl⟩), by omega, fun i x hx => ?_, fun j l h hj hjl hjh => ?_⟩
        · have := hr (i + 1) x hx
          rw [this]
          rw [show k + (i + 1) = k + 1 + i by omega]
        · by_cases hjk : j = k
          · subst hjk
            rw [List.getElem?_eq_getElem hka] at hjl
            rw [List.getElem?_eq_getElem hkb] at hjh
            cases hjl; cases hjh
            exact ho
          · exact hN j l h (by omega) hjl hjh)
    (rngD 0 as.length) [.d (.list as), .d (.list bs), .un] ⟨0, .un, rfl, .inl rfl, by rw [rngD_len]; omega, fun i x hx => by
      have := (rngD_at hx).2
      rw [this, Int.zero_add, Nat.zero_add], fun j l h hj => by omega⟩
  obtain ⟨b, s, ef, hb'⟩ := key
  have a2 := (for_go (g := tgN 2) (mb := bodyM) b1).trans ef
  refine ⟨b, ?_, hb'⟩
  refine mkFn_rt (E0 := [.d (.list as), .d (.list bs), .un]) (E := [.d (.list as), .d (.list bs), s]) rfl rfl ?_
  rw [m_at_most_eq]
  cases b with
  | true => rw [if_pos rfl] at a2; rw [seq_nx a2]; rfl
  | false => rw [if_neg Bool.false_ne_true] at a2; rw [seq_rt a2]
end K04
/-! # K04ZC -/
set_option Elab.async false
set_option linter.all false
set_option maxRecDepth 100000
set_option maxHeartbeats 4000000
/-! k04, the plain law: is_less. -/
namespace K04
open PySem L2 Vs
def bodyS : M Fl := sIf (tB1 (e2 gNe (e2 gIx (eVar 1) (eVar 2)) (eC (.str "many")))) (sIf (tOrM (tB1 (e2 gEq (eVar 3) (eC (.str "many")))) (tB1 (e2 gGt (eVar 3) (e2 gIx (eVar 1) (eVar 2))))) (sRet (eC (.bool false))) sNil) sNil
theorem m_is_less_eq : m_is_less = sSeq (sFor (tgU [2, 3]) (iEn (eVar 0)) bodyS) (sRet (eC (.bool true))) := rfl
theorem ix_tuple {xs : List Dt} {k : Nat} {x : Dt} (h : xs[k]? = some x) : gIx (.tuple xs) (.int (k : Int)) = some (.d x) := by
  show (L2.atI _ (k : Int)).map Rv.d = _
  rw [atI_nat h]
  rfl
theorem bodyS_ok {a : Dt} {bs : List Dt} {k : Nat} {l h : Dt} (hb : bs[k]? = some h) (el : Ent l) (eh : Ent h) : bodyS [.d a, .d (.tuple bs), .d (.int (k : Int)), .d l] = (if over l h then .ok (.rt (.d (.bool false))) [.d a, .d (.tuple bs), .d (.int (k : Int)), .d l] else .ok .nx [.d a, .d (.tuple bs), .d (.int (k : Int)), .d l]) := by
  have q1 : e2 gIx (eVar 1) (eVar 2) [.d a, .d (.tuple bs), .d (.int (k : Int)), .d l] = .ok (.d h) [.d a, .d (.tuple bs), .d (.int (k : Int)), .d l] := e2_go (r1 := .v 1) (r2 := .v 2) (x := .tuple bs) (y := .int (k : Int)) rfl rfl rfl rfl (ix_tuple hb)
  have q0 : eVar 3 [.d a, .d (.tuple bs), .d (.int (k : Int)), .d l] = .ok (.v 3) [.d a, .d (.tuple bs), .d (.int (k : Int)), .d l] := rfl
  have c1 := tNeMany q1 rfl eh
  have c2 := tEqMany (x := l) q0 rfl el
  unfold bodyS over
  cases mh : isMany h with
  | true =>
    rw [mh] at c1
    rw [if_f c1]
    rfl
  | false =>
    rw [mh] at c1
    rw [if_t c1]
    cases ml : isMany l with
    | true =>
      rw [ml] at c2
      rw [if_t (or_t c2)]
      rfl
    | false =>
      rw [ml] at c2
      have c3 := tGt (x := l) q0 q1 rfl rfl el eh ml mh
      cases mg : gtD l h with
      | true =>
        rw [mg] at c3
        rw [if_t ((or_f c2).trans c3)]
        rfl
      | false =>
        rw [mg] at c3
        rw [if_f ((or_f c2).trans c3)]
        rfl
theorem is_less_ok {as bs : List Dt} (hl : as.length = bs.length) (ha : ∀ x ∈ as, Ent x) (hb : ∀ x ∈ bs, Ent x) : ∃ b : Bool, f_is_less [.d (.list as), .d (.tuple bs)] = .ok (.d (.bool b)) [.un, .un] ∧ (b = true ↔ NoOver as bs as.length) := by
  have b1 : iEn (eVar 0) [.d (.list as), .d (.tuple bs), .un, .un] = .ok (enumD 0 as) [.d (.list as), .d (.tuple bs), .un, .un] := rfl
  have key := forM_all (g := tgU [2, 3]) (mb := bodyS) (fun rest E => ∃ (k : Nat) (s2 s3 : Sl), E = [.d (.list as), .d (.tuple bs), s2, s3] ∧ nr s2 ∧ nr s3 ∧ k + rest.length = as.length ∧ (∀ i x, rest[i]? = some x → ∃ y, as[k + i]? = some y ∧ x = PyData.tuple [PyData.int ((k + i : Nat) : Int), y]) ∧ NoOver as bs k)
    (fun res => ∃ (b : Bool) (s2 s3 : Sl), res = (if b then .ok .nx [.d (.list as), .d (.tuple bs), s2, s3] else .ok (.rt (.d (.bool false))) [.d (.list as), .d (.tuple bs), s2, s3]) ∧ (b = true ↔ NoOver as bs as.length))
    (by
      rintro E ⟨k, s2, s3, rfl, _, _, hk, _, hN⟩
      rw [List.length_nil, Nat.add_zero] at hk
      subst hk
      exact ⟨true, s2, s3, rfl, fun _ => hN, fun _ => rfl⟩)
    (by
      rintro y rest E ⟨k, s2, s3, rfl, f2, f3, hk, hr, hN⟩
      rw [List.length_cons] at hk
      obtain ⟨l, hl0, e0⟩ := hr 0 y rfl
      rw [Nat.add_zero] at e0 hl0
      subst e0
      have hkb : k < bs.length := by omega
      have eb := bodyS_ok (a := .list as) (List.getElem?_eq_getElem hkb) (ha _ (List.mem_of_getElem? hl0)) (hb _ (List.getElem_mem hkb))
      refine ⟨[.d (.list as), .d (.tuple bs), .d (.int (k : Int)), .d l], ?_, ?_⟩
      · rcases f2 with rfl | ⟨_, rfl⟩ | ⟨_, rfl⟩ <;> rcases f3 with rfl | ⟨_, rfl⟩ | ⟨_, rfl⟩ <;> rfl
      cases ho : over l bs[k] with
      | true =>
        rw [ho, if_pos rfl] at eb
        refine .inr (.inr (.inl ⟨_, _, eb, false, _, _, rfl, fun h => Bool.noConfusion h, fun h => ?_⟩))
        have := h k _ _ (by omega) hl0 (List.getElem?_eq_getElem hkb)
        rw [ho] at this
        exact this.symm
      | false =>
        rw [ho, if_neg Bool.false_ne_true] at eb
        refine .inl ⟨_, .inl eb, k + 1, _, _, rfl, .inr (.inl ⟨_, rfl⟩), .inr (.inl ⟨_, rfl⟩), by omega, fun i x hx => ?_, fun j l' h hj hjl hjh => ?_⟩
        · obtain ⟨z, h1, h2⟩ := hr (i + 1) x hx
          rw [show k + (i + 1) = k + 1 + i by omega] at h1 h2
          exact ⟨z, h1, h2⟩
        · by_cases hjk : j = k
          · subst hjk
            rw [hl0] at hjl
            rw [List.getElem?_eq_getElem hkb] at hjh
            cases hjl; cases hjh
            exact ho
          · exact hN j l' h (by omega) hjl hjh)
    (enumD 0 as) [.d (.list as), .d (.tuple bs), .un, .un] ⟨0, .un, .un, rfl, .inl rfl, .inl rfl, by rw [enumD_len]; omega, fun i x hx => by
      obtain ⟨y, h1, h2⟩ := enumD_at hx
      rw [Nat.zero_add] at h2 ⊢
      exact ⟨y, h1, h2⟩, fun j l h hj => by omega⟩
  obtain ⟨b, s2, s3, ef, hb'⟩ := key
  have a2 := (for_go (g := tgU [2, 3]) (mb := bodyS) b1).trans ef
  refine ⟨b, ?_, hb'⟩
  refine mkFn_rt (E0 := [.d (.list as), .d (.tuple bs), .un, .un]) (E := [.d (.list as), .d (.tuple bs), s2, s3]) rfl rfl ?_
  rw [m_is_less_eq]
  cases b with
  | true => rw [if_pos rfl] at a2; rw [seq_nx a2]; rfl
  | false => rw [if_neg Bool.false_ne_true] at a2; rw [seq_rt a2]
theorem same_iff {b c : Bool} {P : Prop} (h1 : b = true ↔ P) (h2 : c = true ↔ P) : b = c := by
  cases b <;> cases c <;> simp_all
end K04
/-! # K04ZD -/
set_option Elab.async false
set_option linter.all false
set_option maxRecDepth 100000
set_option maxHeartbeats 4000000
/-! k04, the plain law: dense_key. -/
namespace K04
open PySem L2 Vs
def key1 (x : Dt) : Dt := if isMany x then .tuple [.int 1, .int 0] else .tuple [.int 0, x]
def kexp : M Rv := eIf (tB1 (e2 gEq (eVar 1) (eC (.str "many")))) (eTup (aCons (eC (.int 1)) (aCons (eC (.int 0)) aNil))) (eTup (aCons (eC (.int 0)) (aCons (eVar 1) aNil)))
theorem kexp_ok {a x : Dt} (h : Ent x) : kexp [.d a, .d x] = .ok (.d (key1 x)) [.d a, .d x] := by
  have c := tEqMany (ma := eVar 1) (E := [.d a, .d x]) (r := .v 1) rfl rfl h
  unfold kexp eIf key1
  rw [bnd_ap, c, go_ok]
  cases isMany x with
  | true => rw [if_pos rfl, if_pos rfl]; simp [val_v, keep_v, sRet, sSeq, sIf, sSet, putV, setS, sNil, sBrk, sCnt, sExp, sUnp, unp, setAll, sAdd, sApp, sExt, sPut, mutL, sIns, sRetN, sRaise, rtV, endF, cutR, cut1, eAnd, eOr, eNot, eIf, e1, e2, eB, eC, eVar, eTup, eLst, aNil, aCons, vals, keeps, isB, tB1, tAndM, tOrM, tNotM, eSl, part, eCall, callM, prep, slotsOf, slotOf, refsOf, goBack, backs, unref, eDict, eM, gAdd, Vs.gSub, gDiv, gMod, gPow, gNeg, gCmp, gLt, gLe, gGt, gGe, gIsN, gNotN, isNone, gIsi, gIsi2, gLen, gList, gTuple, gMin, gMax, gInt, gAbs, iSeq, iEn, iCh, sFor, tgN, tgU]
  | false => rw [if_neg Bool.false_ne_true, if_neg Bool.false_ne_true]; simp [val_v, keep_v, sRet, sSeq, sIf, sSet, putV, setS, sNil, sBrk, sCnt, sExp, sUnp, unp, setAll, sAdd, sApp, sExt, sPut, mutL, sIns, sRetN, sRaise, rtV, endF, cutR, cut1, eAnd, eOr, eNot, eIf, e1, e2, eB, eC, eVar, eTup, eLst, aNil, aCons, vals, keeps, isB, tB1, tAndM, tOrM, tNotM, eSl, part, eCall, callM, prep, slotsOf, slotOf, refsOf, goBack, backs, unref, eDict, eM, gAdd, Vs.gSub, gDiv, gMod, gPow, gNeg, gCmp, gLt, gLe, gGt, gGe, gIsN, gNotN, isNone, gIsi, gIsi2, gLen, gList, gTuple, gMin, gMax, gInt, gAbs, iSeq, iEn, iCh, sFor, tgN, tgU]
theorem dense_ok {a : Dt} {xs : List Dt} (hi : iSeq (eVar 0) [.d a, .un] = .ok xs [.d a, .un]) (hx : ∀ x ∈ xs, Ent x) (hl : xs.length ≤ 1000) : f_dense_key [.d a] = .ok (.d (.tuple (xs.map key1))) [.un] := by
  have h := eLc_pure (v := 1) (mt := Vs.ret true) (me := kexp) (mi := iSeq (eVar 0)) (E := [.d a, .un]) (E0 := [.d a, .un]) (xs := xs) (s := .un) (fun _ => true) key1 hi rfl (.inl rfl) (by omega) (fun _ _ => rfl) (fun x hm _ => ⟨.d (key1 x), kexp_ok (hx x hm), rfl⟩)
  rw [List.filter_eq_self.mpr (fun _ _ => rfl)] at h
  refine mkFn_rt (E0 := [.d a, .un]) (E := [.d a, .un]) rfl rfl ?_
  show sRet (eB gTuple (aCons (eLc [1] (tgN 1) (Vs.ret true) kexp (iSeq (eVar 0))) aNil)) [.d a, .un] = _
  refine ret_ok ?_
  unfold eB
  rw [bnd_ap, aCons_go (mr := aNil) h rfl]
  rfl
theorem dense_list {xs : List Dt} (hx : ∀ x ∈ xs, Ent x) (hl : xs.length ≤ 1000) : f_dense_key [.d (.list xs)] = .ok (.d (.tuple (xs.map key1))) [.un] := dense_ok rfl hx hl
theorem dense_tuple {xs : List Dt} (hx : ∀ x ∈ xs, Ent x) (hl : xs.length ≤ 1000) : f_dense_key [.d (.tuple xs)] = .ok (.d (.tuple (xs.map key1))) [.un] := dense_ok rfl hx hl
end K04
/-! # K04ZE -/
set_option Elab.async false
set_option linter.all false
set_option maxRecDepth 100000
set_option maxHeartbeats 4000000
/-! k04, the plain law: a box, bent. -/
namespace K04
open PySem L2 Vs
theorem sPut_to {i : Nat} {mi me : M Rv} {E E1 : En} {s : Sl} {xs : List Dt} {x : Dt} {r : Rv} {k : Nat} (hm : me E = .ok (.d x) E1) (hs : E1[i]? = some s) (ho : ownL s = some xs) (hi : mi E1 = .ok r E1) (hk : val (fz r) E1 = .ok (.int (k : Int)) E1) (hl : k < xs.length) : sPut i mi me E = .ok .nx (E1.set i (putL s (xs.set k x))) := by
  unfold sPut
  rw [bnd_ap, hm, go_ok]
  show (match (E1[i]?).bind ownL with | some _ => _ | none => _) = _
  rw [hs]
  show (match ownL s with | some _ => _ | none => _) = _
  rw [ho]
  simp only [bnd_ap]
  rw [hi, go_ok]
  simp only [bnd_ap]
  rw [hk, go_ok]
  simp only [bnd_ap, fz_d, keep_d, go_ok]
  unfold mutL
  rw [hs]
  have hix : ixN xs.length (k : Int) = some k := by
    unfold ixN
    rw [if_pos (by omega), if_pos (by omega), Int.toNat_natCast]
  simp only [ho, Option.bind_some, hix]
def maxN : M Rv := eB gMax (aCons (eC (.int 0)) (aCons (e2 gAdd (e2 gIx (eVar 2) (eVar 4)) (e2 gIx (eTup (aCons (eC (.int 1)) (aCons (e1 gNeg (eC (.int 1))) (aCons (eC (.int 2)) aNil)))) (eVar 5))) aNil))
def bodyN : M Fl := sIf (tB1 (e2 gGt (eB gLen (aCons (eVar 2) aNil)) (eC (.int 0)))) (sSeq (sSet 4 (eCall f__law_pick [true, false] (aCons (eVar 0) (aCons (eB gLen (aCons (eVar 2) aNil)) aNil)))) (sSeq (sSet 5 (pk 4)) (sIf (isK 5 3) (sPut 2 (eVar 4) (eC (.str "many"))) (sIf (tB1 (e2 gEq (e2 gIx (eVar 2) (eVar 4)) (eC (.str "many")))) (sPut 2 (eVar 4) (pk 36)) (sPut 2 (eVar 4) maxN))))) sNil
theorem m_bent_eq : m__law_bent_box = sSeq (sSet 2 (eB gList (aCons (eVar 1) aNil))) (sSeq (sFor (tgN 3) (iRng rng1 (aCons (pk 4) aNil)) bodyN) (sRet (eVar 2))) := rfl
theorem mem_set' {α : Type} {xs : List α} {k : Nat} {x y : α} (h : y ∈ xs.set k x) : y ∈ xs ∨ y = x := List.mem_or_eq_of_mem_set h
theorem bodyN_ok {xs row : List Dt} {a s3 s4 s5 : Sl} {b : Nat} (h : Deck xs) (h4 : nr s4) (h5 : nr s5) (hl : row.length ≤ 100) (hb : 36 ≤ b) (hr : ∀ x ∈ row, EntB b x) (hbb : b ≤ 10 ^ 31) : ∃ (ys row' : List Dt) (s4' s5' : Sl), bodyN [.r false xs, a, .l row, s3, s4, s5] = .ok .nx [.r false ys, a, .l row', s3, s4', s5'] ∧ row'.length = row.length ∧ (∀ x ∈ row', EntB (b + 2) x) ∧ nr s4' ∧ nr s5' ∧ Deck ys := by
  have l0 : ∀ {x3 x4 x5 : Sl} {zs : List Dt}, eB gLen (aCons (eVar 2) aNil) [.r false zs, a, .l row, x3, x4, x5] = .ok (.d (.int (row.length : Int))) [.r false zs, a, .l row, x3, x4, x5] := by
    intro x3 x4 x5 zs
    simp [val_v, keep_v, sRet, sSeq, sIf, sSet, putV, setS, sNil, sBrk, sCnt, sExp, sUnp, unp, setAll, sAdd, sApp, sExt, sPut, mutL, sIns, sRetN, sRaise, rtV, endF, cutR, cut1, eAnd, eOr, eNot, eIf, e1, e2, eB, eC, eVar, eTup, eLst, aNil, aCons, vals, keeps, isB, tB1, tAndM, tOrM, tNotM, eSl, part, eCall, callM, prep, slotsOf, slotOf, refsOf, goBack, backs, unref, eDict, eM, gAdd, Vs.gSub, gDiv, gMod, gPow, gNeg, gCmp, gLt, gLe, gGt, gGe, gIsN, gNotN, isNone, gIsi, gIsi2, gLen, gList, gTuple, gMin, gMax, gInt, gAbs, iSeq, iEn, iCh, sFor, tgN, tgU]
  have c0 : tB1 (e2 gGt (eB gLen (aCons (eVar 2) aNil)) (eC (.int 0))) [.r false xs, a, .l row, s3, s4, s5] = .ok (decide ((0 : Int) < (row.length : Int))) [.r false xs, a, .l row, s3, s4, s5] := by
    have q := e2_go (g := gGt) (mb := eC (.int 0)) (r2 := .d (.int 0)) (y := .int 0) (z := .d (.bool (decide ((0 : Int) < (row.length : Int))))) (l0 (x3 := s3) (x4 := s4) (x5 := s5) (zs := xs)) rfl rfl rfl rfl
    unfold tB1
    rw [bnd_ap, q]
    rfl
  by_cases h0 : (0 : Int) < (row.length : Int)
  · rw [decide_eq_true h0] at c0
    obtain ⟨k, y1, p1, hk, h1⟩ := pick_ok h h0
    have hk' : k < row.length := by omega
    have q1 : eCall f__law_pick [true, false] (aCons (eVar 0) (aCons (eB gLen (aCons (eVar 2) aNil)) aNil)) [.r false xs, a, .l row, s3, s4, s5] = .ok (.d (.int (k : Int))) [.r false y1, a, .l row, s3, s4, s5] := by
      simp [val_v, keep_v, sRet, sSeq, sIf, sSet, putV, setS, sNil, sBrk, sCnt, sExp, sUnp, unp, setAll, sAdd, sApp, sExt, sPut, mutL, sIns, sRetN, sRaise, rtV, endF, cutR, cut1, eAnd, eOr, eNot, eIf, e1, e2, eB, eC, eVar, eTup, eLst, aNil, aCons, vals, keeps, isB, tB1, tAndM, tOrM, tNotM, eSl, part, eCall, callM, prep, slotsOf, slotOf, refsOf, goBack, backs, unref, eDict, eM, gAdd, Vs.gSub, gDiv, gMod, gPow, gNeg, gCmp, gLt, gLe, gGt, gGe, gIsN, gNotN, isNone, gIsi, gIsi2, gLen, gList, gTuple, gMin, gMax, gInt, gAbs, iSeq, iEn, iCh, sFor, tgN, tgU, p1]
    have a1 := set_d (i := 4) q1 rfl h4
    obtain ⟨j, y2, p2, hj, h2⟩ := pick_ok h1 (m := 4) (by omega)
    have a2 : sSet 5 (pk 4) [.r false y1, a, .l row, s3, .d (.int (k : Int)), s5] = .ok .nx [.r false y2, a, .l row, s3, .d (.int (k : Int)), .d (.int (j : Int))] := set_d (pk_ok p2) rfl h5
    have hx : row[k]? = some row[k] := List.getElem?_eq_getElem hk'
    have ex : Ent row[k] := (hr _ (List.getElem_mem hk')).up hbb
    have q3 : e2 gIx (eVar 2) (eVar 4) [.r false y2, a, .l row, s3, .d (.int (k : Int)), .d (.int (j : Int))] = .ok (.d row[k]) [.r false y2, a, .l row, s3, .d (.int (k : Int)), .d (.int (j : Int))] := e2_go (r1 := .v 2) (r2 := .v 4) (x := .list row) (y := .int (k : Int)) rfl rfl rfl rfl (ix_list hx)
    have fin : ∀ {x : Dt} {ys : List Dt}, EntB (b + 2) x → ∀ z ∈ row.set k x, EntB (b + 2) z := by
      intro x ys hx z hz
      rcases mem_set' hz with hz | rfl
      · exact (hr z hz).up (by omega)
      · exact hx
    by_cases k3 : (j : Int) = 3
    · refine ⟨y2, row.set k (.str "many"), .d (.int (k : Int)), .d (.int (j : Int)), ?_, List.length_set .., fin (ys := []) (.inl rfl), .inr (.inl ⟨_, rfl⟩), .inr (.inl ⟨_, rfl⟩), h2⟩
      unfold bodyN
      rw [if_t c0, seq_nx a1]
      show sSeq _ _ [.r false y1, a, .l row, s3, .d (.int (k : Int)), s5] = _
      rw [seq_nx a2, if_t (isK_t rfl k3)]
      exact sPut_to (s := .l row) (r := .v 4) rfl rfl rfl rfl rfl hk'
    have c1 := tEqMany q3 rfl ex
    cases hm : isMany row[k] with
    | true =>
      rw [hm] at c1
      obtain ⟨n, y3, p3, hn, h3⟩ := pick_ok h2 (m := 36) (by omega)
      refine ⟨y3, row.set k (.int (n : Int)), .d (.int (k : Int)), .d (.int (j : Int)), ?_, List.length_set .., fin (ys := []) (.inr ⟨n, rfl, by omega⟩), .inr (.inl ⟨_, rfl⟩), .inr (.inl ⟨_, rfl⟩), h3⟩
      unfold bodyN
      rw [if_t c0, seq_nx a1]
      show sSeq _ _ [.r false y1, a, .l row, s3, .d (.int (k : Int)), s5] = _
      rw [seq_nx a2, if_f (isK_f rfl k3), if_t c1]
      exact sPut_to (s := .l row) (r := .v 4) (pk_ok p3) rfl rfl rfl rfl hk'
    | false =>
      rw [hm] at c1
      obtain ⟨v, hv, hvb⟩ : ∃ v : Nat, row[k] = .int (v : Int) ∧ v < b := by
        rcases hr _ (List.getElem_mem hk') with e | e
        · rw [e] at hm; cases hm
        · exact e
      obtain ⟨d, hd, ed⟩ : ∃ d : Int, (-1 ≤ d ∧ d ≤ 2) ∧ gIx (.tuple [.int 1, .int (-1), .int 2]) (.int (j : Int)) = some (.d (.int d)) := by
        have : j = 0 ∨ j = 1 ∨ j = 2 := by omega
        rcases this with rfl | rfl | rfl
        · exact ⟨1, by omega, rfl⟩
        · exact ⟨-1, by omega, rfl⟩
        · exact ⟨2, by omega, rfl⟩
      have t0 : eTup (aCons (eC (.int 1)) (aCons (e1 gNeg (eC (.int 1))) (aCons (eC (.int 2)) aNil))) [.r false y2, a, .l row, s3, .d (.int (k : Int)), .d (.int (j : Int))] = .ok (.d (.tuple [.int 1, .int (-1), .int 2])) [.r false y2, a, .l row, s3, .d (.int (k : Int)), .d (.int (j : Int))] := by
        simp [val_v, keep_v, sRet, sSeq, sIf, sSet, putV, setS, sNil, sBrk, sCnt, sExp, sUnp, unp, setAll, sAdd, sApp, sExt, sPut, mutL, sIns, sRetN, sRaise, rtV, endF, cutR, cut1, eAnd, eOr, eNot, eIf, e1, e2, eB, eC, eVar, eTup, eLst, aNil, aCons, vals, keeps, isB, tB1, tAndM, tOrM, tNotM, eSl, part, eCall, callM, prep, slotsOf, slotOf, refsOf, goBack, backs, unref, eDict, eM, gAdd, Vs.gSub, gDiv, gMod, gPow, gNeg, gCmp, gLt, gLe, gGt, gGe, gIsN, gNotN, isNone, gIsi, gIsi2, gLen, gList, gTuple, gMin, gMax, gInt, gAbs, iSeq, iEn, iCh, sFor, tgN, tgU]
      have t1 := e2_go (g := gIx) (mb := eVar 5) (r2 := .v 5) (y := .int (j : Int)) t0 rfl rfl rfl ed
      rw [hv] at q3
      have t2 := e2_go (g := gAdd) q3 t1 rfl rfl (show gAdd (.int (v : Int)) (.int d) = some (.d (.int ((v : Int) + d))) from rfl)
      obtain ⟨w, hw, hwb⟩ : ∃ w : Nat, (if (v : Int) + d > 0 then (v : Int) + d else 0) = (w : Int) ∧ w < b + 2 := by
        by_cases hp : (v : Int) + d > 0
        · rw [if_pos hp]; exact ⟨((v : Int) + d).toNat, by omega, by omega⟩
        · rw [if_neg hp]; exact ⟨0, rfl, by omega⟩
      have t3 : maxN [.r false y2, a, .l row, s3, .d (.int (k : Int)), .d (.int (j : Int))] = .ok (.d (.int (w : Int))) [.r false y2, a, .l row, s3, .d (.int (k : Int)), .d (.int (j : Int))] := by
        have c := aCons_go (ma := eC (.int 0)) (r := .d (.int 0)) rfl (aCons_go (mr := aNil) t2 rfl)
        unfold maxN eB
        rw [bnd_ap, c, go_ok, bnd_ap]
        show (Rs.go (Rs.ok [PyData.int 0, .int ((v : Int) + d)] _) _) = _
        rw [go_ok, ← hw]
        rfl
      refine ⟨y2, row.set k (.int (w : Int)), .d (.int (k : Int)), .d (.int (j : Int)), ?_, List.length_set .., fin (ys := []) (.inr ⟨w, rfl, hwb⟩), .inr (.inl ⟨_, rfl⟩), .inr (.inl ⟨_, rfl⟩), h2⟩
      unfold bodyN
      rw [if_t c0, seq_nx a1]
      show sSeq _ _ [.r false y1, a, .l row, s3, .d (.int (k : Int)), s5] = _
      rw [seq_nx a2, if_f (isK_f rfl k3), if_f c1]
      exact sPut_to (s := .l row) (r := .v 4) t3 rfl rfl rfl rfl hk'
  · rw [decide_eq_false h0] at c0
    refine ⟨xs, row, s4, s5, ?_, rfl, fun x hx => (hr x hx).up (by omega), h4, h5, h⟩
    unfold bodyN
    rw [if_f c0]
    rfl
theorem bent_ok {xs row : List Dt} (h : Deck xs) (hl : row.length ≤ 100) (hr : ∀ x ∈ row, EntB (10 ^ 30) x) : ∃ (row' ys : List Dt), f__law_bent_box [.r false xs, .d (.list row)] = .ok (.o row') [.r false ys, .un] ∧ row'.length = row.length ∧ (∀ x ∈ row', Ent x) ∧ Deck ys := by
  have a1 : sSet 2 (eB gList (aCons (eVar 1) aNil)) [.r false xs, .d (.list row), .un, .un, .un, .un] = .ok .nx [.r false xs, .d (.list row), .l row, .un, .un, .un] := set_o (xs := row) (E1 := [.r false xs, .d (.list row), .un, .un, .un, .un]) rfl rfl (.inl rfl)
  obtain ⟨m, y1, p1, hm, h1⟩ := pick_ok h (m := 4) (by omega)
  have b1 : iRng rng1 (aCons (pk 4) aNil) [.r false xs, .d (.list row), .l row, .un, .un, .un] = .ok (rngD 0 m) [.r false y1, .d (.list row), .l row, .un, .un, .un] := iRng1_ok (aCons_go (pk_ok p1) rfl) rfl (by omega)
  have key := forM_all (g := tgN 3) (mb := bodyN) (fun rest E => ∃ (ys row' : List Dt) (s3 s4 s5 : Sl) (c : Nat), E = [.r false ys, .d (.list row), .l row', s3, s4, s5] ∧ row'.length = row.length ∧ c + rest.length = m ∧ (∀ x ∈ row', EntB (10 ^ 30 + 2 * c) x) ∧ nr s3 ∧ nr s4 ∧ nr s5 ∧ Deck ys)
    (fun res => ∃ (ys row' : List Dt) (s3 s4 s5 : Sl), res = .ok .nx [.r false ys, .d (.list row), .l row', s3, s4, s5] ∧ row'.length = row.length ∧ (∀ x ∈ row', Ent x) ∧ Deck ys)
    (by
      rintro E ⟨ys, row', s3, s4, s5, c, rfl, hl', hc, hs, _, _, _, hD⟩
      rw [List.length_nil] at hc
      have e : 10 ^ 30 + 2 * c ≤ 10 ^ 31 := by omega
      exact ⟨ys, row', s3, s4, s5, rfl, hl', fun x hx => (hs x hx).up e, hD⟩)
    (by
      rintro y rest E ⟨ys, row', s3, s4, s5, c, rfl, hl', hc, hs, f3, f4, f5, hD⟩
      rw [List.length_cons] at hc
      have e : 10 ^ 30 + 2 * c ≤ 10 ^ 31 := by omega
      obtain ⟨zs, row'', t4, t5, eb, hl'', hx, g4, g5, hz⟩ := bodyN_ok (row := row') (a := .d (.list row)) (s3 := .d y) hD f4 f5 (by omega) (by omega) hs e
      exact ⟨[.r false ys, .d (.list row), .l row', .d y, s4, s5], setS_nr (s0 := s3) rfl f3, .inl ⟨_, .inl eb, zs, row'', .d y, t4, t5, c + 1, rfl, by omega, by omega, fun z hz' => (hx z hz').up (by omega), .inr (.inl ⟨_, rfl⟩), g4, g5, hz⟩⟩)
    (rngD 0 m) [.r false y1, .d (.list row), .l row, .un, .un, .un] ⟨y1, row, .un, .un, .un, 0, rfl, rfl, by rw [rngD_len]; omega, fun x hx => (hr x hx).up (by omega), .inl rfl, .inl rfl, .inl rfl, h1⟩
  obtain ⟨ys, row', s3, s4, s5, ef, hl', hs, hD⟩ := key
  have a2 := (for_go (g := tgN 3) (mb := bodyN) b1).trans ef
  refine ⟨row', ys, ?_, hl', hs, hD⟩
  have hm : ∃ t2 : Sl, m__law_bent_box [.r false xs, .d (.list row), .un, .un, .un, .un] = .ok (.rt (.o row')) [.r false ys, .d (.list row), t2, s3, s4, s5] := by
    rw [m_bent_eq, seq_nx a1, seq_nx a2]
    exact ⟨_, rfl⟩
  obtain ⟨t2, hm⟩ := hm
  show (if [Sl.r false xs, .d (.list row)].length = 2 then endF [.r false xs, .d (.list row)] (m__law_bent_box [.r false xs, .d (.list row), .un, .un, .un, .un]) else .no) = _
  rw [hm]
  rfl
end K04
/-! # K04ZF -/
set_option Elab.async false
set_option linter.all false
set_option maxRecDepth 100000
set_option maxHeartbeats 4000000
/-! k04, the plain law: the boxes are right. -/
namespace K04
open PySem L2 Vs
theorem rep_go {ma : M Rv} {E E1 : En} {r : Rv} {x : Dt} (h : ma E = .ok r E1) (v : vals [fz r] E1 = .ok [x] E1) (hr : okRepr x = true) : eB gRepr (aCons ma aNil) E = .ok (.d (.str x.shown)) E1 := by
  have g : gRepr [x] = some (.d (.str x.shown)) := if_pos hr
  unfold eB
  rw [bnd_ap, aCons_go (mr := aNil) h rfl, go_ok, bnd_ap, v, go_ok, g]
  rfl
theorem nod1 (i : Nat) : ([i] : List Nat).Nodup := by simp
theorem call_d {f : Fn} {fl : List Bool} {ma : M (List Rv)} {E E1 E2 E3 S P : En} {rs : List Rv} {l : List Vs.Arg} {y : Dt} (ha : ma E = .ok rs E1) (hp : prep fl rs E1 = .ok l E2) (hn : (refsOf l).Nodup) (hs : slotsOf E2 l = some S) (p : f S = .ok (.d y) P) (hb : backs l P E2 = some E3) : eCall f fl ma E = .ok (.d y) E3 := by
  unfold eCall
  rw [bnd_ap, ha, go_ok]
  unfold callM
  rw [bnd_ap, hp, go_ok, if_pos hn, hs]
  show goBack l E2 (f S) = _
  rw [p]
  show (match backs l P E2 with | some E3 => Rs.ok (Rv.d y) E3 | none => .no) = _
  rw [hb]
theorem call_o {f : Fn} {fl : List Bool} {ma : M (List Rv)} {E E1 E2 E3 S P : En} {rs : List Rv} {l : List Vs.Arg} {ys : List Dt} (ha : ma E = .ok rs E1) (hp : prep fl rs E1 = .ok l E2) (hn : (refsOf l).Nodup) (hs : slotsOf E2 l = some S) (p : f S = .ok (.o ys) P) (hb : backs l P E2 = some E3) : eCall f fl ma E = .ok (.o ys) E3 := by
  unfold eCall
  rw [bnd_ap, ha, go_ok]
  unfold callM
  rw [bnd_ap, hp, go_ok, if_pos hn, hs]
  show goBack l E2 (f S) = _
  rw [p]
  show (match backs l P E2 with | some E3 => Rs.ok (Rv.o ys) E3 | none => .no) = _
  rw [hb]
theorem gNe_same (z : Str) : gNe (.str z) (.str z) = some (.d (.bool false)) := by
  show (some (decide (z = z))).map _ = _
  rw [decide_eq_true rfl]
  rfl
theorem gEq_same (z : Str) : gEq (.str z) (.str z) = some (.d (.bool true)) := by
  show (some (decide (z = z))).map _ = _
  rw [decide_eq_true rfl]
  rfl
theorem ne_same {ma mb : M Rv} {E E1 E2 : En} {z : Str} (h1 : ma E = .ok (.d (.str z)) E1) (h2 : mb E1 = .ok (.d (.str z)) E2) : tB1 (e2 gNe ma mb) E = .ok false E2 := by
  have q := e2_to h1 h2 rfl rfl (gNe_same z)
  unfold tB1
  rw [bnd_ap, q]
  rfl
theorem forM_cons {g : Dt → M Fl} {mb : M Fl} {x : Dt} {xs : List Dt} {E E1 E2 : En} (h1 : g x E = .ok .nx E1) (h2 : mb E1 = .ok .nx E2) : Vs.forM g mb (x :: xs) E = Vs.forM g mb xs E2 := by
  show (match g x E with
    | .ok .nx E1 => bnd mb (aft (Vs.forM g mb xs)) E1
    | _ => .no) = _
  rw [h1]
  simp only [bnd_ap]
  rw [h2]
  rfl
theorem okD_int {i : Int} (h1 : -(10 ^ 60) < i) (h2 : i < 10 ^ 60) : okD (.int i) = true := decide_eq_true ⟨h1, h2⟩
theorem okD_nat {n : Nat} (h : n < 10 ^ 31) : okD (.int (n : Int)) = true := by
  refine okD_int ?_ ?_
  · have : (0 : Int) ≤ n := by omega
    omega
  · have h3 : (n : Int) < 10 ^ 31 := by exact_mod_cast h
    omega
theorem ents_ok : ∀ {row : List Dt}, (∀ x ∈ row, Ent x) → okDs row = true ∧ bds row ≤ 64 * row.length ∧ PyData.depthAll row ≤ 5
  | [], _ => ⟨rfl, by simp [bds], by simp [PyData.depthAll]⟩
  | x :: row, h => by
    obtain ⟨h1, h2, h3⟩ := ents_ok fun y hy => h y (List.mem_cons_of_mem _ hy)
    have h4 : okD x = true ∧ bd x ≤ 62 ∧ x.depth ≤ 5 := by
      rcases h x (List.mem_cons_self ..) with rfl | ⟨n, rfl, hn⟩
      · refine ⟨by decide +kernel, ?_, by simp [PyData.depth]⟩
        have e : (("many" : String) : Str).length = 4 := by decide +kernel
        simp only [bd]
        omega
      · exact ⟨okD_nat hn, by simp [bd], by simp [PyData.depth]⟩
    refine ⟨by simp only [okDs, h1, h4.1, Bool.and_self], ?_, ?_⟩
    · simp only [bds, List.length_cons]; omega
    · simp only [PyData.depthAll]; omega
theorem keys_ok : ∀ {row : List Dt}, (∀ x ∈ row, Ent x) → okDs (row.map key1) = true ∧ bds (row.map key1) ≤ 140 * row.length ∧ PyData.depthAll (row.map key1) ≤ 8
  | [], _ => ⟨rfl, by simp [bds], by simp [PyData.depthAll]⟩
  | x :: row, h => by
    obtain ⟨h1, h2, h3⟩ := keys_ok fun y hy => h y (List.mem_cons_of_mem _ hy)
    have h4 : okD (key1 x) = true ∧ bd (key1 x) ≤ 131 ∧ (key1 x).depth ≤ 8 := by
      rcases h x (List.mem_cons_self ..) with rfl | ⟨n, rfl, hn⟩
      · refine ⟨by decide +kernel, ?_, ?_⟩ <;> simp [key1, isMany, bd, bds, PyData.depth, PyData.depthAll]
      · have e : okD (.int (n : Int)) = true := okD_nat hn
        refine ⟨?_, ?_, ?_⟩
        · show (okD (.int 0) && (okD (.int (n : Int)) && true)) = true
          rw [e]
          decide +kernel
        · simp [key1, isMany, bd, bds]
        · simp [key1, isMany, PyData.depth, PyData.depthAll]
    refine ⟨by simp only [List.map_cons, okDs, h1, h4.1, Bool.and_self], ?_, ?_⟩
    · simp only [List.map_cons, bds, List.length_cons]; omega
    · simp only [List.map_cons, PyData.depthAll]; omega
def bodyP : M Fl := sIf (tB1 (e2 gNe (eB gRepr (aCons (eCall f_is_less [false, false] (aCons (eVar 4) (aCons (eB gTuple (aCons (eVar 5) aNil)) aNil))) aNil)) (eB gRepr (aCons (eCall f__law_at_most [false, false] (aCons (eVar 4) (aCons (eVar 5) aNil))) aNil)))) (sRet (eC (.bool false))) sNil
def bodyR : M Fl := sIf (tB1 (e2 gEq (eVar 8) (eC (.str "many")))) (sApp 7 (eTup (aCons (eC (.int 1)) (aCons (eC (.int 0)) aNil)))) (sApp 7 (eTup (aCons (eC (.int 0)) (aCons (eVar 8) aNil))))
def bodyQ : M Fl := sSeq (sSet 7 (eLst aNil)) (sSeq (sFor (tgN 8) (iSeq (eVar 6)) bodyR) (sIf (tOrM (tB1 (e2 gNe (eB gRepr (aCons (eCall f_dense_key [false] (aCons (eVar 6) aNil)) aNil)) (eB gRepr (aCons (eB gTuple (aCons (eVar 7) aNil)) aNil)))) (tB1 (e2 gNe (eB gRepr (aCons (eCall f_dense_key [false] (aCons (eB gTuple (aCons (eVar 6) aNil)) aNil)) aNil)) (eB gRepr (aCons (eB gTuple (aCons (eVar 7) aNil)) aNil))))) (sRet (eC (.bool false))) sNil))
def three : M (List Dt) := iSeq (eTup (aCons (eTup (aCons (eVar 1) (aCons (eVar 2) aNil))) (aCons (eTup (aCons (eVar 2) (aCons (eVar 1) aNil))) (aCons (eTup (aCons (eVar 2) (aCons (eVar 2) aNil))) aNil))))
theorem m_boxes_eq : m__law_boxes_right = sSeq (sSet 1 (eCall f__law_box [true, false] (aCons (eVar 0) (aCons (e2 gIx (eTup (aCons (eC (.int 2)) (aCons (eC (.int 0)) (aCons (eC (.int 1)) (aCons (eC (.int 12)) (aCons (eC (.int 5)) aNil)))))) (pk 5)) aNil)))) (sSeq (sSet 2 (eCall f__law_bent_box [true, false] (aCons (eVar 0) (aCons (eVar 1) aNil)))) (sSeq (sSet 3 (eB gRepr (aCons (eTup (aCons (eVar 1) (aCons (eVar 2) aNil))) aNil))) (sSeq (sFor (tgU [4, 5]) three bodyP) (sSeq (sFor (tgN 6) (iSeq (eTup (aCons (eVar 1) (aCons (eVar 2) aNil)))) bodyQ) (sRet (e2 gEq (eB gRepr (aCons (eTup (aCons (eVar 1) (aCons (eVar 2) aNil))) aNil)) (eVar 3))))))) := rfl
theorem okRepr_bool (b : Bool) : okRepr (.bool b) = true := okRepr_of (by simp only [okD]) (by simp only [PyData.depth]; omega) (by simp only [bd]; omega)
theorem bodyP_ok {s0 s1 s2 s3 s6 s7 s8 : Sl} {as bs : List Dt} (hl : as.length = bs.length) (hn : as.length ≤ 100) (ha : ∀ x ∈ as, Ent x) (hb : ∀ x ∈ bs, Ent x) : bodyP [s0, s1, s2, s3, .d (.list as), .d (.list bs), s6, s7, s8] = .ok .nx [s0, s1, s2, s3, .d (.list as), .d (.list bs), s6, s7, s8] := by
  obtain ⟨b, p1, i1⟩ := is_less_ok hl ha hb
  obtain ⟨c, p2, i2⟩ := at_most_ok hl (by omega) ha hb
  have e := same_iff i1 i2
  subst e
  have hbs : okLen bs = true := okLen_of (by omega)
  have q1 : eCall f_is_less [false, false] (aCons (eVar 4) (aCons (eB gTuple (aCons (eVar 5) aNil)) aNil)) [s0, s1, s2, s3, .d (.list as), .d (.list bs), s6, s7, s8] = .ok (.d (.bool b)) [s0, s1, s2, s3, .d (.list as), .d (.list bs), s6, s7, s8] := by
    exact call_d (rs := [.v 4, .d (.tuple bs)]) (l := [(none, PyData.list as), (none, PyData.tuple bs)]) (E1 := [s0, s1, s2, s3, .d (.list as), .d (.list bs), s6, s7, s8]) (E2 := [s0, s1, s2, s3, .d (.list as), .d (.list bs), s6, s7, s8]) rfl rfl List.nodup_nil rfl p1 rfl
  have q2 : eCall f__law_at_most [false, false] (aCons (eVar 4) (aCons (eVar 5) aNil)) [s0, s1, s2, s3, .d (.list as), .d (.list bs), s6, s7, s8] = .ok (.d (.bool b)) [s0, s1, s2, s3, .d (.list as), .d (.list bs), s6, s7, s8] := by
    exact call_d (rs := [.v 4, .v 5]) (l := [(none, PyData.list as), (none, PyData.list bs)]) (E1 := [s0, s1, s2, s3, .d (.list as), .d (.list bs), s6, s7, s8]) (E2 := [s0, s1, s2, s3, .d (.list as), .d (.list bs), s6, s7, s8]) rfl rfl List.nodup_nil rfl p2 rfl
  have r1 := rep_go q1 rfl (okRepr_bool b)
  have r2 := rep_go q2 rfl (okRepr_bool b)
  unfold bodyP
  rw [if_f (ne_same r1 r2)]
  rfl
theorem bodyR_ok {s0 s1 s2 s3 s4 s5 s6 : Sl} {x : Dt} {due : List Dt} (hx : Ent x) (hl : due.length ≤ 1000) : bodyR [s0, s1, s2, s3, s4, s5, s6, .l due, .d x] = .ok .nx [s0, s1, s2, s3, s4, s5, s6, .l (due ++ [key1 x]), .d x] := by
  have c := tEqMany (ma := eVar 8) (E := [s0, s1, s2, s3, s4, s5, s6, .l due, .d x]) (r := .v 8) rfl rfl hx
  have t1 : eTup (aCons (eC (.int 1)) (aCons (eC (.int 0)) aNil)) [s0, s1, s2, s3, s4, s5, s6, .l due, .d x] = .ok (.d (.tuple [.int 1, .int 0])) [s0, s1, s2, s3, s4, s5, s6, .l due, .d x] := by simp [val_v, keep_v, sRet, sSeq, sIf, sSet, putV, setS, sNil, sBrk, sCnt, sExp, sUnp, unp, setAll, sAdd, sApp, sExt, sPut, mutL, sIns, sRetN, sRaise, rtV, endF, cutR, cut1, eAnd, eOr, eNot, eIf, e1, e2, eB, eC, eVar, eTup, eLst, aNil, aCons, vals, keeps, isB, tB1, tAndM, tOrM, tNotM, eSl, part, eCall, callM, prep, slotsOf, slotOf, refsOf, goBack, backs, unref, eDict, eM, gAdd, Vs.gSub, gDiv, gMod, gPow, gNeg, gCmp, gLt, gLe, gGt, gGe, gIsN, gNotN, isNone, gIsi, gIsi2, gLen, gList, gTuple, gMin, gMax, gInt, gAbs, iSeq, iEn, iCh, sFor, tgN, tgU]
  have t2 : eTup (aCons (eC (.int 0)) (aCons (eVar 8) aNil)) [s0, s1, s2, s3, s4, s5, s6, .l due, .d x] = .ok (.d (.tuple [.int 0, x])) [s0, s1, s2, s3, s4, s5, s6, .l due, .d x] := by simp [val_v, keep_v, sRet, sSeq, sIf, sSet, putV, setS, sNil, sBrk, sCnt, sExp, sUnp, unp, setAll, sAdd, sApp, sExt, sPut, mutL, sIns, sRetN, sRaise, rtV, endF, cutR, cut1, eAnd, eOr, eNot, eIf, e1, e2, eB, eC, eVar, eTup, eLst, aNil, aCons, vals, keeps, isB, tB1, tAndM, tOrM, tNotM, eSl, part, eCall, callM, prep, slotsOf, slotOf, refsOf, goBack, backs, unref, eDict, eM, gAdd, Vs.gSub, gDiv, gMod, gPow, gNeg, gCmp, gLt, gLe, gGt, gGe, gIsN, gNotN, isNone, gIsi, gIsi2, gLen, gList, gTuple, gMin, gMax, gInt, gAbs, iSeq, iEn, iCh, sFor, tgN, tgU]
  unfold bodyR key1
  cases hm : isMany x with
  | true =>
    rw [hm] at c
    rw [if_t c, if_pos rfl]
    exact sApp_to (s := .l due) (s1 := .l due) rfl rfl t1 rfl rfl (by omega)
  | false =>
    rw [hm] at c
    rw [if_f c, if_neg Bool.false_ne_true]
    exact sApp_to (s := .l due) (s1 := .l due) rfl rfl t2 rfl rfl (by omega)
theorem loopR_ok {s0 s1 s2 s3 s4 s5 s6 s8 : Sl} {xs : List Dt} (hx : ∀ x ∈ xs, Ent x) (hl : xs.length ≤ 100) (h8 : nr s8) : ∃ s8' : Sl, Vs.forM (tgN 8) bodyR xs [s0, s1, s2, s3, s4, s5, s6, .l [], s8] = .ok .nx [s0, s1, s2, s3, s4, s5, s6, .l (xs.map key1), s8'] ∧ nr s8' := by
  refine forM_all (g := tgN 8) (mb := bodyR) (fun rest E => ∃ (done : List Dt) (s8' : Sl), E = [s0, s1, s2, s3, s4, s5, s6, .l (done.map key1), s8'] ∧ xs = done ++ rest ∧ nr s8')
    (fun res => ∃ s8' : Sl, res = .ok .nx [s0, s1, s2, s3, s4, s5, s6, .l (xs.map key1), s8'] ∧ nr s8') ?_ ?_ xs _ ⟨[], s8, rfl, rfl, h8⟩
  · rintro E ⟨done, s8', rfl, e, f8⟩
    rw [List.append_nil] at e
    subst e
    exact ⟨s8', rfl, f8⟩
  · rintro y rest E ⟨done, s8', rfl, e, f8⟩
    have hy : y ∈ xs := by rw [e]; simp
    have hd : (done.map key1).length ≤ 1000 := by
      have : xs.length = done.length + (rest.length + 1) := by rw [e]; simp
      rw [List.length_map]
      omega
    refine ⟨[s0, s1, s2, s3, s4, s5, s6, .l (done.map key1), .d y], setS_nr (s0 := s8') rfl f8, .inl ⟨_, .inl (bodyR_ok (hx y hy) hd), done ++ [y], .d y, ?_, ?_, .inr (.inl ⟨_, rfl⟩)⟩⟩
    · rw [List.map_append]; rfl
    · rw [e]; simp
theorem bodyQ_ok {s0 s1 s2 s3 s4 s5 s7 s8 : Sl} {xs : List Dt} (hx : ∀ x ∈ xs, Ent x) (hl : xs.length ≤ 100) (h7 : nr s7) (h8 : nr s8) : ∃ s7' s8' : Sl, bodyQ [s0, s1, s2, s3, s4, s5, .d (.list xs), s7, s8] = .ok .nx [s0, s1, s2, s3, s4, s5, .d (.list xs), s7', s8'] ∧ nr s7' ∧ nr s8' := by
  have a1 : sSet 7 (eLst aNil) [s0, s1, s2, s3, s4, s5, .d (.list xs), s7, s8] = .ok .nx [s0, s1, s2, s3, s4, s5, .d (.list xs), .l [], s8] := set_o (xs := []) (E1 := [s0, s1, s2, s3, s4, s5, .d (.list xs), s7, s8]) (by simp [val_v, keep_v, sRet, sSeq, sIf, sSet, putV, setS, sNil, sBrk, sCnt, sExp, sUnp, unp, setAll, sAdd, sApp, sExt, sPut, mutL, sIns, sRetN, sRaise, rtV, endF, cutR, cut1, eAnd, eOr, eNot, eIf, e1, e2, eB, eC, eVar, eTup, eLst, aNil, aCons, vals, keeps, isB, tB1, tAndM, tOrM, tNotM, eSl, part, eCall, callM, prep, slotsOf, slotOf, refsOf, goBack, backs, unref, eDict, eM, gAdd, Vs.gSub, gDiv, gMod, gPow, gNeg, gCmp, gLt, gLe, gGt, gGe, gIsN, gNotN, isNone, gIsi, gIsi2, gLen, gList, gTuple, gMin, gMax, gInt, gAbs, iSeq, iEn, iCh, sFor, tgN, tgU]) rfl h7
  obtain ⟨s8', ef, f8⟩ := loopR_ok (s0 := s0) (s1 := s1) (s2 := s2) (s3 := s3) (s4 := s4) (s5 := s5) (s6 := .d (.list xs)) hx hl h8
  have b1 : iSeq (eVar 6) [s0, s1, s2, s3, s4, s5, .d (.list xs), .l [], s8] = .ok xs [s0, s1, s2, s3, s4, s5, .d (.list xs), .l [], s8] := rfl
  have a2 := (for_go (g := tgN 8) (mb := bodyR) b1).trans ef
  obtain ⟨k1, k2, k3⟩ := keys_ok hx
  have hr : okRepr (.tuple (xs.map key1)) = true := okRepr_of k1 (by simp only [PyData.depth]; omega) (by simp only [bd]; omega)
  have hxs : okLen xs = true := okLen_of (by omega)
  have hks : okLen (xs.map key1) = true := okLen_of (by rw [List.length_map]; omega)
  have d1 := dense_list hx (show xs.length ≤ 1000 by omega)
  have d2 := dense_tuple hx (show xs.length ≤ 1000 by omega)
  have q1 : eCall f_dense_key [false] (aCons (eVar 6) aNil) [s0, s1, s2, s3, s4, s5, .d (.list xs), .l (xs.map key1), s8'] = .ok (.d (.tuple (xs.map key1))) [s0, s1, s2, s3, s4, s5, .d (.list xs), .l (xs.map key1), s8'] := by
    simp [val_v, keep_v, sRet, sSeq, sIf, sSet, putV, setS, sNil, sBrk, sCnt, sExp, sUnp, unp, setAll, sAdd, sApp, sExt, sPut, mutL, sIns, sRetN, sRaise, rtV, endF, cutR, cut1, eAnd, eOr, eNot, eIf, e1, e2, eB, eC, eVar, eTup, eLst, aNil, aCons, vals, keeps, isB, tB1, tAndM, tOrM, tNotM, eSl, part, eCall, callM, prep, slotsOf, slotOf, refsOf, goBack, backs, unref, eDict, eM, gAdd, Vs.gSub, gDiv, gMod, gPow, gNeg, gCmp, gLt, gLe, gGt, gGe, gIsN, gNotN, isNone, gIsi, gIsi2, gLen, gList, gTuple, gMin, gMax, gInt, gAbs, iSeq, iEn, iCh, sFor, tgN, tgU, d1]
  have q2 : eCall f_dense_key [false] (aCons (eB gTuple (aCons (eVar 6) aNil)) aNil) [s0, s1, s2, s3, s4, s5, .d (.list xs), .l (xs.map key1), s8'] = .ok (.d (.tuple (xs.map key1))) [s0, s1, s2, s3, s4, s5, .d (.list xs), .l (xs.map key1), s8'] := by
    simp [val_v, keep_v, sRet, sSeq, sIf, sSet, putV, setS, sNil, sBrk, sCnt, sExp, sUnp, unp, setAll, sAdd, sApp, sExt, sPut, mutL, sIns, sRetN, sRaise, rtV, endF, cutR, cut1, eAnd, eOr, eNot, eIf, e1, e2, eB, eC, eVar, eTup, eLst, aNil, aCons, vals, keeps, isB, tB1, tAndM, tOrM, tNotM, eSl, part, eCall, callM, prep, slotsOf, slotOf, refsOf, goBack, backs, unref, eDict, eM, gAdd, Vs.gSub, gDiv, gMod, gPow, gNeg, gCmp, gLt, gLe, gGt, gGe, gIsN, gNotN, isNone, gIsi, gIsi2, gLen, gList, gTuple, gMin, gMax, gInt, gAbs, iSeq, iEn, iCh, sFor, tgN, tgU, d2]
  have q3 : eB gTuple (aCons (eVar 7) aNil) [s0, s1, s2, s3, s4, s5, .d (.list xs), .l (xs.map key1), s8'] = .ok (.d (.tuple (xs.map key1))) [s0, s1, s2, s3, s4, s5, .d (.list xs), .l (xs.map key1), s8'] := by
    simp [val_v, keep_v, sRet, sSeq, sIf, sSet, putV, setS, sNil, sBrk, sCnt, sExp, sUnp, unp, setAll, sAdd, sApp, sExt, sPut, mutL, sIns, sRetN, sRaise, rtV, endF, cutR, cut1, eAnd, eOr, eNot, eIf, e1, e2, eB, eC, eVar, eTup, eLst, aNil, aCons, vals, keeps, isB, tB1, tAndM, tOrM, tNotM, eSl, part, eCall, callM, prep, slotsOf, slotOf, refsOf, goBack, backs, unref, eDict, eM, gAdd, Vs.gSub, gDiv, gMod, gPow, gNeg, gCmp, gLt, gLe, gGt, gGe, gIsN, gNotN, isNone, gIsi, gIsi2, gLen, gList, gTuple, gMin, gMax, gInt, gAbs, iSeq, iEn, iCh, sFor, tgN, tgU]
  have r1 := rep_go q1 rfl hr
  have r2 := rep_go q2 rfl hr
  have r3 := rep_go q3 rfl hr
  refine ⟨.l (xs.map key1), s8', ?_, .inr (.inr ⟨_, rfl⟩), f8⟩
  unfold bodyQ
  rw [seq_nx a1, seq_nx a2, if_f ((or_f (ne_same r1 r3)).trans (ne_same r2 r3))]
  rfl
theorem many5 {r : Nat} (h : (r : Int) < 5) : ∃ n : Nat, n ≤ 12 ∧ gIx (.tuple [.int 2, .int 0, .int 1, .int 12, .int 5]) (.int r) = some (.d (.int (n : Int))) := by
  have : r = 0 ∨ r = 1 ∨ r = 2 ∨ r = 3 ∨ r = 4 := by omega
  rcases this with rfl | rfl | rfl | rfl | rfl
  · exact ⟨2, by omega, rfl⟩
  · exact ⟨0, by omega, rfl⟩
  · exact ⟨1, by omega, rfl⟩
  · exact ⟨12, by omega, rfl⟩
  · exact ⟨5, by omega, rfl⟩
theorem boxes_ok {xs : List Dt} (h : Deck xs) : ∃ ys : List Dt, f__law_boxes_right [.r false xs] = .ok (.d (.bool true)) [.r false ys] ∧ Deck ys := by
  obtain ⟨r, y1, p1, hr, h1⟩ := pick_ok h (m := 5) (by omega)
  obtain ⟨m, hm, em⟩ := many5 hr
  obtain ⟨as, y2, p2, la, ha, h2⟩ := box_ok h1 (show m ≤ 900 by omega)
  obtain ⟨bs, y3, p3, lb, hb, h3⟩ := bent_ok (row := as) h2 (by omega) ha
  have ha' : ∀ x ∈ as, Ent x := fun x hx => (ha x hx).up (by decide)
  refine ⟨y3, ?_, h3⟩
  have t0 : e2 gIx (eTup (aCons (eC (.int 2)) (aCons (eC (.int 0)) (aCons (eC (.int 1)) (aCons (eC (.int 12)) (aCons (eC (.int 5)) aNil)))))) (pk 5) [.r false xs, .un, .un, .un, .un, .un, .un, .un, .un] = .ok (.d (.int (m : Int))) [.r false y1, .un, .un, .un, .un, .un, .un, .un, .un] := by
    have t : eTup (aCons (eC (.int 2)) (aCons (eC (.int 0)) (aCons (eC (.int 1)) (aCons (eC (.int 12)) (aCons (eC (.int 5)) aNil))))) [.r false xs, .un, .un, .un, .un, .un, .un, .un, .un] = .ok (.d (.tuple [.int 2, .int 0, .int 1, .int 12, .int 5])) [.r false xs, .un, .un, .un, .un, .un, .un, .un, .un] := by simp [val_v, keep_v, sRet, sSeq, sIf, sSet, putV, setS, sNil, sBrk, sCnt, sExp, sUnp, unp, setAll, sAdd, sApp, sExt, sPut, mutL, sIns, sRetN, sRaise, rtV, endF, cutR, cut1, eAnd, eOr, eNot, eIf, e1, e2, eB, eC, eVar, eTup, eLst, aNil, aCons, vals, keeps, isB, tB1, tAndM, tOrM, tNotM, eSl, part, eCall, callM, prep, slotsOf, slotOf, refsOf, goBack, backs, unref, eDict, eM, gAdd, Vs.gSub, gDiv, gMod, gPow, gNeg, gCmp, gLt, gLe, gGt, gGe, gIsN, gNotN, isNone, gIsi, gIsi2, gLen, gList, gTuple, gMin, gMax, gInt, gAbs, iSeq, iEn, iCh, sFor, tgN, tgU]
    exact e2_to t (pk_ok p1) rfl rfl em
  have a1 : sSet 1 (eCall f__law_box [true, false] (aCons (eVar 0) (aCons (e2 gIx (eTup (aCons (eC (.int 2)) (aCons (eC (.int 0)) (aCons (eC (.int 1)) (aCons (eC (.int 12)) (aCons (eC (.int 5)) aNil)))))) (pk 5)) aNil))) [.r false xs, .un, .un, .un, .un, .un, .un, .un, .un] = .ok .nx [.r false y2, .l as, .un, .un, .un, .un, .un, .un, .un] := by
    refine set_o (s0 := .un) ?_ rfl (.inl rfl) (E1 := [.r false y2, .un, .un, .un, .un, .un, .un, .un, .un])
    exact call_o (l := [(some 0, PyData.none), (none, PyData.int (m : Int))]) (E2 := [.r false y1, .un, .un, .un, .un, .un, .un, .un, .un]) (aCons_go (ma := eVar 0) (r := .v 0) (E := [.r false xs, .un, .un, .un, .un, .un, .un, .un, .un]) rfl (aCons_go (mr := aNil) t0 rfl)) rfl (nod1 0) rfl p2 rfl
  have a2 : sSet 2 (eCall f__law_bent_box [true, false] (aCons (eVar 0) (aCons (eVar 1) aNil))) [.r false y2, .l as, .un, .un, .un, .un, .un, .un, .un] = .ok .nx [.r false y3, .d (.list as), .l bs, .un, .un, .un, .un, .un, .un] := by
    refine set_o (s0 := .un) ?_ rfl (.inl rfl) (E1 := [.r false y3, .d (.list as), .un, .un, .un, .un, .un, .un, .un])
    exact call_o (rs := [.v 0, .v 1]) (l := [(some 0, PyData.none), (none, PyData.list as)]) (E1 := [.r false y2, .l as, .un, .un, .un, .un, .un, .un, .un]) (E2 := [.r false y2, .d (.list as), .un, .un, .un, .un, .un, .un, .un]) rfl rfl (nod1 0) rfl p3 rfl
  obtain ⟨e1, e2', e3⟩ := ents_ok ha'
  obtain ⟨f1, f2, f3⟩ := ents_ok hb
  have hok : okRepr (.tuple [.list as, .list bs]) = true := by
    refine okRepr_of ?_ ?_ ?_
    · simp only [okD, okDs, e1, f1, Bool.and_self]
    · simp only [PyData.depth, PyData.depthAll]; omega
    · simp only [bd, bds]; omega
  have q1 : eTup (aCons (eVar 1) (aCons (eVar 2) aNil)) [.r false y3, .d (.list as), .l bs, .un, .un, .un, .un, .un, .un] = .ok (.d (.tuple [.list as, .list bs])) [.r false y3, .d (.list as), .d (.list bs), .un, .un, .un, .un, .un, .un] := by
    simp [val_v, keep_v, sRet, sSeq, sIf, sSet, putV, setS, sNil, sBrk, sCnt, sExp, sUnp, unp, setAll, sAdd, sApp, sExt, sPut, mutL, sIns, sRetN, sRaise, rtV, endF, cutR, cut1, eAnd, eOr, eNot, eIf, e1, e2, eB, eC, eVar, eTup, eLst, aNil, aCons, vals, keeps, isB, tB1, tAndM, tOrM, tNotM, eSl, part, eCall, callM, prep, slotsOf, slotOf, refsOf, goBack, backs, unref, eDict, eM, gAdd, Vs.gSub, gDiv, gMod, gPow, gNeg, gCmp, gLt, gLe, gGt, gGe, gIsN, gNotN, isNone, gIsi, gIsi2, gLen, gList, gTuple, gMin, gMax, gInt, gAbs, iSeq, iEn, iCh, sFor, tgN, tgU]
  have a3 := set_d (i := 3) (rep_go q1 rfl hok) (s0 := .un) rfl (.inl rfl)
  have b4 : three [.r false y3, .d (.list as), .d (.list bs), .d (.str (PyData.tuple [.list as, .list bs]).shown), .un, .un, .un, .un, .un] = .ok [.tuple [.list as, .list bs], .tuple [.list bs, .list as], .tuple [.list bs, .list bs]] [.r false y3, .d (.list as), .d (.list bs), .d (.str (PyData.tuple [.list as, .list bs]).shown), .un, .un, .un, .un, .un] := by
    simp [three, val_v, keep_v, sRet, sSeq, sIf, sSet, putV, setS, sNil, sBrk, sCnt, sExp, sUnp, unp, setAll, sAdd, sApp, sExt, sPut, mutL, sIns, sRetN, sRaise, rtV, endF, cutR, cut1, eAnd, eOr, eNot, eIf, e1, e2, eB, eC, eVar, eTup, eLst, aNil, aCons, vals, keeps, isB, tB1, tAndM, tOrM, tNotM, eSl, part, eCall, callM, prep, slotsOf, slotOf, refsOf, goBack, backs, unref, eDict, eM, gAdd, Vs.gSub, gDiv, gMod, gPow, gNeg, gCmp, gLt, gLe, gGt, gGe, gIsN, gNotN, isNone, gIsi, gIsi2, gLen, gList, gTuple, gMin, gMax, gInt, gAbs, iSeq, iEn, iCh, sFor, tgN, tgU]
  have a4 : sFor (tgU [4, 5]) three bodyP [.r false y3, .d (.list as), .d (.list bs), .d (.str (PyData.tuple [.list as, .list bs]).shown), .un, .un, .un, .un, .un] = .ok .nx [.r false y3, .d (.list as), .d (.list bs), .d (.str (PyData.tuple [.list as, .list bs]).shown), .d (.list bs), .d (.list bs), .un, .un, .un] := by
    rw [for_go b4]
    rw [forM_cons (E1 := [.r false y3, .d (.list as), .d (.list bs), .d (.str (PyData.tuple [.list as, .list bs]).shown), .d (.list as), .d (.list bs), .un, .un, .un]) rfl (bodyP_ok lb.symm (by omega) ha' hb)]
    rw [forM_cons (E1 := [.r false y3, .d (.list as), .d (.list bs), .d (.str (PyData.tuple [.list as, .list bs]).shown), .d (.list bs), .d (.list as), .un, .un, .un]) rfl (bodyP_ok lb (by omega) hb ha')]
    rw [forM_cons (E1 := [.r false y3, .d (.list as), .d (.list bs), .d (.str (PyData.tuple [.list as, .list bs]).shown), .d (.list bs), .d (.list bs), .un, .un, .un]) rfl (bodyP_ok rfl (by omega) hb hb)]
    rfl
  have b5 : iSeq (eTup (aCons (eVar 1) (aCons (eVar 2) aNil))) [.r false y3, .d (.list as), .d (.list bs), .d (.str (PyData.tuple [.list as, .list bs]).shown), .d (.list bs), .d (.list bs), .un, .un, .un] = .ok [.list as, .list bs] [.r false y3, .d (.list as), .d (.list bs), .d (.str (PyData.tuple [.list as, .list bs]).shown), .d (.list bs), .d (.list bs), .un, .un, .un] := by
    simp [val_v, keep_v, sRet, sSeq, sIf, sSet, putV, setS, sNil, sBrk, sCnt, sExp, sUnp, unp, setAll, sAdd, sApp, sExt, sPut, mutL, sIns, sRetN, sRaise, rtV, endF, cutR, cut1, eAnd, eOr, eNot, eIf, e1, e2, eB, eC, eVar, eTup, eLst, aNil, aCons, vals, keeps, isB, tB1, tAndM, tOrM, tNotM, eSl, part, eCall, callM, prep, slotsOf, slotOf, refsOf, goBack, backs, unref, eDict, eM, gAdd, Vs.gSub, gDiv, gMod, gPow, gNeg, gCmp, gLt, gLe, gGt, gGe, gIsN, gNotN, isNone, gIsi, gIsi2, gLen, gList, gTuple, gMin, gMax, gInt, gAbs, iSeq, iEn, iCh, sFor, tgN, tgU]
  obtain ⟨u7, u8, eq1, g7, g8⟩ := bodyQ_ok (s0 := .r false y3) (s1 := .d (.list as)) (s2 := .d (.list bs)) (s3 := .d (.str (PyData.tuple [.list as, .list bs]).shown)) (s4 := .d (.list bs)) (s5 := .d (.list bs)) (s7 := .un) (s8 := .un) ha' (by omega) (.inl rfl) (.inl rfl)
  obtain ⟨v7, v8, eq2, _, _⟩ := bodyQ_ok (s0 := .r false y3) (s1 := .d (.list as)) (s2 := .d (.list bs)) (s3 := .d (.str (PyData.tuple [.list as, .list bs]).shown)) (s4 := .d (.list bs)) (s5 := .d (.list bs)) (s7 := u7) (s8 := u8) hb (by omega) g7 g8
  have a5 : sFor (tgN 6) (iSeq (eTup (aCons (eVar 1) (aCons (eVar 2) aNil)))) bodyQ [.r false y3, .d (.list as), .d (.list bs), .d (.str (PyData.tuple [.list as, .list bs]).shown), .d (.list bs), .d (.list bs), .un, .un, .un] = .ok .nx [.r false y3, .d (.list as), .d (.list bs), .d (.str (PyData.tuple [.list as, .list bs]).shown), .d (.list bs), .d (.list bs), .d (.list bs), v7, v8] := by
    rw [for_go b5, forM_cons (E1 := [.r false y3, .d (.list as), .d (.list bs), .d (.str (PyData.tuple [.list as, .list bs]).shown), .d (.list bs), .d (.list bs), .d (.list as), .un, .un]) rfl eq1]
    rw [forM_cons (E1 := [.r false y3, .d (.list as), .d (.list bs), .d (.str (PyData.tuple [.list as, .list bs]).shown), .d (.list bs), .d (.list bs), .d (.list bs), u7, u8]) rfl eq2]
    rfl
  have q2 : eTup (aCons (eVar 1) (aCons (eVar 2) aNil)) [.r false y3, .d (.list as), .d (.list bs), .d (.str (PyData.tuple [.list as, .list bs]).shown), .d (.list bs), .d (.list bs), .d (.list bs), v7, v8] = .ok (.d (.tuple [.list as, .list bs])) [.r false y3, .d (.list as), .d (.list bs), .d (.str (PyData.tuple [.list as, .list bs]).shown), .d (.list bs), .d (.list bs), .d (.list bs), v7, v8] := by
    simp [val_v, keep_v, sRet, sSeq, sIf, sSet, putV, setS, sNil, sBrk, sCnt, sExp, sUnp, unp, setAll, sAdd, sApp, sExt, sPut, mutL, sIns, sRetN, sRaise, rtV, endF, cutR, cut1, eAnd, eOr, eNot, eIf, e1, e2, eB, eC, eVar, eTup, eLst, aNil, aCons, vals, keeps, isB, tB1, tAndM, tOrM, tNotM, eSl, part, eCall, callM, prep, slotsOf, slotOf, refsOf, goBack, backs, unref, eDict, eM, gAdd, Vs.gSub, gDiv, gMod, gPow, gNeg, gCmp, gLt, gLe, gGt, gGe, gIsN, gNotN, isNone, gIsi, gIsi2, gLen, gList, gTuple, gMin, gMax, gInt, gAbs, iSeq, iEn, iCh, sFor, tgN, tgU]
  have q3 := e2_go (g := gEq) (mb := eVar 3) (r2 := .v 3) (y := .str (PyData.tuple [.list as, .list bs]).shown) (rep_go q2 rfl hok) rfl rfl rfl (gEq_same _)
  refine mkFn_rt (E0 := [.r false xs, .un, .un, .un, .un, .un, .un, .un, .un]) rfl rfl ?_ (E := [.r false y3, .d (.list as), .d (.list bs), .d (.str (PyData.tuple [.list as, .list bs]).shown), .d (.list bs), .d (.list bs), .d (.list bs), v7, v8])
  rw [m_boxes_eq, seq_nx a1, seq_nx a2, seq_nx a3]
  show sSeq _ _ [.r false y3, .d (.list as), .d (.list bs), .d (.str (PyData.tuple [.list as, .list bs]).shown), .un, .un, .un, .un, .un] = _
  rw [seq_nx a4, seq_nx a5]
  exact ret_ok q3
end K04
/-! # K04ZG -/
set_option Elab.async false
set_option linter.all false
set_option maxRecDepth 100000
set_option maxHeartbeats 4000000
/-! k04, the plain law: the forms are right. -/
namespace K04
open PySem L2 Vs
def askM (k : Int) (a b : M Rv) : M Rv := eCall f__law_asked [false, false, false] (aCons (eC (.int k)) (aCons a (aCons b aNil)))
def tA1 : M Bool := tOrM (tB1 (e2 gNe (eB gRepr (aCons (eCall f_is_int [false] (aCons (eVar 1) aNil)) aNil)) (eB gRepr (aCons (eVar 4) aNil)))) (tB1 (e2 gNe (eB gRepr (aCons (eCall f_is_name [false] (aCons (eVar 1) aNil)) aNil)) (eB gRepr (aCons (eVar 5) aNil))))
def tA2 : M Bool := tOrM (tB1 (e2 gNe (eB gRepr (aCons (eCall f_plain_form [false] (aCons (eVar 1) aNil)) aNil)) (eB gRepr (aCons (eVar 2) aNil)))) (tB1 (e2 gNe (eB gRepr (aCons (eCall f_plain_form [false] (aCons (eVar 2) aNil)) aNil)) (eB gRepr (aCons (eVar 2) aNil))))
def tA3 : M Bool := tAndM (tB1 (eVar 4)) (tB1 (e2 gGt (pk 3) (eC (.int 0))))
def sA3 : M Fl := sSet 6 (e2 Vs.gSub (e2 gAdd (eVar 1) (pk 3)) (eC (.int 1)))
def tA4 : M Bool := tAndM (tB1 (eVar 4)) (tB1 (e2 gGe (eVar 1) (eVar 6)))
def tup (w : Str) (i : Nat) : M Rv := eTup (aCons (eC (.str w)) (aCons (eVar i) aNil))
def neA (a : M Rv) : M Bool := tB1 (e2 gNe a (eB gRepr (aCons (eVar 7) aNil)))
def tA5 : M Bool := tOrM (tNotM (tB1 (eVar 4))) (tB1 (e2 gLt (eVar 1) (eC (.int 0))))
def halfM : M Rv := e2 gDiv (e2 gMul (eVar 1) (e2 Vs.gSub (eVar 1) (eC (.int 1)))) (eC (.int 2))
def retF : M Fl := sRet (eC (.bool false))
def badS : M Fl := sSeq (sSet 7 (eB gRepr (aCons (tup "number" 2) aNil))) (sIf (tOrM (tB1 (e2 gNe (askM 2 (eVar 1) (eC (.int 2))) (eVar 7))) (tOrM (tB1 (e2 gNe (askM 3 (eVar 1) (eC (.int 9))) (eVar 7))) (tB1 (e2 gNe (askM 2 (eVar 1) (e1 gNeg (eC (.int 1)))) (eVar 7))))) retF sNil)
def goodS : M Fl := sIf (tAndM (tB1 (e2 gLt (eVar 1) (e2 gPow (eC (.int 10)) (eC (.int 30))))) (tB1 (e2 gNe (askM 2 (eVar 1) (eC (.int 2))) (eB gRepr (aCons (eTup (aCons (eC (.str "told")) (aCons halfM aNil))) aNil))))) retF sNil
theorem m_forms_eq : m__law_forms_right = sSeq (sSet 3 (eB gRepr (aCons (eVar 1) aNil))) (sSeq (sSet 4 (eCall f__law_is_whole [false] (aCons (eVar 1) aNil))) (sSeq (sSet 5 (eCall f__law_named [false] (aCons (eVar 1) aNil))) (sSeq (sIf tA1 retF sNil) (sSeq (sIf tA2 retF sNil) (sSeq (sSet 6 (eCall f__law_great [true] (aCons (eVar 0) aNil))) (sSeq (sIf tA3 sA3 sNil) (sSeq (sSet 7 (tup "number" 2)) (sSeq (sIf tA4 (sSet 7 (tup "told" 1)) sNil) (sSeq (sIf (neA (askM 0 (eVar 1) (eVar 6))) retF sNil) (sSeq (sSet 7 (tup "name" 2)) (sSeq (sIf (tB1 (eVar 5)) (sSet 7 (tup "told" 1)) sNil) (sSeq (sIf (neA (askM 1 (eVar 1) (eC (.int 0)))) retF sNil) (sSeq (sIf tA5 badS goodS) (sRet (e2 gEq (eB gRepr (aCons (eVar 1) aNil)) (eVar 3)))))))))))))))) := rfl
theorem ne_sameV {ma mb : M Rv} {E E1 E2 : En} {r1 r2 : Rv} {z : Str} (h1 : ma E = .ok r1 E1) (h2 : mb E1 = .ok r2 E2) (v1 : val (fz r1) E2 = .ok (.str z) E2) (v2 : val (fz r2) E2 = .ok (.str z) E2) : tB1 (e2 gNe ma mb) E = .ok false E2 := by
  have q := e2_to h1 h2 v1 v2 (gNe_same z)
  unfold tB1
  rw [bnd_ap, q]
  rfl
theorem okRepr_fine {n d : Nat} {x : Dt} (h : Fine n d x) (hn : n ≤ 200000) (hd : d ≤ 50) : okRepr x = true := okRepr_of h.ok (Nat.le_trans h.dp (by omega)) (Nat.le_trans h.b (by omega))
theorem okRepr_tld {w : Str} {n d : Nat} {x : Dt} (hw : okD (.str w) = true) (hl : w.length ≤ 20) (h : Fine n d x) (hn : n ≤ 200000) (hd : d ≤ 50) : okRepr (tld w x) = true := by
  have h1 := h.dp
  have h2 := h.b
  refine okRepr_of ?_ ?_ ?_
  · show (okD (.str w) && (okD x && true)) = true
    rw [hw, h.ok]
    rfl
  · simp only [tld, PyData.depth, PyData.depthAll]; omega
  · simp only [tld, bd, bds]; omega
theorem tA1_ok {D P C L T : Sl} {x : Dt} (hxs : ∀ z, x = .str z → z.length ≤ 100000) : tA1 [D, .d x, P, C, .d (.bool (isI x)), .d (.bool (isNm x)), L, T] = .ok false [D, .d x, P, C, .d (.bool (isI x)), .d (.bool (isNm x)), L, T] := by
  have q1 : eCall f_is_int [false] (aCons (eVar 1) aNil) [D, .d x, P, C, .d (.bool (isI x)), .d (.bool (isNm x)), L, T] = .ok (.d (.bool (isI x))) [D, .d x, P, C, .d (.bool (isI x)), .d (.bool (isNm x)), L, T] := by
    exact call_d (rs := [.v 1]) (l := [(none, x)]) (E1 := [D, .d x, P, C, .d (.bool (isI x)), .d (.bool (isNm x)), L, T]) (E2 := [D, .d x, P, C, .d (.bool (isI x)), .d (.bool (isNm x)), L, T]) rfl rfl List.nodup_nil rfl (is_int_ok x) rfl
  have q2 : eCall f_is_name [false] (aCons (eVar 1) aNil) [D, .d x, P, C, .d (.bool (isI x)), .d (.bool (isNm x)), L, T] = .ok (.d (.bool (isNm x))) [D, .d x, P, C, .d (.bool (isI x)), .d (.bool (isNm x)), L, T] := by
    exact call_d (rs := [.v 1]) (l := [(none, x)]) (E1 := [D, .d x, P, C, .d (.bool (isI x)), .d (.bool (isNm x)), L, T]) (E2 := [D, .d x, P, C, .d (.bool (isI x)), .d (.bool (isNm x)), L, T]) rfl rfl List.nodup_nil rfl (is_name_ok hxs) rfl
  have r1 := rep_go q1 rfl (okRepr_bool _)
  have r2 := rep_go q2 rfl (okRepr_bool _)
  have r3 := rep_go (ma := eVar 4) (E := [D, .d x, P, C, .d (.bool (isI x)), .d (.bool (isNm x)), L, T]) (r := .v 4) (x := .bool (isI x)) rfl rfl (okRepr_bool _)
  have r4 := rep_go (ma := eVar 5) (E := [D, .d x, P, C, .d (.bool (isI x)), .d (.bool (isNm x)), L, T]) (r := .v 5) (x := .bool (isNm x)) rfl rfl (okRepr_bool _)
  unfold tA1
  rw [or_f (ne_same r1 r3)]
  exact ne_same r2 r4
theorem tA2_ok {D C W N L T : Sl} {x : Dt} (hx : Fine 53000 16 x) : tA2 [D, .d x, .d (pf x), C, W, N, L, T] = .ok false [D, .d x, .d (pf x), C, W, N, L, T] := by
  have hp := hx.pf
  have t1 := hx.t
  have e1 : f_plain_form [.d x] = .ok (.d (pf x)) [.un] := plain_form_ok (by omega)
  have e2 : f_plain_form [.d (pf x)] = .ok (.d (pf x)) [.un] := by
    have := plain_form_ok (x := pf x) (by rw [pf_tot]; omega)
    rw [pf_pf] at this
    exact this
  have q1 : eCall f_plain_form [false] (aCons (eVar 1) aNil) [D, .d x, .d (pf x), C, W, N, L, T] = .ok (.d (pf x)) [D, .d x, .d (pf x), C, W, N, L, T] := by
    exact call_d (rs := [.v 1]) (l := [(none, x)]) (E1 := [D, .d x, .d (pf x), C, W, N, L, T]) (E2 := [D, .d x, .d (pf x), C, W, N, L, T]) rfl rfl List.nodup_nil rfl e1 rfl
  have q2 : eCall f_plain_form [false] (aCons (eVar 2) aNil) [D, .d x, .d (pf x), C, W, N, L, T] = .ok (.d (pf x)) [D, .d x, .d (pf x), C, W, N, L, T] := by
    exact call_d (rs := [.v 2]) (l := [(none, pf x)]) (E1 := [D, .d x, .d (pf x), C, W, N, L, T]) (E2 := [D, .d x, .d (pf x), C, W, N, L, T]) rfl rfl List.nodup_nil rfl e2 rfl
  have hr := okRepr_fine hp (by omega) (by omega)
  have r1 := rep_go q1 rfl hr
  have r2 := rep_go q2 rfl hr
  have r3 := rep_go (ma := eVar 2) (E := [D, .d x, .d (pf x), C, W, N, L, T]) (r := .v 2) (x := pf x) rfl rfl hr
  unfold tA2
  rw [or_f (ne_same r1 r3)]
  exact ne_same r2 r3
theorem bAt {i : Nat} {b : Bool} {E : En} (h : E[i]? = some (.d (.bool b))) : tB1 (eVar i) E = .ok b E := by
  have e1 : eVar i E = .ok (.v i) E := eVar_d h
  unfold tB1
  rw [bnd_ap, e1, go_ok]
  unfold isB
  rw [bnd_ap, fz_v, val_v, h]
  rfl
theorem stepA3 {xs : List Dt} {x : Dt} {P C N T : Sl} {l : Int} (h : Deck xs) : ∃ (ys : List Dt) (l' : Int), sIf tA3 sA3 sNil [.r false xs, .d x, P, C, .d (.bool (isI x)), N, .d (.int l), T] = .ok .nx [.r false ys, .d x, P, C, .d (.bool (isI x)), N, .d (.int l'), T] ∧ Deck ys := by
  unfold tA3
  cases hi : isI x with
  | false =>
    refine ⟨xs, l, ?_, h⟩
    rw [if_f (and_f (bAt rfl))]
    rfl
  | true =>
    obtain ⟨i, rfl⟩ := isI_int hi
    obtain ⟨k, y1, p1, hk, h1⟩ := pick_ok h (m := 3) (by omega)
    have q := pk_ok (E := [.d (.int i), P, C, .d (.bool true), N, .d (.int l), T]) p1
    have c : tB1 (e2 gGt (pk 3) (eC (.int 0))) [.r false xs, .d (.int i), P, C, .d (.bool true), N, .d (.int l), T] = .ok (decide ((0 : Int) < (k : Int))) [.r false y1, .d (.int i), P, C, .d (.bool true), N, .d (.int l), T] := by
      have q2 := e2_to (g := gGt) (mb := eC (.int 0)) (r2 := .d (.int 0)) (y := .int 0) (z := .d (.bool (decide ((0 : Int) < (k : Int))))) q rfl rfl rfl rfl
      unfold tB1
      rw [bnd_ap, q2]
      rfl
    by_cases hk0 : (0 : Int) < (k : Int)
    · obtain ⟨j, y2, p2, _, h2⟩ := pick_ok h1 (m := 3) (by omega)
      refine ⟨y2, i + (j : Int) - 1, ?_, h2⟩
      rw [decide_eq_true hk0] at c
      rw [if_t ((and_t (bAt rfl)).trans c)]
      have q3 := e2_to (g := gAdd) (ma := eVar 1) (E := [.r false y1, .d (.int i), P, C, .d (.bool true), N, .d (.int l), T]) (r1 := .v 1) (x := .int i) (z := .d (.int (i + (j : Int)))) rfl (pk_ok (E := [.d (.int i), P, C, .d (.bool true), N, .d (.int l), T]) p2) rfl rfl rfl
      have q4 := e2_to (g := Vs.gSub) (mb := eC (.int 1)) (r2 := .d (.int 1)) (y := .int 1) (z := .d (.int (i + (j : Int) - 1))) q3 rfl rfl rfl rfl
      exact set_d q4 rfl (.inr (.inl ⟨_, rfl⟩))
    · refine ⟨y1, l, ?_, h1⟩
      rw [decide_eq_false hk0] at c
      rw [if_f ((and_t (bAt rfl)).trans c)]
      rfl
def w0 (x : Dt) (l : Int) : Dt := if isI x then (match x with | .int i => if i < l then tld "number" x else tld "told" x | _ => tld "number" (pf x)) else tld "number" (pf x)
theorem tup_ok {D X P C W N L T : Sl} {w : Str} : ∀ {i : Nat} {y : Dt}, [D, X, P, C, W, N, L, T][i]? = some (.d y) → tup w i [D, X, P, C, W, N, L, T] = .ok (.d (tld w y)) [D, X, P, C, W, N, L, T] := by
  intro i y h
  have e1 : eVar i [D, X, P, C, W, N, L, T] = .ok (.v i) [D, X, P, C, W, N, L, T] := eVar_d h
  have e2 : keep (.v i) [D, X, P, C, W, N, L, T] = .ok y [D, X, P, C, W, N, L, T] := by
    rw [keep_v, h]
    show Rs.ok y ([D, X, P, C, W, N, L, T].set i (.d y)) = _
    rw [set_self h]
  have a := aCons_go (ma := eC (.str w)) (r := .d (.str w)) rfl (aCons_go (mr := aNil) e1 rfl)
  unfold tup eTup
  rw [bnd_ap, a, go_ok, bnd_ap]
  have k : keeps [fz (Rv.d (.str w)), fz (Rv.v i)] [D, X, P, C, W, N, L, T] = .ok [.str w, y] [D, X, P, C, W, N, L, T] := by
    simp only [keeps, bnd_ap, fz_d, fz_v, keep_d, go_ok, e2]
    rfl
  rw [k, go_ok, okLen_2]
  rfl
theorem stepA4 {D P C N : Sl} {x : Dt} {l : Int} : sIf tA4 (sSet 7 (tup "told" 1)) sNil [D, .d x, P, C, .d (.bool (isI x)), N, .d (.int l), .d (tld "number" (pf x))] = .ok .nx [D, .d x, P, C, .d (.bool (isI x)), N, .d (.int l), .d (w0 x l)] := by
  unfold w0 tA4
  cases hi : isI x with
  | false =>
    rw [if_neg Bool.false_ne_true, if_f (and_f (bAt rfl))]
    rfl
  | true =>
    obtain ⟨i, rfl⟩ := isI_int hi
    rw [if_pos rfl]
    have c : tB1 (e2 gGe (eVar 1) (eVar 6)) [D, .d (.int i), P, C, .d (.bool true), N, .d (.int l), .d (tld "number" (pf (.int i)))] = .ok (decide (l ≤ i)) [D, .d (.int i), P, C, .d (.bool true), N, .d (.int l), .d (tld "number" (pf (.int i)))] := by
      have q2 := e2_to (g := gGe) (ma := eVar 1) (mb := eVar 6) (r1 := .v 1) (r2 := .v 6) (E := [D, .d (.int i), P, C, .d (.bool true), N, .d (.int l), .d (tld "number" (pf (.int i)))]) (x := .int i) (y := .int l) (z := .d (.bool (decide (l ≤ i)))) rfl rfl rfl rfl rfl
      unfold tB1
      rw [bnd_ap, q2]
      rfl
    by_cases hl : l ≤ i
    · rw [decide_eq_true hl] at c
      rw [if_t ((and_t (bAt rfl)).trans c)]
      show _ = Rs.ok Fl.nx [D, .d (.int i), P, C, .d (.bool true), N, .d (.int l), .d (if i < l then tld "number" (.int i) else tld "told" (.int i))]
      rw [if_neg (by omega)]
      exact set_d (tup_ok rfl) rfl (.inr (.inl ⟨_, rfl⟩))
    · rw [decide_eq_false hl] at c
      rw [if_f ((and_t (bAt rfl)).trans c)]
      show _ = Rs.ok Fl.nx [D, .d (.int i), P, C, .d (.bool true), N, .d (.int l), .d (if i < l then tld "number" (.int i) else tld "told" (.int i))]
      rw [if_pos (by omega)]
      rfl
def w1 (x : Dt) : Dt := if isNm x then tld "told" x else tld "name" (pf x)
theorem stepB {D P C W L : Sl} {x : Dt} : sIf (tB1 (eVar 5)) (sSet 7 (tup "told" 1)) sNil [D, .d x, P, C, W, .d (.bool (isNm x)), L, .d (tld "name" (pf x))] = .ok .nx [D, .d x, P, C, W, .d (.bool (isNm x)), L, .d (w1 x)] := by
  unfold w1
  cases hi : isNm x with
  | false =>
    rw [if_neg Bool.false_ne_true, if_f (bAt rfl)]
    rfl
  | true =>
    rw [if_pos rfl, if_t (bAt rfl)]
    exact set_d (tup_ok rfl) rfl (.inr (.inl ⟨_, rfl⟩))

theorem o_told : okD (.str "told") = true := by decide +kernel
theorem o_number : okD (.str "number") = true := by decide +kernel
theorem o_name : okD (.str "name") = true := by decide +kernel
theorem l_told : (("told" : String) : Str).length ≤ 20 := by decide +kernel
theorem l_number : (("number" : String) : Str).length ≤ 20 := by decide +kernel
theorem l_name : (("name" : String) : Str).length ≤ 20 := by decide +kernel
theorem w0_ok {x : Dt} {l : Int} (hx : Fine 53000 16 x) : okRepr (w0 x l) = true := by
  have hp := hx.pf
  unfold w0
  cases hi : isI x with
  | false =>
    rw [if_neg Bool.false_ne_true]
    exact okRepr_tld o_number l_number hp (by omega) (by omega)
  | true =>
    obtain ⟨i, rfl⟩ := isI_int hi
    rw [if_pos rfl]
    show okRepr (if i < l then tld "number" (.int i) else tld "told" (.int i)) = true
    split
    · exact okRepr_tld o_number l_number hx (by omega) (by omega)
    · exact okRepr_tld o_told l_told hx (by omega) (by omega)
theorem w1_ok {x : Dt} (hx : Fine 53000 16 x) : okRepr (w1 x) = true := by
  have hp := hx.pf
  unfold w1
  split
  · exact okRepr_tld o_told l_told hx (by omega) (by omega)
  · exact okRepr_tld o_name l_name hp (by omega) (by omega)
theorem neA_ok {a : M Rv} {D X P C W N L : Sl} {t : Dt} (h : a [D, X, P, C, W, N, L, .d t] = .ok (.d (.str t.shown)) [D, X, P, C, W, N, L, .d t]) (hr : okRepr t = true) : sIf (neA a) retF sNil [D, X, P, C, W, N, L, .d t] = .ok .nx [D, X, P, C, W, N, L, .d t] := by
  have r := rep_go (ma := eVar 7) (E := [D, X, P, C, W, N, L, .d t]) (r := .v 7) (x := t) rfl rfl hr
  unfold neA
  rw [if_f (ne_same h r)]
  rfl
theorem ask_call {k : Int} {x y : Dt} {t : Dt} {a b : M Rv} {E : En} {r1 r2 : Rv} (p : f__law_asked [.d (.int k), .d x, .d y] = .ok (.d (.str t.shown)) [.un, .un, .un]) (ha : a E = .ok r1 E) (hb : b E = .ok r2 E) (hp : prep [false, false, false] [.d (.int k), fz r1, fz r2] E = .ok [(none, .int k), (none, x), (none, y)] E) : askM k a b E = .ok (.d (.str t.shown)) E := by
  have c := aCons_go (ma := eC (.int k)) (r := .d (.int k)) (E := E) rfl (aCons_go ha (aCons_go (mr := aNil) hb rfl))
  unfold askM
  exact call_d (l := [(none, PyData.int k), (none, x), (none, y)]) c hp List.nodup_nil rfl p rfl
theorem badS_ok {D C W N L T : Sl} {x : Dt} (hx : Fine 53000 16 x) (hb : bad x = true) (hT : nr T) : ∃ T' : Sl, badS [D, .d x, .d (pf x), C, W, N, L, T] = .ok .nx [D, .d x, .d (pf x), C, W, N, L, T'] := by
  have hp := hx.pf
  have hz := hx.t
  have hr : okRepr (tld "number" (pf x)) = true := okRepr_tld o_number l_number hp (by omega) (by omega)
  have a1 : sSet 7 (eB gRepr (aCons (tup "number" 2) aNil)) [D, .d x, .d (pf x), C, W, N, L, T] = .ok .nx [D, .d x, .d (pf x), C, W, N, L, .d (.str (tld "number" (pf x)).shown)] :=
    set_d (rep_go (tup_ok (i := 2) (y := pf x) rfl) rfl hr) rfl hT
  have c1 := ask_call (E := [D, .d x, .d (pf x), C, W, N, L, .d (.str (tld "number" (pf x)).shown)]) (a := eVar 1) (b := eC (.int 2)) (r1 := .v 1) (r2 := .d (.int 2)) (ask2b (x := x) (k := 2) (by omega) hb hr) rfl rfl rfl
  have c2 := ask_call (E := [D, .d x, .d (pf x), C, W, N, L, .d (.str (tld "number" (pf x)).shown)]) (a := eVar 1) (b := eC (.int 9)) (r1 := .v 1) (r2 := .d (.int 9)) (ask3b (x := x) (k := 9) (by omega) (by omega) hb hr) rfl rfl rfl
  have c3 := ask_call (E := [D, .d x, .d (pf x), C, W, N, L, .d (.str (tld "number" (pf x)).shown)]) (a := eVar 1) (b := e1 gNeg (eC (.int 1))) (r1 := .v 1) (r2 := .d (.int (-1))) (ask2b (x := x) (k := -1) (by omega) hb hr) rfl rfl rfl
  refine ⟨.d (.str (tld "number" (pf x)).shown), ?_⟩
  unfold badS
  rw [seq_nx a1]
  rw [if_f ((or_f (ne_sameV (mb := eVar 7) (r2 := .v 7) c1 rfl rfl rfl)).trans ((or_f (ne_sameV (mb := eVar 7) (r2 := .v 7) c2 rfl rfl rfl)).trans (ne_sameV (mb := eVar 7) (r2 := .v 7) c3 rfl rfl rfl)))]
  rfl
theorem goodS_ok {D P C W N L T : Sl} {i : Int} (h0 : 0 ≤ i) : goodS [D, .d (.int i), P, C, W, N, L, T] = .ok .nx [D, .d (.int i), P, C, W, N, L, T] := by
  have p1 : e2 gPow (eC (.int 10)) (eC (.int 30)) [D, .d (.int i), P, C, W, N, L, T] = .ok (.d (.int (10 ^ 30))) [D, .d (.int i), P, C, W, N, L, T] := by
    refine e2_go (r1 := .d (.int 10)) (r2 := .d (.int 30)) (x := .int 10) (y := .int 30) rfl rfl rfl rfl ?_
    simp only [gPow]
    rw [if_pos (by decide)]
    rfl
  have c : tB1 (e2 gLt (eVar 1) (e2 gPow (eC (.int 10)) (eC (.int 30)))) [D, .d (.int i), P, C, W, N, L, T] = .ok (decide (i < 10 ^ 30)) [D, .d (.int i), P, C, W, N, L, T] := by
    have q := e2_to (g := gLt) (ma := eVar 1) (E := [D, .d (.int i), P, C, W, N, L, T]) (r1 := .v 1) (x := .int i) (z := .d (.bool (decide (i < 10 ^ 30)))) rfl p1 rfl rfl rfl
    unfold tB1
    rw [bnd_ap, q]
    rfl
  unfold goodS
  by_cases hi : i < 10 ^ 30
  · rw [decide_eq_true hi] at c
    have hm : mulOk i (i - 1) = true := by
      refine mulOk_log (Nat.lt_trans (log_lt (k := 100) h0 (Int.lt_trans hi (by decide)) (by omega)) (by omega)) ?_
      by_cases h1 : 1 ≤ i
      · exact Nat.lt_trans (log_lt (k := 100) (by omega) (Int.lt_trans (show i - 1 < i by omega) (Int.lt_trans hi (by decide))) (by omega)) (by omega)
      · have : i = 0 := by omega
        subst this
        decide
    have q1 := e2_go (g := Vs.gSub) (ma := eVar 1) (mb := eC (.int 1)) (E := [D, .d (.int i), P, C, W, N, L, T]) (r1 := .v 1) (r2 := .d (.int 1)) (x := .int i) (y := .int 1) (z := .d (.int (i - 1))) rfl rfl rfl rfl rfl
    have q2 := e2_go (g := gMul) (ma := eVar 1) (r1 := .v 1) (x := .int i) rfl q1 rfl rfl (gMul_ok hm)
    have q3 : halfM [D, .d (.int i), P, C, W, N, L, T] = .ok (.d (.int (i * (i - 1) / 2))) [D, .d (.int i), P, C, W, N, L, T] := e2_go (g := gDiv) (mb := eC (.int 2)) (r2 := .d (.int 2)) (y := .int 2) q2 rfl rfl rfl (gDiv_ok (by omega) (by decide))
    have hv0 : 0 ≤ i * (i - 1) / 2 := by
      have : 0 ≤ i * (i - 1) := by
        by_cases h1 : 1 ≤ i
        · exact Int.mul_nonneg h0 (by omega)
        · have : i = 0 := by omega
          subst this
          decide
      omega
    have hv1 : i * (i - 1) / 2 < 10 ^ 60 := by
      have h1 : i * (i - 1) ≤ i * i := Int.mul_le_mul_of_nonneg_left (by omega) h0
      have h2 : i * i < 10 ^ 30 * 10 ^ 30 := by
        have a : i * i ≤ i * 10 ^ 30 := Int.mul_le_mul_of_nonneg_left (by omega) h0
        have b : i * 10 ^ 30 < 10 ^ 30 * 10 ^ 30 := Int.mul_lt_mul_of_pos_right hi (by decide)
        omega
      omega
    have hf : Fine 62 1 (.int (i * (i - 1) / 2)) := ⟨decide_eq_true ⟨by omega, hv1⟩, by simp [bd], by simp [tot], by simp [PyData.depth]⟩
    have hr : okRepr (tld "told" (.int (i * (i - 1) / 2))) = true := okRepr_tld o_told l_told hf (by omega) (by omega)
    have q4 : eTup (aCons (eC (.str "told")) (aCons halfM aNil)) [D, .d (.int i), P, C, W, N, L, T] = .ok (.d (tld "told" (.int (i * (i - 1) / 2)))) [D, .d (.int i), P, C, W, N, L, T] := by
      have a := aCons_go (ma := eC (.str "told")) (r := .d (.str "told")) rfl (aCons_go (mr := aNil) q3 rfl)
      unfold eTup
      rw [bnd_ap, a]
      simp [val_v, keep_v, sRet, sSeq, sIf, sSet, putV, setS, sNil, sBrk, sCnt, sExp, sUnp, unp, setAll, sAdd, sApp, sExt, sPut, mutL, sIns, sRetN, sRaise, rtV, endF, cutR, cut1, eAnd, eOr, eNot, eIf, e1, e2, eB, eC, eVar, eTup, eLst, aNil, aCons, vals, keeps, isB, tB1, tAndM, tOrM, tNotM, eSl, part, eCall, callM, prep, slotsOf, slotOf, refsOf, goBack, backs, unref, eDict, eM, gAdd, Vs.gSub, gDiv, gMod, gPow, gNeg, gCmp, gLt, gLe, gGt, gGe, gIsN, gNotN, isNone, gIsi, gIsi2, gLen, gList, gTuple, gMin, gMax, gInt, gAbs, iSeq, iEn, iCh, sFor, tgN, tgU, tld]
    have r1 := rep_go q4 rfl hr
    have c1 := ask_call (E := [D, .d (.int i), P, C, W, N, L, T]) (a := eVar 1) (b := eC (.int 2)) (r1 := .v 1) (r2 := .d (.int 2)) (ask2 h0 hi hr) rfl rfl rfl
    rw [if_f ((and_t c).trans (ne_same c1 r1))]
    rfl
  · rw [decide_eq_false hi] at c
    rw [if_f (and_f c)]
    rfl
theorem tail_ok {D C N L T : Sl} {x : Dt} (hx : Fine 53000 16 x) (hT : nr T) : ∃ T' : Sl, sIf tA5 badS goodS [D, .d x, .d (pf x), C, .d (.bool (isI x)), N, L, T] = .ok .nx [D, .d x, .d (pf x), C, .d (.bool (isI x)), N, L, T'] := by
  unfold tA5
  cases hi : isI x with
  | false =>
    have hb : bad x = true := by
      cases x with
      | int i => cases hi
      | _ => simp [bad, hi]
    obtain ⟨T', h⟩ := badS_ok (D := D) (C := C) (W := .d (.bool false)) (N := N) (L := L) hx hb hT
    refine ⟨T', ?_⟩
    rw [if_t (or_t (a := tNotM (tB1 (eVar 4))) rfl)]
    exact h
  | true =>
    obtain ⟨i, rfl⟩ := isI_int hi
    have c : tB1 (e2 gLt (eVar 1) (eC (.int 0))) [D, .d (.int i), .d (pf (.int i)), C, .d (.bool true), N, L, T] = .ok (decide (i < 0)) [D, .d (.int i), .d (pf (.int i)), C, .d (.bool true), N, L, T] := by
      have q := e2_go (g := gLt) (ma := eVar 1) (mb := eC (.int 0)) (E := [D, .d (.int i), .d (pf (.int i)), C, .d (.bool true), N, L, T]) (r1 := .v 1) (r2 := .d (.int 0)) (x := .int i) (y := .int 0) (z := .d (.bool (decide (i < 0)))) rfl rfl rfl rfl rfl
      unfold tB1
      rw [bnd_ap, q]
      rfl
    by_cases h0 : i < 0
    · obtain ⟨T', h⟩ := badS_ok (D := D) (C := C) (W := .d (.bool true)) (N := N) (L := L) hx (show bad (.int i) = true from decide_eq_true h0) hT
      refine ⟨T', ?_⟩
      rw [decide_eq_true h0] at c
      rw [if_t ((or_f (a := tNotM (tB1 (eVar 4))) rfl).trans c)]
      exact h
    · refine ⟨T, ?_⟩
      rw [decide_eq_false h0] at c
      rw [if_f ((or_f (a := tNotM (tB1 (eVar 4))) rfl).trans c)]
      exact goodS_ok (by omega)
theorem forms_ok {xs : List Dt} {x : Dt} (h : Deck xs) (hx : Fine 53000 16 x) : ∃ ys : List Dt, f__law_forms_right [.r false xs, .d x, .d (pf x)] = .ok (.d (.bool true)) [.r false ys, .un, .un] ∧ Deck ys := by
  have hz := hx.t
  have hp := hx.pf
  have hxs : ∀ z, x = .str z → z.length ≤ 100000 := by
    rintro z rfl
    have := hx.b
    simp only [bd] at this
    omega
  have hr := okRepr_fine hx (by omega) (by omega)
  obtain ⟨l, y1, p1, _, h1⟩ := great_ok h
  obtain ⟨y2, l', e3, h2⟩ := stepA3 (x := x) (P := .d (pf x)) (C := .d (.str x.shown)) (N := .d (.bool (isNm x))) (T := .un) (l := l) h1
  have a1 : sSet 3 (eB gRepr (aCons (eVar 1) aNil)) [.r false xs, .d x, .d (pf x), .un, .un, .un, .un, .un] = .ok .nx [.r false xs, .d x, .d (pf x), .d (.str x.shown), .un, .un, .un, .un] := set_d (rep_go (ma := eVar 1) (E := [.r false xs, .d x, .d (pf x), .un, .un, .un, .un, .un]) (r := .v 1) rfl rfl hr) rfl (.inl rfl)
  have q2 : eCall f__law_is_whole [false] (aCons (eVar 1) aNil) [.r false xs, .d x, .d (pf x), .d (.str x.shown), .un, .un, .un, .un] = .ok (.d (.bool (isI x))) [.r false xs, .d x, .d (pf x), .d (.str x.shown), .un, .un, .un, .un] := by
    exact call_d (rs := [.v 1]) (l := [(none, x)]) (E1 := [.r false xs, .d x, .d (pf x), .d (.str x.shown), .un, .un, .un, .un]) (E2 := [.r false xs, .d x, .d (pf x), .d (.str x.shown), .un, .un, .un, .un]) rfl rfl List.nodup_nil rfl (whole_ok x) rfl
  have a2 : sSet 4 (eCall f__law_is_whole [false] (aCons (eVar 1) aNil)) [.r false xs, .d x, .d (pf x), .d (.str x.shown), .un, .un, .un, .un] = .ok .nx [.r false xs, .d x, .d (pf x), .d (.str x.shown), .d (.bool (isI x)), .un, .un, .un] := set_d q2 rfl (.inl rfl)
  have q3 : eCall f__law_named [false] (aCons (eVar 1) aNil) [.r false xs, .d x, .d (pf x), .d (.str x.shown), .d (.bool (isI x)), .un, .un, .un] = .ok (.d (.bool (isNm x))) [.r false xs, .d x, .d (pf x), .d (.str x.shown), .d (.bool (isI x)), .un, .un, .un] := by
    exact call_d (rs := [.v 1]) (l := [(none, x)]) (E1 := [.r false xs, .d x, .d (pf x), .d (.str x.shown), .d (.bool (isI x)), .un, .un, .un]) (E2 := [.r false xs, .d x, .d (pf x), .d (.str x.shown), .d (.bool (isI x)), .un, .un, .un]) rfl rfl List.nodup_nil rfl (named_ok hxs) rfl
  have a3 : sSet 5 (eCall f__law_named [false] (aCons (eVar 1) aNil)) [.r false xs, .d x, .d (pf x), .d (.str x.shown), .d (.bool (isI x)), .un, .un, .un] = .ok .nx [.r false xs, .d x, .d (pf x), .d (.str x.shown), .d (.bool (isI x)), .d (.bool (isNm x)), .un, .un] := set_d q3 rfl (.inl rfl)
  have a4 : sIf tA1 retF sNil [.r false xs, .d x, .d (pf x), .d (.str x.shown), .d (.bool (isI x)), .d (.bool (isNm x)), .un, .un] = .ok .nx [.r false xs, .d x, .d (pf x), .d (.str x.shown), .d (.bool (isI x)), .d (.bool (isNm x)), .un, .un] := (if_f (tA1_ok hxs)).trans rfl
  have a5 : sIf tA2 retF sNil [.r false xs, .d x, .d (pf x), .d (.str x.shown), .d (.bool (isI x)), .d (.bool (isNm x)), .un, .un] = .ok .nx [.r false xs, .d x, .d (pf x), .d (.str x.shown), .d (.bool (isI x)), .d (.bool (isNm x)), .un, .un] := (if_f (tA2_ok hx)).trans rfl
  have a6 : sSet 6 (eCall f__law_great [true] (aCons (eVar 0) aNil)) [.r false xs, .d x, .d (pf x), .d (.str x.shown), .d (.bool (isI x)), .d (.bool (isNm x)), .un, .un] = .ok .nx [.r false y1, .d x, .d (pf x), .d (.str x.shown), .d (.bool (isI x)), .d (.bool (isNm x)), .d (.int l), .un] := set_d (call0 p1) rfl (.inl rfl)
  have a7 : sSet 7 (tup "number" 2) [.r false y2, .d x, .d (pf x), .d (.str x.shown), .d (.bool (isI x)), .d (.bool (isNm x)), .d (.int l'), .un] = .ok .nx [.r false y2, .d x, .d (pf x), .d (.str x.shown), .d (.bool (isI x)), .d (.bool (isNm x)), .d (.int l'), .d (tld "number" (pf x))] := set_d (tup_ok rfl) rfl (.inl rfl)
  have k0 : f__law_asked [.d (.int 0), .d x, .d (.int l')] = .ok (.d (.str (w0 x l').shown)) [.un, .un, .un] := by
    refine ask0 (by omega) (w0 x l') ?_ (w0_ok hx)
    unfold w0
    cases hi : isI x with
    | false => rfl
    | true =>
      obtain ⟨i, rfl⟩ := isI_int hi
      rfl
  have c0 := ask_call (E := [.r false y2, .d x, .d (pf x), .d (.str x.shown), .d (.bool (isI x)), .d (.bool (isNm x)), .d (.int l'), .d (w0 x l')]) (a := eVar 1) (b := eVar 6) (r1 := .v 1) (r2 := .v 6) k0 rfl rfl rfl
  have a8 := neA_ok c0 (w0_ok hx)
  have a9 : sSet 7 (tup "name" 2) [.r false y2, .d x, .d (pf x), .d (.str x.shown), .d (.bool (isI x)), .d (.bool (isNm x)), .d (.int l'), .d (w0 x l')] = .ok .nx [.r false y2, .d x, .d (pf x), .d (.str x.shown), .d (.bool (isI x)), .d (.bool (isNm x)), .d (.int l'), .d (tld "name" (pf x))] := set_d (tup_ok rfl) rfl (.inr (.inl ⟨_, rfl⟩))
  have k1 : f__law_asked [.d (.int 1), .d x, .d (.int 0)] = .ok (.d (.str (w1 x).shown)) [.un, .un, .un] := ask1 (by omega) hxs (w1_ok hx)
  have c1 := ask_call (E := [.r false y2, .d x, .d (pf x), .d (.str x.shown), .d (.bool (isI x)), .d (.bool (isNm x)), .d (.int l'), .d (w1 x)]) (a := eVar 1) (b := eC (.int 0)) (r1 := .v 1) (r2 := .d (.int 0)) k1 rfl rfl rfl
  have a10 := neA_ok c1 (w1_ok hx)
  obtain ⟨T', a11⟩ := tail_ok (D := .r false y2) (C := .d (.str x.shown)) (N := .d (.bool (isNm x))) (L := .d (.int l')) (T := .d (w1 x)) hx (.inr (.inl ⟨_, rfl⟩))
  have r12 := rep_go (ma := eVar 1) (E := [.r false y2, .d x, .d (pf x), .d (.str x.shown), .d (.bool (isI x)), .d (.bool (isNm x)), .d (.int l'), T']) (r := .v 1) (x := x) rfl rfl hr
  have q12 := e2_go (g := gEq) (mb := eVar 3) (r2 := .v 3) (y := .str x.shown) r12 rfl rfl rfl (gEq_same _)
  refine ⟨y2, ?_, h2⟩
  refine mkFn_rt (E0 := [.r false xs, .d x, .d (pf x), .un, .un, .un, .un, .un]) (E := [.r false y2, .d x, .d (pf x), .d (.str x.shown), .d (.bool (isI x)), .d (.bool (isNm x)), .d (.int l'), T']) rfl rfl ?_
  rw [m_forms_eq, seq_nx a1, seq_nx a2, seq_nx a3, seq_nx a4, seq_nx a5, seq_nx a6, seq_nx e3, seq_nx a7, seq_nx stepA4, seq_nx a8, seq_nx a9, seq_nx stepB, seq_nx a10, seq_nx a11]
  exact ret_ok q12
end K04
/-! # K04ZH -/
set_option Elab.async false
set_option linter.all false
set_option maxRecDepth 100000
set_option maxHeartbeats 4000000
/-! k04, the plain law: errors are right; the law. -/
namespace K04
open PySem L2 Vs
def eqK (k : Nat) : Dt → Dt
  | .int j => .bool (decide (j = (k : Int)))
  | _ => .none
def marksK (k : Nat) : List Dt := (rngD 0 22).map (eqK k)
def hC (j : Nat) : M Rv := eIsE (isC (some j)) 3
def r3 (a b c : Nat) : M Rv := eLst (aCons (hC a) (aCons (hC b) (aCons (hC c) aNil)))
def sumC : M Rv := e2 gAdd (e2 gAdd (e2 gAdd (e2 gAdd (e2 gAdd (e2 gAdd (eVar 4) (eVar 5)) (eVar 6)) (eVar 7)) (eVar 8)) (eVar 9)) (eVar 10)
def lastC : M Rv := e2 gAdd (eVar 2) (eLst (aCons (hC 21) (aCons (eIsE (isC none) 3) aNil)))
def bodyC2 : M Fl := sSeq (sSet 4 (r3 0 1 2)) (sSeq (sSet 5 (r3 3 4 5)) (sSeq (sSet 6 (r3 6 7 8)) (sSeq (sSet 7 (r3 9 10 11)) (sSeq (sSet 8 (r3 12 13 14)) (sSeq (sSet 9 (r3 15 16 17)) (sSeq (sSet 10 (r3 18 19 20)) (sSeq (sSet 2 sumC) (sSet 2 lastC))))))))
def callC : M Fl := sExp (eCall f__law_raise [false, false] (aCons (eVar 0) (aCons (eVar 1) aNil)))
theorem m_classes_eq : m__law_classes = sSeq (sSet 2 (eLst aNil)) (sSeq (tryM callC [⟨isC none, some 3, bodyC2⟩]) (sRet (eVar 2))) := rfl
theorem isE_ok {k j : Nat} {x : Dt} {E : En} (h : E[3]? = some (.e k x)) (hk : k < 22) : hC j E = .ok (.d (.bool (k == j))) E := by
  unfold hC eIsE
  rw [h]
  show (match isC (some j) k with
    | some b => Rs.ok (Rv.d (.bool b)) E
    | none => .no) = _
  unfold isC
  rw [if_pos (show k < nC from hk)]
  rfl
theorem isE_all {k : Nat} {x : Dt} {E : En} (h : E[3]? = some (.e k x)) (hk : k < 22) : eIsE (isC none) 3 E = .ok (.d (.bool true)) E := by
  unfold eIsE
  rw [h]
  show (match isC none k with
    | some b => Rs.ok (Rv.d (.bool b)) E
    | none => .no) = _
  unfold isC
  rw [if_pos (show k < nC from hk)]
  rfl
def b3 (k a b c : Nat) : List Dt := [.bool (k == a), .bool (k == b), .bool (k == c)]
theorem lst_go {ma : M (List Rv)} {E : En} {rs : List Rv} {xs : List Dt} (h : ma E = .ok rs E) (hk : keeps rs E = .ok xs E) (hl : okLen xs = true) : eLst ma E = .ok (.o xs) E := by
  unfold eLst
  rw [bnd_ap, h, go_ok, bnd_ap, hk, go_ok, if_pos hl]
  rfl
theorem r3_ok {k a b c : Nat} {x : Dt} {E : En} (h : E[3]? = some (.e k x)) (hk : k < 22) : r3 a b c E = .ok (.o (b3 k a b c)) E :=
  lst_go (aCons_go (isE_ok h hk) (aCons_go (isE_ok h hk) (aCons_go (mr := aNil) (isE_ok h hk) rfl))) rfl okLen_3
theorem gAdd_list {xs ys : List Dt} (h : xs.length + ys.length ≤ 1000000) : gAdd (.list xs) (.list ys) = some (.o (xs ++ ys)) := if_pos h
theorem add_go {ma mb : M Rv} {E : En} {r1 r2 : Rv} {xs ys : List Dt} (h1 : ma E = .ok r1 E) (h2 : mb E = .ok r2 E) (v1 : val (fz r1) E = .ok (.list xs) E) (v2 : val (fz r2) E = .ok (.list ys) E) (hl : (xs ++ ys).length ≤ 1000) : e2 gAdd ma mb E = .ok (.o (xs ++ ys)) E :=
  e2_go h1 h2 v1 v2 (gAdd_list (by rw [List.length_append] at hl; omega))
def eC2 (k : Nat) (x : Dt) (m s4 s5 s6 s7 s8 s9 s10 : Sl) : En := [.d (.int (k : Int)), .d x, m, .e k x, s4, s5, s6, s7, s8, s9, s10]
def m21 (k : Nat) : List Dt := b3 k 0 1 2 ++ b3 k 3 4 5 ++ b3 k 6 7 8 ++ b3 k 9 10 11 ++ b3 k 12 13 14 ++ b3 k 15 16 17 ++ b3 k 18 19 20
theorem bodyC2_ok {k : Nat} {x : Dt} (hk : k < 22) : bodyC2 (eC2 k x (.l []) .un .un .un .un .un .un .un) = .ok .nx (eC2 k x (.l (m21 k ++ [.bool (k == 21), .bool true])) (.l (b3 k 0 1 2)) (.l (b3 k 3 4 5)) (.l (b3 k 6 7 8)) (.l (b3 k 9 10 11)) (.l (b3 k 12 13 14)) (.l (b3 k 15 16 17)) (.l (b3 k 18 19 20))) := by
  have e : ∀ {m s4 s5 s6 s7 s8 s9 s10 : Sl}, (eC2 k x m s4 s5 s6 s7 s8 s9 s10)[3]? = some (.e k x) := rfl
  have a4 : sSet 4 (r3 0 1 2) (eC2 k x (.l []) .un .un .un .un .un .un .un) = .ok .nx (eC2 k x (.l []) (.l (b3 k 0 1 2)) .un .un .un .un .un .un) := set_o (r3_ok e hk) rfl (.inl rfl)
  have a5 : sSet 5 (r3 3 4 5) (eC2 k x (.l []) (.l (b3 k 0 1 2)) .un .un .un .un .un .un) = .ok .nx (eC2 k x (.l []) (.l (b3 k 0 1 2)) (.l (b3 k 3 4 5)) .un .un .un .un .un) := set_o (r3_ok e hk) rfl (.inl rfl)
  have a6 : sSet 6 (r3 6 7 8) (eC2 k x (.l []) (.l (b3 k 0 1 2)) (.l (b3 k 3 4 5)) .un .un .un .un .un) = .ok .nx (eC2 k x (.l []) (.l (b3 k 0 1 2)) (.l (b3 k 3 4 5)) (.l (b3 k 6 7 8)) .un .un .un .un) := set_o (r3_ok e hk) rfl (.inl rfl)
  have a7 : sSet 7 (r3 9 10 11) (eC2 k x (.l []) (.l (b3 k 0 1 2)) (.l (b3 k 3 4 5)) (.l (b3 k 6 7 8)) .un .un .un .un) = .ok .nx (eC2 k x (.l []) (.l (b3 k 0 1 2)) (.l (b3 k 3 4 5)) (.l (b3 k 6 7 8)) (.l (b3 k 9 10 11)) .un .un .un) := set_o (r3_ok e hk) rfl (.inl rfl)
  have a8 : sSet 8 (r3 12 13 14) (eC2 k x (.l []) (.l (b3 k 0 1 2)) (.l (b3 k 3 4 5)) (.l (b3 k 6 7 8)) (.l (b3 k 9 10 11)) .un .un .un) = .ok .nx (eC2 k x (.l []) (.l (b3 k 0 1 2)) (.l (b3 k 3 4 5)) (.l (b3 k 6 7 8)) (.l (b3 k 9 10 11)) (.l (b3 k 12 13 14)) .un .un) := set_o (r3_ok e hk) rfl (.inl rfl)
  have a9 : sSet 9 (r3 15 16 17) (eC2 k x (.l []) (.l (b3 k 0 1 2)) (.l (b3 k 3 4 5)) (.l (b3 k 6 7 8)) (.l (b3 k 9 10 11)) (.l (b3 k 12 13 14)) .un .un) = .ok .nx (eC2 k x (.l []) (.l (b3 k 0 1 2)) (.l (b3 k 3 4 5)) (.l (b3 k 6 7 8)) (.l (b3 k 9 10 11)) (.l (b3 k 12 13 14)) (.l (b3 k 15 16 17)) .un) := set_o (r3_ok e hk) rfl (.inl rfl)
  have a10 : sSet 10 (r3 18 19 20) (eC2 k x (.l []) (.l (b3 k 0 1 2)) (.l (b3 k 3 4 5)) (.l (b3 k 6 7 8)) (.l (b3 k 9 10 11)) (.l (b3 k 12 13 14)) (.l (b3 k 15 16 17)) .un) = .ok .nx (eC2 k x (.l []) (.l (b3 k 0 1 2)) (.l (b3 k 3 4 5)) (.l (b3 k 6 7 8)) (.l (b3 k 9 10 11)) (.l (b3 k 12 13 14)) (.l (b3 k 15 16 17)) (.l (b3 k 18 19 20))) := set_o (r3_ok e hk) rfl (.inl rfl)
  have l3 : ∀ {a b c : Nat}, (b3 k a b c).length = 3 := rfl
  have q : sumC (eC2 k x (.l []) (.l (b3 k 0 1 2)) (.l (b3 k 3 4 5)) (.l (b3 k 6 7 8)) (.l (b3 k 9 10 11)) (.l (b3 k 12 13 14)) (.l (b3 k 15 16 17)) (.l (b3 k 18 19 20))) = .ok (.o (m21 k)) (eC2 k x (.l []) (.l (b3 k 0 1 2)) (.l (b3 k 3 4 5)) (.l (b3 k 6 7 8)) (.l (b3 k 9 10 11)) (.l (b3 k 12 13 14)) (.l (b3 k 15 16 17)) (.l (b3 k 18 19 20))) := by
    refine add_go (r2 := .v 10) (add_go (r2 := .v 9) (add_go (r2 := .v 8) (add_go (r2 := .v 7) (add_go (r2 := .v 6) (add_go (ma := eVar 4) (r1 := .v 4) (r2 := .v 5) rfl rfl rfl rfl ?_) rfl rfl rfl ?_) rfl rfl rfl ?_) rfl rfl rfl ?_) rfl rfl rfl ?_) rfl rfl rfl ?_ <;> simp only [List.length_append, l3] <;> omega
  have a2 : sSet 2 sumC (eC2 k x (.l []) (.l (b3 k 0 1 2)) (.l (b3 k 3 4 5)) (.l (b3 k 6 7 8)) (.l (b3 k 9 10 11)) (.l (b3 k 12 13 14)) (.l (b3 k 15 16 17)) (.l (b3 k 18 19 20))) = .ok .nx (eC2 k x (.l (m21 k)) (.l (b3 k 0 1 2)) (.l (b3 k 3 4 5)) (.l (b3 k 6 7 8)) (.l (b3 k 9 10 11)) (.l (b3 k 12 13 14)) (.l (b3 k 15 16 17)) (.l (b3 k 18 19 20))) := set_o q rfl (.inr (.inr ⟨_, rfl⟩))
  have q2 : lastC (eC2 k x (.l (m21 k)) (.l (b3 k 0 1 2)) (.l (b3 k 3 4 5)) (.l (b3 k 6 7 8)) (.l (b3 k 9 10 11)) (.l (b3 k 12 13 14)) (.l (b3 k 15 16 17)) (.l (b3 k 18 19 20))) = .ok (.o (m21 k ++ [.bool (k == 21), .bool true])) (eC2 k x (.l (m21 k)) (.l (b3 k 0 1 2)) (.l (b3 k 3 4 5)) (.l (b3 k 6 7 8)) (.l (b3 k 9 10 11)) (.l (b3 k 12 13 14)) (.l (b3 k 15 16 17)) (.l (b3 k 18 19 20))) := by
    have t := lst_go (E := eC2 k x (.l (m21 k)) (.l (b3 k 0 1 2)) (.l (b3 k 3 4 5)) (.l (b3 k 6 7 8)) (.l (b3 k 9 10 11)) (.l (b3 k 12 13 14)) (.l (b3 k 15 16 17)) (.l (b3 k 18 19 20))) (aCons_go (isE_ok (j := 21) e hk) (aCons_go (mr := aNil) (isE_all e hk) rfl)) rfl okLen_2
    refine add_go (ma := eVar 2) (r1 := .v 2) rfl t rfl rfl ?_
    simp only [List.length_append, m21, l3, List.length_cons, List.length_nil]
    omega
  unfold bodyC2
  rw [seq_nx a4, seq_nx a5, seq_nx a6, seq_nx a7, seq_nx a8, seq_nx a9, seq_nx a10, seq_nx a2]
  exact set_o q2 rfl (.inr (.inr ⟨_, rfl⟩))
theorem callC_ok (x : Dt) : ∀ k : Nat, k < 22 → callC [.d (.int (k : Int)), .d x, .l [], .un, .un, .un, .un, .un, .un, .un, .un] = .ex k x [.d (.int (k : Int)), .d x, .l [], .un, .un, .un, .un, .un, .un, .un, .un]
  | 0, _ => rfl
  | 1, _ => rfl
  | 2, _ => rfl
  | 3, _ => rfl
  | 4, _ => rfl
  | 5, _ => rfl
  | 6, _ => rfl
  | 7, _ => rfl
  | 8, _ => rfl
  | 9, _ => rfl
  | 10, _ => rfl
  | 11, _ => rfl
  | 12, _ => rfl
  | 13, _ => rfl
  | 14, _ => rfl
  | 15, _ => rfl
  | 16, _ => rfl
  | 17, _ => rfl
  | 18, _ => rfl
  | 19, _ => rfl
  | 20, _ => rfl
  | 21, _ => rfl
  | k + 22, h => by omega
theorem marks_eq : ∀ k : Nat, k < 22 → m21 k ++ [.bool (k == 21), .bool true] = marksK k ++ [.bool true]
  | 0, _ => rfl
  | 1, _ => rfl
  | 2, _ => rfl
  | 3, _ => rfl
  | 4, _ => rfl
  | 5, _ => rfl
  | 6, _ => rfl
  | 7, _ => rfl
  | 8, _ => rfl
  | 9, _ => rfl
  | 10, _ => rfl
  | 11, _ => rfl
  | 12, _ => rfl
  | 13, _ => rfl
  | 14, _ => rfl
  | 15, _ => rfl
  | 16, _ => rfl
  | 17, _ => rfl
  | 18, _ => rfl
  | 19, _ => rfl
  | 20, _ => rfl
  | 21, _ => rfl
  | k + 22, h => by omega
theorem classes_ok (x : Dt) (k : Nat) (hk : k < 22) : f__law_classes [.d (.int (k : Int)), .d x] = .ok (.o (marksK k ++ [.bool true])) [.un, .un] := by
  have a1 : sSet 2 (eLst aNil) [.d (.int (k : Int)), .d x, .un, .un, .un, .un, .un, .un, .un, .un, .un] = .ok .nx [.d (.int (k : Int)), .d x, .l [], .un, .un, .un, .un, .un, .un, .un, .un] := rfl
  have a2 : tryM callC [⟨isC none, some 3, bodyC2⟩] [.d (.int (k : Int)), .d x, .l [], .un, .un, .un, .un, .un, .un, .un, .un] = .ok .nx [.d (.int (k : Int)), .d x, .l (m21 k ++ [.bool (k == 21), .bool true]), .un, .l (b3 k 0 1 2), .l (b3 k 3 4 5), .l (b3 k 6 7 8), .l (b3 k 9 10 11), .l (b3 k 12 13 14), .l (b3 k 15 16 17), .l (b3 k 18 19 20)] := by
    refine (try_ex (callC_ok x k hk)).trans ?_
    have hi : isC none k = some true := if_pos (show k < nC from hk)
    show (match isC none k with
      | some true => suM (some 3) bodyC2 k x
      | some false => hdM [] k x
      | none => fail) _ = _
    rw [hi]
    show suM (some 3) bodyC2 k x _ = _
    have b := bodyC2_ok (x := x) hk
    show (match bodyC2 (eC2 k x (.l []) .un .un .un .un .un .un .un) with
      | .ok .nx E2 => (match setS 3 .un E2 with
        | .ok _ E3 => if noE E3 then (Rs.ok Fl.nx E3 : Rs Fl) else Rs.no
        | _ => Rs.no)
      | _ => Rs.no) = _
    rw [b]
    rfl
  have hm : ∃ E : En, m__law_classes [.d (.int (k : Int)), .d x, .un, .un, .un, .un, .un, .un, .un, .un, .un] = .ok (.rt (.o (marksK k ++ [.bool true]))) ([.d (.int (k : Int)), .d x] ++ E) := by
    rw [← marks_eq k hk, m_classes_eq, seq_nx a1, seq_nx a2]
    exact ⟨_, rfl⟩
  obtain ⟨E, hm⟩ := hm
  show (if [Sl.d (.int (k : Int)), .d x].length = 2 then endF [Sl.d (.int (k : Int)), .d x] (m__law_classes [.d (.int (k : Int)), .d x, .un, .un, .un, .un, .un, .un, .un, .un, .un]) else .no) = _
  rw [hm]
  rfl
def compK : M Rv := eLc [2] (tgN 2) (Vs.ret true) (e2 gEq (eVar 2) (eVar 1)) (iRng rng1 (aCons (eC (.int 22)) aNil))
theorem compK_ok {x : Dt} {k : Nat} {s3 : Sl} : compK [.d x, .d (.int (k : Int)), .un, s3] = .ok (.o (marksK k)) [.d x, .d (.int (k : Int)), .un, s3] := by
  have b1 : iRng rng1 (aCons (eC (.int 22)) aNil) [.d x, .d (.int (k : Int)), .un, s3] = .ok (rngD 0 22) [.d x, .d (.int (k : Int)), .un, s3] := iRng1_ok (n := 22) (rs := [.d (.int 22)]) rfl rfl (by omega)
  have h := eLc_pure (v := 2) (mt := Vs.ret true) (me := e2 gEq (eVar 2) (eVar 1)) (mi := iRng rng1 (aCons (eC (.int 22)) aNil)) (E := [.d x, .d (.int (k : Int)), .un, s3]) (E0 := [.d x, .d (.int (k : Int)), .un, s3]) (xs := rngD 0 22) (s := .un) (fun _ => true) (eqK k) b1 rfl (.inl rfl) (by rw [rngD_len]; omega) (fun _ _ => rfl) (fun y hm _ => by
    obtain ⟨j, hj⟩ := List.mem_iff_getElem?.mp hm
    obtain ⟨_, h2⟩ := rngD_at hj
    subst h2
    refine ⟨.d (eqK k (.int (0 + (j : Int)))), ?_, rfl⟩
    exact e2_go (r1 := .v 2) (r2 := .v 1) (x := .int (0 + (j : Int))) (y := .int (k : Int)) rfl rfl rfl rfl rfl)
  rw [List.filter_eq_self.mpr (fun _ _ => rfl)] at h
  exact h
def bodyX : M Fl := sSeq (sIf (tB1 (e2 gNe (eB gRepr (aCons (eCall f__law_classes [false, false] (aCons (eVar 1) (aCons (eVar 0) aNil))) aNil)) (eB gRepr (aCons (e2 gAdd compK (eLst (aCons (eC (.bool true)) aNil))) aNil)))) retF sNil) (sSeq (sSet 3 (eC (.str "at"))) (sSeq (sIf (isK 1 20) (sSet 3 (eC (.str "line"))) sNil) (sSeq (sIf (isK 1 21) (sSet 3 (eC (.str "limit"))) sNil) (sIf (tB1 (e2 gNe (eCall f__law_kept [false, false] (aCons (eVar 1) (aCons (eVar 0) aNil))) (eB gRepr (aCons (eTup (aCons (eVar 3) (aCons (eVar 0) aNil))) aNil)))) retF sNil))))
theorem m_errors_eq : m__law_errors_right = sSeq (sFor (tgN 1) (iRng rng1 (aCons (eC (.int 22)) aNil)) bodyX) (sRet (eC (.bool true))) := rfl
theorem bools_ok : ∀ {n : Nat} {xs : List Dt}, xs.length ≤ n → (∀ x ∈ xs, ∃ b, x = .bool b) → okDs xs = true ∧ bds xs ≤ 7 * n ∧ PyData.depthAll xs ≤ 3
  | _, [], _, _ => ⟨rfl, by simp [bds], by simp [PyData.depthAll]⟩
  | 0, _ :: _, h, _ => by simp at h
  | n + 1, x :: xs, hl, h => by
    obtain ⟨h1, h2, h3⟩ := bools_ok (n := n) (xs := xs) (by simpa using hl) fun y hy => h y (List.mem_cons_of_mem _ hy)
    obtain ⟨b, rfl⟩ := h x (List.mem_cons_self ..)
    refine ⟨?_, ?_, ?_⟩
    · show (okD (.bool b) && okDs xs) = true
      rw [h1]; rfl
    · simp only [bds, bd]; omega
    · simp only [PyData.depthAll, PyData.depth]; omega
theorem marks_bool {k : Nat} : ∀ x ∈ marksK k ++ [PyData.bool true], ∃ b, x = PyData.bool b := by
  intro x hx
  rcases List.mem_append.mp hx with h | h
  · obtain ⟨y, hy, rfl⟩ := List.mem_map.mp h
    obtain ⟨j, hj⟩ := List.mem_iff_getElem?.mp hy
    obtain ⟨_, h2⟩ := rngD_at hj
    subst h2
    exact ⟨_, rfl⟩
  · exact ⟨true, List.mem_singleton.mp h⟩
theorem marks_len {k : Nat} : (marksK k ++ [PyData.bool true]).length = 23 := by
  rw [List.length_append, marksK, List.length_map, rngD_len]
  rfl
theorem word_ok {k : Nat} : okD (.str (wordK k)) = true ∧ (wordK k).length ≤ 20 := by
  unfold wordK
  split
  · exact ⟨by decide +kernel, by decide +kernel⟩
  · split
    · exact ⟨by decide +kernel, by decide +kernel⟩
    · exact ⟨by decide +kernel, by decide +kernel⟩
theorem words_ok {x : Dt} {k : Nat} {s2 s3 : Sl} {m : M Fl} (h3 : nr s3) : sSeq (sSet 3 (eC (.str "at"))) (sSeq (sIf (isK 1 20) (sSet 3 (eC (.str "line"))) sNil) (sSeq (sIf (isK 1 21) (sSet 3 (eC (.str "limit"))) sNil) m)) [.d x, .d (.int (k : Int)), s2, s3] = m [.d x, .d (.int (k : Int)), s2, .d (.str (wordK k))] := by
  have a1 : sSet 3 (eC (.str "at")) [.d x, .d (.int (k : Int)), s2, s3] = .ok .nx [.d x, .d (.int (k : Int)), s2, .d (.str "at")] := set_d (x := .str "at") rfl rfl h3
  rw [seq_nx a1]
  by_cases h20 : k = 20
  · subst h20
    have a2 : sIf (isK 1 20) (sSet 3 (eC (.str "line"))) sNil [.d x, .d (.int ((20 : Nat) : Int)), s2, .d (.str "at")] = .ok .nx [.d x, .d (.int ((20 : Nat) : Int)), s2, .d (.str "line")] := by
      rw [if_t (isK_t rfl rfl)]
      rfl
    have a3 : sIf (isK 1 21) (sSet 3 (eC (.str "limit"))) sNil [.d x, .d (.int ((20 : Nat) : Int)), s2, .d (.str "line")] = .ok .nx [.d x, .d (.int ((20 : Nat) : Int)), s2, .d (.str "line")] := by
      rw [if_f (isK_f rfl (by decide))]
      rfl
    rw [seq_nx a2, seq_nx a3]
    rfl
  · have a2 : sIf (isK 1 20) (sSet 3 (eC (.str "line"))) sNil [.d x, .d (.int (k : Int)), s2, .d (.str "at")] = .ok .nx [.d x, .d (.int (k : Int)), s2, .d (.str "at")] := by
      rw [if_f (isK_f rfl (by omega))]
      rfl
    rw [seq_nx a2]
    by_cases h21 : k = 21
    · subst h21
      have a3 : sIf (isK 1 21) (sSet 3 (eC (.str "limit"))) sNil [.d x, .d (.int ((21 : Nat) : Int)), s2, .d (.str "at")] = .ok .nx [.d x, .d (.int ((21 : Nat) : Int)), s2, .d (.str "limit")] := by
        rw [if_t (isK_t rfl rfl)]
        rfl
      rw [seq_nx a3]
      rfl
    · have a3 : sIf (isK 1 21) (sSet 3 (eC (.str "limit"))) sNil [.d x, .d (.int (k : Int)), s2, .d (.str "at")] = .ok .nx [.d x, .d (.int (k : Int)), s2, .d (.str "at")] := by
        rw [if_f (isK_f rfl (by omega))]
        rfl
      rw [seq_nx a3]
      unfold wordK
      rw [if_neg h20, if_neg h21]
theorem bodyX_ok {x : Dt} {k : Nat} {s3 : Sl} (hx : Fine 106000 16 x) (hk : k < 22) (h3 : nr s3) : bodyX [.d x, .d (.int (k : Int)), .un, s3] = .ok .nx [.d x, .d (.int (k : Int)), .un, .d (.str (wordK k))] := by
  have p1 := classes_ok x k hk
  have q1 : eCall f__law_classes [false, false] (aCons (eVar 1) (aCons (eVar 0) aNil)) [.d x, .d (.int (k : Int)), .un, s3] = .ok (.o (marksK k ++ [.bool true])) [.d x, .d (.int (k : Int)), .un, s3] := by
    exact call_o (rs := [.v 1, .v 0]) (l := [(none, PyData.int (k : Int)), (none, x)]) (E1 := [.d x, .d (.int (k : Int)), .un, s3]) (E2 := [.d x, .d (.int (k : Int)), .un, s3]) rfl rfl List.nodup_nil rfl p1 rfl
  obtain ⟨m1, m2, m3⟩ := bools_ok (n := 23) (Nat.le_of_eq marks_len) (marks_bool (k := k))
  have hm : okRepr (.list (marksK k ++ [.bool true])) = true := okRepr_of m1 (by simp only [PyData.depth]; omega) (by simp only [bd]; omega)
  have g1 : gAdd (.list (marksK k)) (.list [.bool true]) = some (.o (marksK k ++ [.bool true])) := gAdd_list (by have := marks_len (k := k); rw [List.length_append] at this; omega)
  have q2 := e2_to (g := gAdd) (mb := eLst (aCons (eC (.bool true)) aNil)) (r2 := .o [.bool true]) (y := .list [.bool true]) (compK_ok (x := x) (k := k) (s3 := s3)) (lst_go (aCons_go (ma := eC (.bool true)) (r := .d (.bool true)) (mr := aNil) rfl rfl) rfl okLen_1) rfl rfl g1
  have r1 := rep_go q1 rfl hm
  have r2 := rep_go q2 rfl hm
  have a1 : sIf (tB1 (e2 gNe (eB gRepr (aCons (eCall f__law_classes [false, false] (aCons (eVar 1) (aCons (eVar 0) aNil))) aNil)) (eB gRepr (aCons (e2 gAdd compK (eLst (aCons (eC (.bool true)) aNil))) aNil)))) retF sNil [.d x, .d (.int (k : Int)), .un, s3] = .ok .nx [.d x, .d (.int (k : Int)), .un, s3] := (if_f (ne_same r1 r2)).trans rfl
  have hr : okRepr (.tuple [.str (wordK k), x]) = true := okRepr_tld word_ok.1 word_ok.2 hx (by omega) (by omega)
  have p2 := kept_of (tryK_ok x k hk) hr
  have q3 : eCall f__law_kept [false, false] (aCons (eVar 1) (aCons (eVar 0) aNil)) [.d x, .d (.int (k : Int)), .un, .d (.str (wordK k))] = .ok (.d (.str (PyData.tuple [.str (wordK k), x]).shown)) [.d x, .d (.int (k : Int)), .un, .d (.str (wordK k))] := by
    exact call_d (rs := [.v 1, .v 0]) (l := [(none, PyData.int (k : Int)), (none, x)]) (E1 := [.d x, .d (.int (k : Int)), .un, .d (.str (wordK k))]) (E2 := [.d x, .d (.int (k : Int)), .un, .d (.str (wordK k))]) rfl rfl List.nodup_nil rfl p2 rfl
  have q4 : eTup (aCons (eVar 3) (aCons (eVar 0) aNil)) [.d x, .d (.int (k : Int)), .un, .d (.str (wordK k))] = .ok (.d (.tuple [.str (wordK k), x])) [.d x, .d (.int (k : Int)), .un, .d (.str (wordK k))] := by
    simp [val_v, keep_v, sRet, sSeq, sIf, sSet, putV, setS, sNil, sBrk, sCnt, sExp, sUnp, unp, setAll, sAdd, sApp, sExt, sPut, mutL, sIns, sRetN, sRaise, rtV, endF, cutR, cut1, eAnd, eOr, eNot, eIf, e1, e2, eB, eC, eVar, eTup, eLst, aNil, aCons, vals, keeps, isB, tB1, tAndM, tOrM, tNotM, eSl, part, eCall, callM, prep, slotsOf, slotOf, refsOf, goBack, backs, unref, eDict, eM, gAdd, Vs.gSub, gDiv, gMod, gPow, gNeg, gCmp, gLt, gLe, gGt, gGe, gIsN, gNotN, isNone, gIsi, gIsi2, gLen, gList, gTuple, gMin, gMax, gInt, gAbs, iSeq, iEn, iCh, sFor, tgN, tgU]
  have r4 := rep_go q4 rfl hr
  unfold bodyX
  rw [seq_nx a1, words_ok h3, if_f (ne_same q3 r4)]
  rfl
theorem errors_ok {x : Dt} (hx : Fine 106000 16 x) : f__law_errors_right [.d x] = .ok (.d (.bool true)) [.un] := by
  have b1 : iRng rng1 (aCons (eC (.int 22)) aNil) [.d x, .un, .un, .un] = .ok (rngD 0 22) [.d x, .un, .un, .un] := iRng1_ok (n := 22) (rs := [.d (.int 22)]) rfl rfl (by omega)
  have key := forM_all (g := tgN 1) (mb := bodyX) (fun rest E => ∃ (s1 s3 : Sl), E = [.d x, s1, .un, s3] ∧ nr s1 ∧ nr s3 ∧ ∀ y ∈ rest, ∃ k : Nat, k < 22 ∧ y = .int (k : Int))
    (fun res => ∃ (s1 s3 : Sl), res = .ok .nx [.d x, s1, .un, s3])
    (by
      rintro E ⟨s1, s3, rfl, _⟩
      exact ⟨s1, s3, rfl⟩)
    (by
      rintro y rest E ⟨s1, s3, rfl, f1, f3, hr⟩
      obtain ⟨k, hk, rfl⟩ := hr y (List.mem_cons_self ..)
      exact ⟨[.d x, .d (.int (k : Int)), .un, s3], setS_nr (s0 := s1) rfl f1, .inl ⟨_, .inl (bodyX_ok hx hk f3), _, _, rfl, .inr (.inl ⟨_, rfl⟩), .inr (.inl ⟨_, rfl⟩), fun z hz => hr z (List.mem_cons_of_mem _ hz)⟩⟩)
    (rngD 0 22) [.d x, .un, .un, .un] ⟨.un, .un, rfl, .inl rfl, .inl rfl, fun y hy => by
      obtain ⟨j, hj⟩ := List.mem_iff_getElem?.mp hy
      obtain ⟨h1, h2⟩ := rngD_at hj
      exact ⟨j, by omega, by rw [h2, Int.zero_add]⟩⟩
  obtain ⟨s1, s3, ef⟩ := key
  have a2 := (for_go (g := tgN 1) (mb := bodyX) b1).trans ef
  refine mkFn_rt (E0 := [.d x, .un, .un, .un]) (E := [.d x, s1, .un, s3]) rfl rfl ?_
  rw [m_errors_eq, seq_nx a2]
  rfl
def bodyL : M Fl := sSeq (sUnp [3, 4] (eCall f__law_thing [true] (aCons (eVar 1) aNil))) (sSeq (sIf (tNotM (tB1 (eCall f__law_forms_right [true, false, false] (aCons (eVar 1) (aCons (eVar 3) (aCons (eVar 4) aNil)))))) retF sNil) (sIf (tNotM (tB1 (eCall f__law_boxes_right [true] (aCons (eVar 1) aNil)))) retF sNil))
theorem m_law_eq : m_law = sSeq (sSet 1 (eCall f__law_deck [true] (aCons (eVar 0) aNil))) (sSeq (sFor (tgN 2) (iRng rng1 (aCons (eC (.int 4)) aNil)) bodyL) (sRet (eCall f__law_errors_right [false] (aCons (eVar 4) aNil)))) := rfl
theorem not_true {ma : M Rv} {E E1 : En} (h : ma E = .ok (.d (.bool true)) E1) : tNotM (tB1 ma) E = .ok false E1 := by
  unfold tNotM tB1
  rw [bnd_ap, bnd_ap, h]
  rfl
def two (s3 s4 : Sl) : Prop := (s3 = .un ∧ s4 = .un) ∨ ∃ a b, s3 = .d a ∧ s4 = .d b
theorem bodyL_ok {ns : List Int} {xs : List Dt} {s2 s3 s4 : Sl} (h : Deck xs) (h34 : two s3 s4) : ∃ (x : Dt) (ys : List Dt), bodyL [.s ns, .l xs, s2, s3, s4] = .ok .nx [.s ns, .l ys, s2, .d x, .d (pf x)] ∧ Fine 53000 16 x ∧ Deck ys := by
  obtain ⟨x, y1, p1, hx, h1⟩ := thing_ok h
  obtain ⟨y2, p2, h2⟩ := forms_ok h1 hx
  obtain ⟨y3, p3, h3⟩ := boxes_ok h2
  refine ⟨x, y3, ?_, hx, h3⟩
  have a1 : sUnp [3, 4] (eCall f__law_thing [true] (aCons (eVar 1) aNil)) [.s ns, .l xs, s2, s3, s4] = .ok .nx [.s ns, .l y1, s2, .d x, .d (pf x)] := by
    have q : eCall f__law_thing [true] (aCons (eVar 1) aNil) [.s ns, .l xs, s2, s3, s4] = .ok (.d (.tuple [x, pf x])) [.s ns, .l y1, s2, s3, s4] :=
      call_d (rs := [.v 1]) (l := [(some 1, PyData.none)]) (E1 := [.s ns, .l xs, s2, s3, s4]) (E2 := [.s ns, .l xs, s2, s3, s4]) rfl rfl (nod1 1) rfl p1 rfl
    unfold sUnp
    rw [bnd_ap, q]
    rcases h34 with ⟨rfl, rfl⟩ | ⟨a, b, rfl, rfl⟩ <;> rfl
  have a2 : sIf (tNotM (tB1 (eCall f__law_forms_right [true, false, false] (aCons (eVar 1) (aCons (eVar 3) (aCons (eVar 4) aNil)))))) retF sNil [.s ns, .l y1, s2, .d x, .d (pf x)] = .ok .nx [.s ns, .l y2, s2, .d x, .d (pf x)] := by
    have q : eCall f__law_forms_right [true, false, false] (aCons (eVar 1) (aCons (eVar 3) (aCons (eVar 4) aNil))) [.s ns, .l y1, s2, .d x, .d (pf x)] = .ok (.d (.bool true)) [.s ns, .l y2, s2, .d x, .d (pf x)] :=
      call_d (rs := [.v 1, .v 3, .v 4]) (l := [(some 1, PyData.none), (none, x), (none, pf x)]) (E1 := [.s ns, .l y1, s2, .d x, .d (pf x)]) (E2 := [.s ns, .l y1, s2, .d x, .d (pf x)]) rfl rfl (nod1 1) rfl p2 rfl
    exact (if_f (not_true q)).trans rfl
  have a3 : sIf (tNotM (tB1 (eCall f__law_boxes_right [true] (aCons (eVar 1) aNil)))) retF sNil [.s ns, .l y2, s2, .d x, .d (pf x)] = .ok .nx [.s ns, .l y3, s2, .d x, .d (pf x)] := by
    have q : eCall f__law_boxes_right [true] (aCons (eVar 1) aNil) [.s ns, .l y2, s2, .d x, .d (pf x)] = .ok (.d (.bool true)) [.s ns, .l y3, s2, .d x, .d (pf x)] :=
      call_d (rs := [.v 1]) (l := [(some 1, PyData.none)]) (E1 := [.s ns, .l y2, s2, .d x, .d (pf x)]) (E2 := [.s ns, .l y2, s2, .d x, .d (pf x)]) rfl rfl (nod1 1) rfl p3 rfl
    exact (if_f (not_true q)).trans rfl
  unfold bodyL
  rw [seq_nx a1, seq_nx a2]
  exact a3
theorem law_plain (ns : List Int) : ∃ E, f_law [.s ns] = .ok (.d (.bool true)) E := by
  obtain ⟨xs, p0, h0⟩ := deck_ok ns
  obtain ⟨x1, y1, e1, hx1, h1⟩ := bodyL_ok (ns := ns) (s2 := .d (.int 0)) h0 (.inl ⟨rfl, rfl⟩)
  obtain ⟨x2, y2, e2, hx2, h2⟩ := bodyL_ok (ns := ns) (s2 := .d (.int 1)) (s3 := .d x1) (s4 := .d (pf x1)) h1 (.inr ⟨_, _, rfl, rfl⟩)
  obtain ⟨x3, y3, e3, hx3, h3⟩ := bodyL_ok (ns := ns) (s2 := .d (.int 2)) (s3 := .d x2) (s4 := .d (pf x2)) h2 (.inr ⟨_, _, rfl, rfl⟩)
  obtain ⟨x4, y4, e4, hx4, h4⟩ := bodyL_ok (ns := ns) (s2 := .d (.int 3)) (s3 := .d x3) (s4 := .d (pf x3)) h3 (.inr ⟨_, _, rfl, rfl⟩)
  have a1 : sSet 1 (eCall f__law_deck [true] (aCons (eVar 0) aNil)) [.s ns, .un, .un, .un, .un] = .ok .nx [.s ns, .l xs, .un, .un, .un] := by
    refine set_o (s0 := .un) ?_ rfl (.inl rfl) (E1 := [.s ns, .un, .un, .un, .un])
    exact call_o (rs := [.v 0]) (l := [(some 0, PyData.none)]) (E1 := [.s ns, .un, .un, .un, .un]) (E2 := [.s ns, .un, .un, .un, .un]) rfl rfl (nod1 0) rfl p0 rfl
  have b1 : iRng rng1 (aCons (eC (.int 4)) aNil) [.s ns, .l xs, .un, .un, .un] = .ok [.int 0, .int 1, .int 2, .int 3] [.s ns, .l xs, .un, .un, .un] := rfl
  have a2 : sFor (tgN 2) (iRng rng1 (aCons (eC (.int 4)) aNil)) bodyL [.s ns, .l xs, .un, .un, .un] = .ok .nx [.s ns, .l y4, .d (.int 3), .d x4, .d (pf x4)] := by
    rw [for_go b1, forM_cons rfl e1, forM_cons rfl e2, forM_cons rfl e3, forM_cons rfl e4]
    rfl
  have p5 := errors_ok hx4.pf
  have q5 : eCall f__law_errors_right [false] (aCons (eVar 4) aNil) [.s ns, .l y4, .d (.int 3), .d x4, .d (pf x4)] = .ok (.d (.bool true)) [.s ns, .l y4, .d (.int 3), .d x4, .d (pf x4)] := by
    exact call_d (rs := [.v 4]) (l := [(none, pf x4)]) (E1 := [.s ns, .l y4, .d (.int 3), .d x4, .d (pf x4)]) (E2 := [.s ns, .l y4, .d (.int 3), .d x4, .d (pf x4)]) rfl rfl List.nodup_nil rfl p5 rfl
  have hm : m_law [.s ns, .un, .un, .un, .un] = .ok (.rt (.d (.bool true))) [.s ns, .l y4, .d (.int 3), .d x4, .d (pf x4)] := by
    rw [m_law_eq, seq_nx a1, seq_nx a2]
    exact ret_ok q5
  exact ⟨_, mkFn_rt (E0 := [.s ns, .un, .un, .un, .un]) rfl rfl hm⟩
end K04
/-! # K04H -/
set_option Elab.async false
set_option linter.all false
set_option maxRecDepth 100000
set_option maxHeartbeats 4000000
namespace K04
open PySem L2 Vs PySem.Spec PyProof.Rows

def nmsC : List Str := ["BadNumber", "BadName", "BadLots", "BadHouses", "BadLetter", "BadProgram", "BadBook", "BadStand", "BadLoad", "BadBox", "BadCast", "BadMove", "BadTarget", "BadMark", "BadRound", "BadPaper", "BadLink", "BadEdit", "BadCase", "NoName", "BadText", "TooMany"]
def qualsC : List Str := ["BadNumber.__init__", "BadName.__init__", "BadLots.__init__", "BadHouses.__init__", "BadLetter.__init__", "BadProgram.__init__", "BadBook.__init__", "BadStand.__init__", "BadLoad.__init__", "BadBox.__init__", "BadCast.__init__", "BadMove.__init__", "BadTarget.__init__", "BadMark.__init__", "BadRound.__init__", "BadPaper.__init__", "BadLink.__init__", "BadEdit.__init__", "BadCase.__init__", "NoName.__init__", "BadText.__init__", "TooMany.__init__"]
section
variable {P : Program} {w : World} {K : PySem.W.Frag} {mg : Str → Option Value} {base : Heap}
theorem isC_lt {j : Option Nat} {c : Nat} {b : Bool} (h : isC j c = some b) : c < nC ∧ b = isJ j c := by
  unfold isC at h
  by_cases hc : c < nC
  · rw [if_pos hc] at h
    exact ⟨hc, (Option.some.inj h).symm⟩
  · rw [if_neg hc] at h
    cases h
theorem cn_of {L : Addr} {cs fs : List Addr} (T : RawAll K mg L "LastError" cs fs nmsC qualsC fldN) (sy : ∃ o, base.get? sysModules = some o) (n_ValueError : mg "ValueError" = none) (n_abs : mg "abs" = none) (n_all : mg "all" = none) (n_bool : mg "bool" = none) (n_enumerate : mg "enumerate" = none) (n_int : mg "int" = none) (n_isinstance : mg "isinstance" = none) (n_len : mg "len" = none) (n_list : mg "list" = none) (n_max : mg "max" = none) (n_min : mg "min" = none) (n_range : mg "range" = none) (n_repr : mg "repr" = none) (n_reversed : mg "reversed" = none) (n_str : mg "str" = none) (n_tuple : mg "tuple" = none) (g_SMALL_LETTERS : ∃ t, mg "SMALL_LETTERS" = some (.str "abcdefghijklmnopqrstuvwxyz" t)) (g_NAME_SIGNS : ∃ t, mg "NAME_SIGNS" = some (.str "abcdefghijklmnopqrstuvwxyz0123456789" t)) (g_NAME_MOST : ∃ t, mg "NAME_MOST" = some (.int 12 t)) : Cn P w K mg base (giOf K L cs fldN) where
  hK := rfl
  sy := sy
  T := T.ok
  n_ValueError := n_ValueError
  n_abs := n_abs
  n_all := n_all
  n_bool := n_bool
  n_enumerate := n_enumerate
  n_int := n_int
  n_isinstance := n_isinstance
  n_len := n_len
  n_list := n_list
  n_max := n_max
  n_min := n_min
  n_range := n_range
  n_repr := n_repr
  n_reversed := n_reversed
  n_str := n_str
  n_tuple := n_tuple
  g_SMALL_LETTERS := g_SMALL_LETTERS
  g_NAME_SIGNS := g_NAME_SIGNS
  g_NAME_MOST := g_NAME_MOST
  m_BadNumber := T.at_ (c := 0) (by decide)
  m_BadName := T.at_ (c := 1) (by decide)
  m_BadLots := T.at_ (c := 2) (by decide)
  m_BadHouses := T.at_ (c := 3) (by decide)
  m_BadLetter := T.at_ (c := 4) (by decide)
  m_BadProgram := T.at_ (c := 5) (by decide)
  m_BadBook := T.at_ (c := 6) (by decide)
  m_BadStand := T.at_ (c := 7) (by decide)
  m_BadLoad := T.at_ (c := 8) (by decide)
  m_BadBox := T.at_ (c := 9) (by decide)
  m_BadCast := T.at_ (c := 10) (by decide)
  m_BadMove := T.at_ (c := 11) (by decide)
  m_BadTarget := T.at_ (c := 12) (by decide)
  m_BadMark := T.at_ (c := 13) (by decide)
  m_BadRound := T.at_ (c := 14) (by decide)
  m_BadPaper := T.at_ (c := 15) (by decide)
  m_BadLink := T.at_ (c := 16) (by decide)
  m_BadEdit := T.at_ (c := 17) (by decide)
  m_BadCase := T.at_ (c := 18) (by decide)
  m_NoName := T.at_ (c := 19) (by decide)
  m_BadText := T.at_ (c := 20) (by decide)
  m_TooMany := T.at_ (c := 21) (by decide)
  m_LastError := by
    have e := T.clsL
    have e : (giOf K L cs fldN).cls 22 = L := e
    rw [e]
    exact T.gL
  x_BadNumber := fun c b h => by
    obtain ⟨h1, rfl⟩ := isC_lt h
    exact T.exm h1 (j := 0) (by decide)
  k_BadNumber := fun c b h => by
    obtain ⟨h1, rfl⟩ := isC_lt h
    exact T.kit h1 (j := 0) (by decide)
  x_BadName := fun c b h => by
    obtain ⟨h1, rfl⟩ := isC_lt h
    exact T.exm h1 (j := 1) (by decide)
  k_BadName := fun c b h => by
    obtain ⟨h1, rfl⟩ := isC_lt h
    exact T.kit h1 (j := 1) (by decide)
  k_BadLots := fun c b h => by
    obtain ⟨h1, rfl⟩ := isC_lt h
    exact T.kit h1 (j := 2) (by decide)
  k_BadHouses := fun c b h => by
    obtain ⟨h1, rfl⟩ := isC_lt h
    exact T.kit h1 (j := 3) (by decide)
  k_BadLetter := fun c b h => by
    obtain ⟨h1, rfl⟩ := isC_lt h
    exact T.kit h1 (j := 4) (by decide)
  k_BadProgram := fun c b h => by
    obtain ⟨h1, rfl⟩ := isC_lt h
    exact T.kit h1 (j := 5) (by decide)
  k_BadBook := fun c b h => by
    obtain ⟨h1, rfl⟩ := isC_lt h
    exact T.kit h1 (j := 6) (by decide)
  k_BadStand := fun c b h => by
    obtain ⟨h1, rfl⟩ := isC_lt h
    exact T.kit h1 (j := 7) (by decide)
  k_BadLoad := fun c b h => by
    obtain ⟨h1, rfl⟩ := isC_lt h
    exact T.kit h1 (j := 8) (by decide)
  k_BadBox := fun c b h => by
    obtain ⟨h1, rfl⟩ := isC_lt h
    exact T.kit h1 (j := 9) (by decide)
  k_BadCast := fun c b h => by
    obtain ⟨h1, rfl⟩ := isC_lt h
    exact T.kit h1 (j := 10) (by decide)
  k_BadMove := fun c b h => by
    obtain ⟨h1, rfl⟩ := isC_lt h
    exact T.kit h1 (j := 11) (by decide)
  k_BadTarget := fun c b h => by
    obtain ⟨h1, rfl⟩ := isC_lt h
    exact T.kit h1 (j := 12) (by decide)
  k_BadMark := fun c b h => by
    obtain ⟨h1, rfl⟩ := isC_lt h
    exact T.kit h1 (j := 13) (by decide)
  k_BadRound := fun c b h => by
    obtain ⟨h1, rfl⟩ := isC_lt h
    exact T.kit h1 (j := 14) (by decide)
  k_BadPaper := fun c b h => by
    obtain ⟨h1, rfl⟩ := isC_lt h
    exact T.kit h1 (j := 15) (by decide)
  k_BadLink := fun c b h => by
    obtain ⟨h1, rfl⟩ := isC_lt h
    exact T.kit h1 (j := 16) (by decide)
  k_BadEdit := fun c b h => by
    obtain ⟨h1, rfl⟩ := isC_lt h
    exact T.kit h1 (j := 17) (by decide)
  k_BadCase := fun c b h => by
    obtain ⟨h1, rfl⟩ := isC_lt h
    exact T.kit h1 (j := 18) (by decide)
  k_NoName := fun c b h => by
    obtain ⟨h1, rfl⟩ := isC_lt h
    exact T.kit h1 (j := 19) (by decide)
  x_BadText := fun c b h => by
    obtain ⟨h1, rfl⟩ := isC_lt h
    exact T.exm h1 (j := 20) (by decide)
  k_BadText := fun c b h => by
    obtain ⟨h1, rfl⟩ := isC_lt h
    exact T.kit h1 (j := 20) (by decide)
  x_TooMany := fun c b h => by
    obtain ⟨h1, rfl⟩ := isC_lt h
    exact T.exm h1 (j := 21) (by decide)
  k_TooMany := fun c b h => by
    obtain ⟨h1, rfl⟩ := isC_lt h
    exact T.kit h1 (j := 21) (by decide)
  x_LastError := fun c b h => by
    obtain ⟨h1, rfl⟩ := isC_lt h
    exact T.exmL h1
  k_ValueError := fun c b h => by
    obtain ⟨h1, rfl⟩ := isC_lt h
    exact T.kitVE h1
  f_at := fun c h => by
    unfold at_at at h
    rw [Bool.and_eq_true] at h
    have hc := of_decide_eq_true h.1
    refine ⟨?_, T.fld hc⟩
    show fldN.getD c "" = _
    rw [List.getD_eq_getElem?_getD, beq_iff_eq.mp h.2]
    rfl
  f_limit := fun c h => by
    unfold at_limit at h
    rw [Bool.and_eq_true] at h
    have hc := of_decide_eq_true h.1
    refine ⟨?_, T.fld hc⟩
    show fldN.getD c "" = _
    rw [List.getD_eq_getElem?_getD, beq_iff_eq.mp h.2]
    rfl
  f_line := fun c h => by
    unfold at_line at h
    rw [Bool.and_eq_true] at h
    have hc := of_decide_eq_true h.1
    refine ⟨?_, T.fld hc⟩
    show fldN.getD c "" = _
    rw [List.getD_eq_getElem?_getD, beq_iff_eq.mp h.2]
    rfl
theorem chain {G : Gi} (C : Cn P w K mg base G) (A_is_int : At K mg "is_int" s_is_int ["x"]) (A_is_row : At K mg "is_row" s_is_row ["x"]) (A_is_name : At K mg "is_name" s_is_name ["x"]) (A_dense_key : At K mg "dense_key" s_dense_key ["box"]) (A_is_less : At K mg "is_less" s_is_less ["u", "v"]) (A__law_deck : At K mg "_law_deck" s__law_deck ["script"]) (A__law_pick : At K mg "_law_pick" s__law_pick ["deck", "many"]) (A__law_is_whole : At K mg "_law_is_whole" s__law_is_whole ["thing"]) (A__law_named : At K mg "_law_named" s__law_named ["thing"]) (A__law_at_most : At K mg "_law_at_most" s__law_at_most ["low", "high"]) (A__law_raise : At K mg "_law_raise" s__law_raise ["which", "at"]) (A_plain_form : At K mg "plain_form" s_plain_form ["x"]) (A__law_great : At K mg "_law_great" s__law_great ["deck"]) (A__law_text : At K mg "_law_text" s__law_text ["deck"]) (A__law_bent_box : At K mg "_law_bent_box" s__law_bent_box ["deck", "box"]) (A__law_classes : At K mg "_law_classes" s__law_classes ["which", "at"]) (A__law_kept : At K mg "_law_kept" s__law_kept ["which", "at"]) (A_check_number : At K mg "check_number" s_check_number ["x", "least"]) (A_check_name : At K mg "check_name" s_check_name ["x"]) (A__law_leaf : At K mg "_law_leaf" s__law_leaf ["deck"]) (A__law_box : At K mg "_law_box" s__law_box ["deck", "many"]) (A__law_errors_right : At K mg "_law_errors_right" s__law_errors_right ["at"]) (A_choose : At K mg "choose" s_choose ["n", "k"]) (A__law_beside : At K mg "_law_beside" s__law_beside ["deck"]) (A__law_boxes_right : At K mg "_law_boxes_right" s__law_boxes_right ["deck"]) (A__law_thing : At K mg "_law_thing" s__law_thing ["deck"]) (A__law_asked : At K mg "_law_asked" s__law_asked ["door", "thing", "other"]) (A__law_forms_right : At K mg "_law_forms_right" s__law_forms_right ["deck", "thing", "due"]) {fa : Addr} {fd : FuncData} (F : Fun K "law" "law" s_law fa fd) : FnG P w K mg base 7 fa fd ["script"] (spTrue K) := by
  have D_is_int := ok_is_int C A_is_int 
  have D_is_row := ok_is_row C A_is_row 
  have D_is_name := ok_is_name C A_is_name 
  have D_dense_key := ok_dense_key C A_dense_key 
  have D_is_less := ok_is_less C A_is_less 
  have D__law_deck := ok__law_deck C A__law_deck 
  have D__law_pick := ok__law_pick C A__law_pick 
  have D__law_is_whole := ok__law_is_whole C A__law_is_whole 
  have D__law_named := ok__law_named C A__law_named 
  have D__law_at_most := ok__law_at_most C A__law_at_most 
  have D__law_raise := ok__law_raise C A__law_raise 
  have D_plain_form := ok_plain_form C A_plain_form D_is_row
  have D__law_great := ok__law_great C A__law_great D__law_pick
  have D__law_text := ok__law_text C A__law_text D__law_pick
  have D__law_bent_box := ok__law_bent_box C A__law_bent_box D__law_pick
  have D__law_classes := ok__law_classes C A__law_classes D__law_raise
  have D__law_kept := ok__law_kept C A__law_kept D__law_raise
  have D_check_number := ok_check_number C A_check_number D_is_int D_plain_form
  have D_check_name := ok_check_name C A_check_name D_is_name D_plain_form
  have D__law_leaf := ok__law_leaf C A__law_leaf D__law_pick D__law_text D__law_great
  have D__law_box := ok__law_box C A__law_box D__law_pick D__law_great
  have D__law_errors_right := ok__law_errors_right C A__law_errors_right D__law_classes D__law_kept
  have D_choose := ok_choose C A_choose D_check_number
  have D__law_beside := ok__law_beside C A__law_beside D__law_pick D__law_leaf
  have D__law_boxes_right := ok__law_boxes_right C A__law_boxes_right D__law_box D__law_pick D__law_bent_box D_is_less D__law_at_most D_dense_key
  have D__law_thing := ok__law_thing C A__law_thing D__law_leaf D__law_pick D__law_beside
  have D__law_asked := ok__law_asked C A__law_asked D_check_number D_check_name D_choose
  have D__law_forms_right := ok__law_forms_right C A__law_forms_right D__law_is_whole D__law_named D_is_int D_is_name D_plain_form D__law_great D__law_pick D__law_asked
  exact (ok_law C F D__law_deck D__law_thing D__law_forms_right D__law_boxes_right D__law_errors_right).imp (true_imp C.hK law_plain)
end
theorem all_mk {l : PySem.W.OpenLaw} {w : World} {K : PySem.W.Frag} {h : Heap} {mg : Str → Option Value} {fa : Addr} (X : K.In h) (G : h.Ns mainGlobals mg) (hfa : mg "law" = some (.ref fa)) {L : Addr} {C0 C1 C2 C3 C4 C5 C6 C7 C8 C9 C10 C11 C12 C13 C14 C15 C16 C17 C18 C19 C20 C21 : Addr} {I0 I1 I2 I3 I4 I5 I6 I7 I8 I9 I10 I11 I12 I13 I14 I15 I16 I17 I18 I19 I20 I21 : Addr} {a_is_int a_is_row a_is_name a_dense_key a_is_less a__law_deck a__law_pick a__law_is_whole a__law_named a__law_at_most a__law_raise a_plain_form a__law_great a__law_text a__law_bent_box a__law_classes a__law_kept a_check_number a_check_name a__law_leaf a__law_box a__law_errors_right a_choose a__law_beside a__law_boxes_right a__law_thing a__law_asked a__law_forms_right a_law : Addr} {d_is_int d_is_row d_is_name d_dense_key d_is_less d__law_deck d__law_pick d__law_is_whole d__law_named d__law_at_most d__law_raise d_plain_form d__law_great d__law_text d__law_bent_box d__law_classes d__law_kept d_check_number d_check_name d__law_leaf d__law_box d__law_errors_right d_choose d__law_beside d__law_boxes_right d__law_thing d__law_asked d__law_forms_right d_law : FuncData} {t_SMALL_LETTERS t_NAME_SIGNS t_NAME_MOST : Tok}
    (aL : PySem.W.nsIn K mainGlobals "LastError" = some (some (.ref L)))
    (rL : RawL K "LastError" L)
    (aC0 : PySem.W.nsIn K mainGlobals "BadNumber" = some (some (.ref C0)))
    (rC0 : RawE K L "BadNumber" "BadNumber.__init__" "at" C0 I0)
    (aC1 : PySem.W.nsIn K mainGlobals "BadName" = some (some (.ref C1)))
    (rC1 : RawE K L "BadName" "BadName.__init__" "at" C1 I1)
    (aC2 : PySem.W.nsIn K mainGlobals "BadLots" = some (some (.ref C2)))
    (rC2 : RawE K L "BadLots" "BadLots.__init__" "at" C2 I2)
    (aC3 : PySem.W.nsIn K mainGlobals "BadHouses" = some (some (.ref C3)))
    (rC3 : RawE K L "BadHouses" "BadHouses.__init__" "at" C3 I3)
    (aC4 : PySem.W.nsIn K mainGlobals "BadLetter" = some (some (.ref C4)))
    (rC4 : RawE K L "BadLetter" "BadLetter.__init__" "at" C4 I4)
    (aC5 : PySem.W.nsIn K mainGlobals "BadProgram" = some (some (.ref C5)))
    (rC5 : RawE K L "BadProgram" "BadProgram.__init__" "at" C5 I5)
    (aC6 : PySem.W.nsIn K mainGlobals "BadBook" = some (some (.ref C6)))
    (rC6 : RawE K L "BadBook" "BadBook.__init__" "at" C6 I6)
    (aC7 : PySem.W.nsIn K mainGlobals "BadStand" = some (some (.ref C7)))
    (rC7 : RawE K L "BadStand" "BadStand.__init__" "at" C7 I7)
    (aC8 : PySem.W.nsIn K mainGlobals "BadLoad" = some (some (.ref C8)))
    (rC8 : RawE K L "BadLoad" "BadLoad.__init__" "at" C8 I8)
    (aC9 : PySem.W.nsIn K mainGlobals "BadBox" = some (some (.ref C9)))
    (rC9 : RawE K L "BadBox" "BadBox.__init__" "at" C9 I9)
    (aC10 : PySem.W.nsIn K mainGlobals "BadCast" = some (some (.ref C10)))
    (rC10 : RawE K L "BadCast" "BadCast.__init__" "at" C10 I10)
    (aC11 : PySem.W.nsIn K mainGlobals "BadMove" = some (some (.ref C11)))
    (rC11 : RawE K L "BadMove" "BadMove.__init__" "at" C11 I11)
    (aC12 : PySem.W.nsIn K mainGlobals "BadTarget" = some (some (.ref C12)))
    (rC12 : RawE K L "BadTarget" "BadTarget.__init__" "at" C12 I12)
    (aC13 : PySem.W.nsIn K mainGlobals "BadMark" = some (some (.ref C13)))
    (rC13 : RawE K L "BadMark" "BadMark.__init__" "at" C13 I13)
    (aC14 : PySem.W.nsIn K mainGlobals "BadRound" = some (some (.ref C14)))
    (rC14 : RawE K L "BadRound" "BadRound.__init__" "at" C14 I14)
    (aC15 : PySem.W.nsIn K mainGlobals "BadPaper" = some (some (.ref C15)))
    (rC15 : RawE K L "BadPaper" "BadPaper.__init__" "at" C15 I15)
    (aC16 : PySem.W.nsIn K mainGlobals "BadLink" = some (some (.ref C16)))
    (rC16 : RawE K L "BadLink" "BadLink.__init__" "at" C16 I16)
    (aC17 : PySem.W.nsIn K mainGlobals "BadEdit" = some (some (.ref C17)))
    (rC17 : RawE K L "BadEdit" "BadEdit.__init__" "at" C17 I17)
    (aC18 : PySem.W.nsIn K mainGlobals "BadCase" = some (some (.ref C18)))
    (rC18 : RawE K L "BadCase" "BadCase.__init__" "at" C18 I18)
    (aC19 : PySem.W.nsIn K mainGlobals "NoName" = some (some (.ref C19)))
    (rC19 : RawE K L "NoName" "NoName.__init__" "at" C19 I19)
    (aC20 : PySem.W.nsIn K mainGlobals "BadText" = some (some (.ref C20)))
    (rC20 : RawE K L "BadText" "BadText.__init__" "line" C20 I20)
    (aC21 : PySem.W.nsIn K mainGlobals "TooMany" = some (some (.ref C21)))
    (rC21 : RawE K L "TooMany" "TooMany.__init__" "limit" C21 I21)
    (hn : PySem.W.specialIn K (.builtin "object.__class__") "__get__" = some (some (.builtin "getset_descriptor.__get__")))
    (ht : PySem.W.takesIn K (.builtin "object.__class__") = some true)
    (z_ValueError : PySem.W.nsIn K mainGlobals "ValueError" = some none)
    (z_abs : PySem.W.nsIn K mainGlobals "abs" = some none)
    (z_all : PySem.W.nsIn K mainGlobals "all" = some none)
    (z_bool : PySem.W.nsIn K mainGlobals "bool" = some none)
    (z_enumerate : PySem.W.nsIn K mainGlobals "enumerate" = some none)
    (z_int : PySem.W.nsIn K mainGlobals "int" = some none)
    (z_isinstance : PySem.W.nsIn K mainGlobals "isinstance" = some none)
    (z_len : PySem.W.nsIn K mainGlobals "len" = some none)
    (z_list : PySem.W.nsIn K mainGlobals "list" = some none)
    (z_max : PySem.W.nsIn K mainGlobals "max" = some none)
    (z_min : PySem.W.nsIn K mainGlobals "min" = some none)
    (z_range : PySem.W.nsIn K mainGlobals "range" = some none)
    (z_repr : PySem.W.nsIn K mainGlobals "repr" = some none)
    (z_reversed : PySem.W.nsIn K mainGlobals "reversed" = some none)
    (z_str : PySem.W.nsIn K mainGlobals "str" = some none)
    (z_tuple : PySem.W.nsIn K mainGlobals "tuple" = some none)
    (g_SMALL_LETTERS : PySem.W.nsIn K mainGlobals "SMALL_LETTERS" = some (some (.str "abcdefghijklmnopqrstuvwxyz" t_SMALL_LETTERS)))
    (g_NAME_SIGNS : PySem.W.nsIn K mainGlobals "NAME_SIGNS" = some (some (.str "abcdefghijklmnopqrstuvwxyz0123456789" t_NAME_SIGNS)))
    (g_NAME_MOST : PySem.W.nsIn K mainGlobals "NAME_MOST" = some (some (.int 12 t_NAME_MOST)))
    (n_is_int : PySem.W.nsIn K mainGlobals "is_int" = some (some (.ref a_is_int)))
    (F_is_int : Fun K "is_int" "is_int" s_is_int a_is_int d_is_int)
    (n_is_row : PySem.W.nsIn K mainGlobals "is_row" = some (some (.ref a_is_row)))
    (F_is_row : Fun K "is_row" "is_row" s_is_row a_is_row d_is_row)
    (n_is_name : PySem.W.nsIn K mainGlobals "is_name" = some (some (.ref a_is_name)))
    (F_is_name : Fun K "is_name" "is_name" s_is_name a_is_name d_is_name)
    (n_dense_key : PySem.W.nsIn K mainGlobals "dense_key" = some (some (.ref a_dense_key)))
    (F_dense_key : Fun K "dense_key" "dense_key" s_dense_key a_dense_key d_dense_key)
    (n_is_less : PySem.W.nsIn K mainGlobals "is_less" = some (some (.ref a_is_less)))
    (F_is_less : Fun K "is_less" "is_less" s_is_less a_is_less d_is_less)
    (n__law_deck : PySem.W.nsIn K mainGlobals "_law_deck" = some (some (.ref a__law_deck)))
    (F__law_deck : Fun K "_law_deck" "_law_deck" s__law_deck a__law_deck d__law_deck)
    (n__law_pick : PySem.W.nsIn K mainGlobals "_law_pick" = some (some (.ref a__law_pick)))
    (F__law_pick : Fun K "_law_pick" "_law_pick" s__law_pick a__law_pick d__law_pick)
    (n__law_is_whole : PySem.W.nsIn K mainGlobals "_law_is_whole" = some (some (.ref a__law_is_whole)))
    (F__law_is_whole : Fun K "_law_is_whole" "_law_is_whole" s__law_is_whole a__law_is_whole d__law_is_whole)
    (n__law_named : PySem.W.nsIn K mainGlobals "_law_named" = some (some (.ref a__law_named)))
    (F__law_named : Fun K "_law_named" "_law_named" s__law_named a__law_named d__law_named)
    (n__law_at_most : PySem.W.nsIn K mainGlobals "_law_at_most" = some (some (.ref a__law_at_most)))
    (F__law_at_most : Fun K "_law_at_most" "_law_at_most" s__law_at_most a__law_at_most d__law_at_most)
    (n__law_raise : PySem.W.nsIn K mainGlobals "_law_raise" = some (some (.ref a__law_raise)))
    (F__law_raise : Fun K "_law_raise" "_law_raise" s__law_raise a__law_raise d__law_raise)
    (n_plain_form : PySem.W.nsIn K mainGlobals "plain_form" = some (some (.ref a_plain_form)))
    (F_plain_form : Fun K "plain_form" "plain_form" s_plain_form a_plain_form d_plain_form)
    (n__law_great : PySem.W.nsIn K mainGlobals "_law_great" = some (some (.ref a__law_great)))
    (F__law_great : Fun K "_law_great" "_law_great" s__law_great a__law_great d__law_great)
    (n__law_text : PySem.W.nsIn K mainGlobals "_law_text" = some (some (.ref a__law_text)))
    (F__law_text : Fun K "_law_text" "_law_text" s__law_text a__law_text d__law_text)
    (n__law_bent_box : PySem.W.nsIn K mainGlobals "_law_bent_box" = some (some (.ref a__law_bent_box)))
    (F__law_bent_box : Fun K "_law_bent_box" "_law_bent_box" s__law_bent_box a__law_bent_box d__law_bent_box)
    (n__law_classes : PySem.W.nsIn K mainGlobals "_law_classes" = some (some (.ref a__law_classes)))
    (F__law_classes : Fun K "_law_classes" "_law_classes" s__law_classes a__law_classes d__law_classes)
    (n__law_kept : PySem.W.nsIn K mainGlobals "_law_kept" = some (some (.ref a__law_kept)))
    (F__law_kept : Fun K "_law_kept" "_law_kept" s__law_kept a__law_kept d__law_kept)
    (n_check_number : PySem.W.nsIn K mainGlobals "check_number" = some (some (.ref a_check_number)))
    (F_check_number : Fun K "check_number" "check_number" s_check_number a_check_number d_check_number)
    (n_check_name : PySem.W.nsIn K mainGlobals "check_name" = some (some (.ref a_check_name)))
    (F_check_name : Fun K "check_name" "check_name" s_check_name a_check_name d_check_name)
    (n__law_leaf : PySem.W.nsIn K mainGlobals "_law_leaf" = some (some (.ref a__law_leaf)))
    (F__law_leaf : Fun K "_law_leaf" "_law_leaf" s__law_leaf a__law_leaf d__law_leaf)
    (n__law_box : PySem.W.nsIn K mainGlobals "_law_box" = some (some (.ref a__law_box)))
    (F__law_box : Fun K "_law_box" "_law_box" s__law_box a__law_box d__law_box)
    (n__law_errors_right : PySem.W.nsIn K mainGlobals "_law_errors_right" = some (some (.ref a__law_errors_right)))
    (F__law_errors_right : Fun K "_law_errors_right" "_law_errors_right" s__law_errors_right a__law_errors_right d__law_errors_right)
    (n_choose : PySem.W.nsIn K mainGlobals "choose" = some (some (.ref a_choose)))
    (F_choose : Fun K "choose" "choose" s_choose a_choose d_choose)
    (n__law_beside : PySem.W.nsIn K mainGlobals "_law_beside" = some (some (.ref a__law_beside)))
    (F__law_beside : Fun K "_law_beside" "_law_beside" s__law_beside a__law_beside d__law_beside)
    (n__law_boxes_right : PySem.W.nsIn K mainGlobals "_law_boxes_right" = some (some (.ref a__law_boxes_right)))
    (F__law_boxes_right : Fun K "_law_boxes_right" "_law_boxes_right" s__law_boxes_right a__law_boxes_right d__law_boxes_right)
    (n__law_thing : PySem.W.nsIn K mainGlobals "_law_thing" = some (some (.ref a__law_thing)))
    (F__law_thing : Fun K "_law_thing" "_law_thing" s__law_thing a__law_thing d__law_thing)
    (n__law_asked : PySem.W.nsIn K mainGlobals "_law_asked" = some (some (.ref a__law_asked)))
    (F__law_asked : Fun K "_law_asked" "_law_asked" s__law_asked a__law_asked d__law_asked)
    (n__law_forms_right : PySem.W.nsIn K mainGlobals "_law_forms_right" = some (some (.ref a__law_forms_right)))
    (F__law_forms_right : Fun K "_law_forms_right" "_law_forms_right" s__law_forms_right a__law_forms_right d__law_forms_right)
    (n_law : PySem.W.nsIn K mainGlobals "law" = some (some (.ref a_law)))
    (F_law : Fun K "law" "law" s_law a_law d_law) :
    ∃ fd : FuncData, (∀ (s : Shared) (u : Value), BindsTo s fd ⟨[u], []⟩ [("script", u)]) ∧ ∀ base : Heap, K.In base → base.Ns mainGlobals mg → (∃ o, base.get? sysModules = some o) → FnG l.prog w K mg base 7 fa fd ["script"] (spTrue K) := by
  have e := hfa.symm.trans (PySem.W.mg_of X G n_law)
  cases e
  have T : RawAll K mg L "LastError" [C0, C1, C2, C3, C4, C5, C6, C7, C8, C9, C10, C11, C12, C13, C14, C15, C16, C17, C18, C19, C20, C21] [I0, I1, I2, I3, I4, I5, I6, I7, I8, I9, I10, I11, I12, I13, I14, I15, I16, I17, I18, I19, I20, I21] nmsC qualsC fldN := ⟨rL, PySem.W.mg_of X G aL, by decide +kernel, ⟨rfl, rfl, rfl, rfl⟩, fun i hi => by
    have hi : i < 22 := hi
    match i, hi with
    | 0, _ => exact ⟨rC0, PySem.W.mg_of X G aC0⟩
    | 1, _ => exact ⟨rC1, PySem.W.mg_of X G aC1⟩
    | 2, _ => exact ⟨rC2, PySem.W.mg_of X G aC2⟩
    | 3, _ => exact ⟨rC3, PySem.W.mg_of X G aC3⟩
    | 4, _ => exact ⟨rC4, PySem.W.mg_of X G aC4⟩
    | 5, _ => exact ⟨rC5, PySem.W.mg_of X G aC5⟩
    | 6, _ => exact ⟨rC6, PySem.W.mg_of X G aC6⟩
    | 7, _ => exact ⟨rC7, PySem.W.mg_of X G aC7⟩
    | 8, _ => exact ⟨rC8, PySem.W.mg_of X G aC8⟩
    | 9, _ => exact ⟨rC9, PySem.W.mg_of X G aC9⟩
    | 10, _ => exact ⟨rC10, PySem.W.mg_of X G aC10⟩
    | 11, _ => exact ⟨rC11, PySem.W.mg_of X G aC11⟩
    | 12, _ => exact ⟨rC12, PySem.W.mg_of X G aC12⟩
    | 13, _ => exact ⟨rC13, PySem.W.mg_of X G aC13⟩
    | 14, _ => exact ⟨rC14, PySem.W.mg_of X G aC14⟩
    | 15, _ => exact ⟨rC15, PySem.W.mg_of X G aC15⟩
    | 16, _ => exact ⟨rC16, PySem.W.mg_of X G aC16⟩
    | 17, _ => exact ⟨rC17, PySem.W.mg_of X G aC17⟩
    | 18, _ => exact ⟨rC18, PySem.W.mg_of X G aC18⟩
    | 19, _ => exact ⟨rC19, PySem.W.mg_of X G aC19⟩
    | 20, _ => exact ⟨rC20, PySem.W.mg_of X G aC20⟩
    | 21, _ => exact ⟨rC21, PySem.W.mg_of X G aC21⟩
    | i + 22, hi => exact absurd hi (by omega), hn, ht⟩
  refine ⟨d_law, fun s u => ?_, fun base _ _ sy => ?_⟩
  · obtain ⟨oc, od, kV, doc, pm, an, cdv, ct, osl, rfl, lk, hcd⟩ := F_law.ex
    exact .of_eq rfl
  · exact chain (cn_of T sy (PySem.W.mg_none_of X G z_ValueError) (PySem.W.mg_none_of X G z_abs) (PySem.W.mg_none_of X G z_all) (PySem.W.mg_none_of X G z_bool) (PySem.W.mg_none_of X G z_enumerate) (PySem.W.mg_none_of X G z_int) (PySem.W.mg_none_of X G z_isinstance) (PySem.W.mg_none_of X G z_len) (PySem.W.mg_none_of X G z_list) (PySem.W.mg_none_of X G z_max) (PySem.W.mg_none_of X G z_min) (PySem.W.mg_none_of X G z_range) (PySem.W.mg_none_of X G z_repr) (PySem.W.mg_none_of X G z_reversed) (PySem.W.mg_none_of X G z_str) (PySem.W.mg_none_of X G z_tuple) ⟨_, PySem.W.mg_of X G g_SMALL_LETTERS⟩ ⟨_, PySem.W.mg_of X G g_NAME_SIGNS⟩ ⟨_, PySem.W.mg_of X G g_NAME_MOST⟩) ⟨⟨_, _, F_is_int, PySem.W.mg_of X G n_is_int, F_is_int.binds (ps := ["x"]) fun _ _ _ _ _ _ us hl => match us, hl with | [_], _ => rfl⟩⟩
      ⟨⟨_, _, F_is_row, PySem.W.mg_of X G n_is_row, F_is_row.binds (ps := ["x"]) fun _ _ _ _ _ _ us hl => match us, hl with | [_], _ => rfl⟩⟩
      ⟨⟨_, _, F_is_name, PySem.W.mg_of X G n_is_name, F_is_name.binds (ps := ["x"]) fun _ _ _ _ _ _ us hl => match us, hl with | [_], _ => rfl⟩⟩
      ⟨⟨_, _, F_dense_key, PySem.W.mg_of X G n_dense_key, F_dense_key.binds (ps := ["box"]) fun _ _ _ _ _ _ us hl => match us, hl with | [_], _ => rfl⟩⟩
      ⟨⟨_, _, F_is_less, PySem.W.mg_of X G n_is_less, F_is_less.binds (ps := ["u", "v"]) fun _ _ _ _ _ _ us hl => match us, hl with | [_, _], _ => rfl⟩⟩
      ⟨⟨_, _, F__law_deck, PySem.W.mg_of X G n__law_deck, F__law_deck.binds (ps := ["script"]) fun _ _ _ _ _ _ us hl => match us, hl with | [_], _ => rfl⟩⟩
      ⟨⟨_, _, F__law_pick, PySem.W.mg_of X G n__law_pick, F__law_pick.binds (ps := ["deck", "many"]) fun _ _ _ _ _ _ us hl => match us, hl with | [_, _], _ => rfl⟩⟩
      ⟨⟨_, _, F__law_is_whole, PySem.W.mg_of X G n__law_is_whole, F__law_is_whole.binds (ps := ["thing"]) fun _ _ _ _ _ _ us hl => match us, hl with | [_], _ => rfl⟩⟩
      ⟨⟨_, _, F__law_named, PySem.W.mg_of X G n__law_named, F__law_named.binds (ps := ["thing"]) fun _ _ _ _ _ _ us hl => match us, hl with | [_], _ => rfl⟩⟩
      ⟨⟨_, _, F__law_at_most, PySem.W.mg_of X G n__law_at_most, F__law_at_most.binds (ps := ["low", "high"]) fun _ _ _ _ _ _ us hl => match us, hl with | [_, _], _ => rfl⟩⟩
      ⟨⟨_, _, F__law_raise, PySem.W.mg_of X G n__law_raise, F__law_raise.binds (ps := ["which", "at"]) fun _ _ _ _ _ _ us hl => match us, hl with | [_, _], _ => rfl⟩⟩
      ⟨⟨_, _, F_plain_form, PySem.W.mg_of X G n_plain_form, F_plain_form.binds (ps := ["x"]) fun _ _ _ _ _ _ us hl => match us, hl with | [_], _ => rfl⟩⟩
      ⟨⟨_, _, F__law_great, PySem.W.mg_of X G n__law_great, F__law_great.binds (ps := ["deck"]) fun _ _ _ _ _ _ us hl => match us, hl with | [_], _ => rfl⟩⟩
      ⟨⟨_, _, F__law_text, PySem.W.mg_of X G n__law_text, F__law_text.binds (ps := ["deck"]) fun _ _ _ _ _ _ us hl => match us, hl with | [_], _ => rfl⟩⟩
      ⟨⟨_, _, F__law_bent_box, PySem.W.mg_of X G n__law_bent_box, F__law_bent_box.binds (ps := ["deck", "box"]) fun _ _ _ _ _ _ us hl => match us, hl with | [_, _], _ => rfl⟩⟩
      ⟨⟨_, _, F__law_classes, PySem.W.mg_of X G n__law_classes, F__law_classes.binds (ps := ["which", "at"]) fun _ _ _ _ _ _ us hl => match us, hl with | [_, _], _ => rfl⟩⟩
      ⟨⟨_, _, F__law_kept, PySem.W.mg_of X G n__law_kept, F__law_kept.binds (ps := ["which", "at"]) fun _ _ _ _ _ _ us hl => match us, hl with | [_, _], _ => rfl⟩⟩
      ⟨⟨_, _, F_check_number, PySem.W.mg_of X G n_check_number, F_check_number.binds (ps := ["x", "least"]) fun _ _ _ _ _ _ us hl => match us, hl with | [_, _], _ => rfl⟩⟩
      ⟨⟨_, _, F_check_name, PySem.W.mg_of X G n_check_name, F_check_name.binds (ps := ["x"]) fun _ _ _ _ _ _ us hl => match us, hl with | [_], _ => rfl⟩⟩
      ⟨⟨_, _, F__law_leaf, PySem.W.mg_of X G n__law_leaf, F__law_leaf.binds (ps := ["deck"]) fun _ _ _ _ _ _ us hl => match us, hl with | [_], _ => rfl⟩⟩
      ⟨⟨_, _, F__law_box, PySem.W.mg_of X G n__law_box, F__law_box.binds (ps := ["deck", "many"]) fun _ _ _ _ _ _ us hl => match us, hl with | [_, _], _ => rfl⟩⟩
      ⟨⟨_, _, F__law_errors_right, PySem.W.mg_of X G n__law_errors_right, F__law_errors_right.binds (ps := ["at"]) fun _ _ _ _ _ _ us hl => match us, hl with | [_], _ => rfl⟩⟩
      ⟨⟨_, _, F_choose, PySem.W.mg_of X G n_choose, F_choose.binds (ps := ["n", "k"]) fun _ _ _ _ _ _ us hl => match us, hl with | [_, _], _ => rfl⟩⟩
      ⟨⟨_, _, F__law_beside, PySem.W.mg_of X G n__law_beside, F__law_beside.binds (ps := ["deck"]) fun _ _ _ _ _ _ us hl => match us, hl with | [_], _ => rfl⟩⟩
      ⟨⟨_, _, F__law_boxes_right, PySem.W.mg_of X G n__law_boxes_right, F__law_boxes_right.binds (ps := ["deck"]) fun _ _ _ _ _ _ us hl => match us, hl with | [_], _ => rfl⟩⟩
      ⟨⟨_, _, F__law_thing, PySem.W.mg_of X G n__law_thing, F__law_thing.binds (ps := ["deck"]) fun _ _ _ _ _ _ us hl => match us, hl with | [_], _ => rfl⟩⟩
      ⟨⟨_, _, F__law_asked, PySem.W.mg_of X G n__law_asked, F__law_asked.binds (ps := ["door", "thing", "other"]) fun _ _ _ _ _ _ us hl => match us, hl with | [_, _, _], _ => rfl⟩⟩
      ⟨⟨_, _, F__law_forms_right, PySem.W.mg_of X G n__law_forms_right, F__law_forms_right.binds (ps := ["deck", "thing", "due"]) fun _ _ _ _ _ _ us hl => match us, hl with | [_, _, _], _ => rfl⟩⟩ F_law
end K04
open PySem PySem.W PyProof.Rows in
set_option maxRecDepth 100000 in
set_option maxHeartbeats 0 in
theorem PySem.Challenge.cw_bothatlast_k04_forms_and_errors_holds : PySem.Challenge.rw_bothatlast_k04_forms_and_errors.Holds := by
  w_on; o_law; k_head; (case hw => w_witness2)
  k_fill
  refine Vs.walk_true (l := PySem.Challenge.rw_bothatlast_k04_forms_and_errors) (k := 7) (x := "script") rfl (by decide) rfl ⟨rfl, by decide, by decide⟩ (by decide +kernel) (fun w h Y => PySem.W.kIn_of Y) ?F
  case F =>
    intro w mg fa h KX G hmg
    refine' K04.all_mk KX G hmg ?aL ?rL ?aC0 ?rC0 ?aC1 ?rC1 ?aC2 ?rC2 ?aC3 ?rC3 ?aC4 ?rC4 ?aC5 ?rC5 ?aC6 ?rC6 ?aC7 ?rC7 ?aC8 ?rC8 ?aC9 ?rC9 ?aC10 ?rC10 ?aC11 ?rC11 ?aC12 ?rC12 ?aC13 ?rC13 ?aC14 ?rC14 ?aC15 ?rC15 ?aC16 ?rC16 ?aC17 ?rC17 ?aC18 ?rC18 ?aC19 ?rC19 ?aC20 ?rC20 ?aC21 ?rC21 ?hn ?ht ?z_ValueError ?z_abs ?z_all ?z_bool ?z_enumerate ?z_int ?z_isinstance ?z_len ?z_list ?z_max ?z_min ?z_range ?z_repr ?z_reversed ?z_str ?z_tuple ?g_SMALL_LETTERS ?g_NAME_SIGNS ?g_NAME_MOST ?n_is_int ?F_is_int ?n_is_row ?F_is_row ?n_is_name ?F_is_name ?n_dense_key ?F_dense_key ?n_is_less ?F_is_less ?n__law_deck ?F__law_deck ?n__law_pick ?F__law_pick ?n__law_is_whole ?F__law_is_whole ?n__law_named ?F__law_named ?n__law_at_most ?F__law_at_most ?n__law_raise ?F__law_raise ?n_plain_form ?F_plain_form ?n__law_great ?F__law_great ?n__law_text ?F__law_text ?n__law_bent_box ?F__law_bent_box ?n__law_classes ?F__law_classes ?n__law_kept ?F__law_kept ?n_check_number ?F_check_number ?n_check_name ?F_check_name ?n__law_leaf ?F__law_leaf ?n__law_box ?F__law_box ?n__law_errors_right ?F__law_errors_right ?n_choose ?F_choose ?n__law_beside ?F__law_beside ?n__law_boxes_right ?F__law_boxes_right ?n__law_thing ?F__law_thing ?n__law_asked ?F__law_asked ?n__law_forms_right ?F__law_forms_right ?n_law ?F_law
    (case aL => k_is)
    (case rL => refine' Vs.rawL_mk ?x; (case x => k_is))
    (case aC0 => k_is)
    (case rC0 => refine' Vs.rawE_mk ⟨6, 17, 6, 21⟩ ⟨6, 23, 6, 25⟩ ⟨7, 8, 7, 12⟩ ⟨7, 8, 7, 15⟩ ⟨7, 18, 7, 20⟩ ⟨7, 8, 7, 20⟩ (by constructor) ?x ?sa ?ga ?gg ?no ?ic ?tc ?kc ?ha ?li ?ci; (case x => k_is); (case sa => k_is); (case ga => k_is); (case gg => k_is); (case no => k_is); (case ic => k_is); (case tc => k_is); (case kc => k_is); (case ha => k_is); (case li => k_is); (case ci => k_is))
    (case aC1 => k_is)
    (case rC1 => refine' Vs.rawE_mk ⟨10, 17, 10, 21⟩ ⟨10, 23, 10, 25⟩ ⟨11, 8, 11, 12⟩ ⟨11, 8, 11, 15⟩ ⟨11, 18, 11, 20⟩ ⟨11, 8, 11, 20⟩ (by constructor) ?x ?sa ?ga ?gg ?no ?ic ?tc ?kc ?ha ?li ?ci; (case x => k_is); (case sa => k_is); (case ga => k_is); (case gg => k_is); (case no => k_is); (case ic => k_is); (case tc => k_is); (case kc => k_is); (case ha => k_is); (case li => k_is); (case ci => k_is))
    (case aC2 => k_is)
    (case rC2 => refine' Vs.rawE_mk ⟨14, 17, 14, 21⟩ ⟨14, 23, 14, 25⟩ ⟨15, 8, 15, 12⟩ ⟨15, 8, 15, 15⟩ ⟨15, 18, 15, 20⟩ ⟨15, 8, 15, 20⟩ (by constructor) ?x ?sa ?ga ?gg ?no ?ic ?tc ?kc ?ha ?li ?ci; (case x => k_is); (case sa => k_is); (case ga => k_is); (case gg => k_is); (case no => k_is); (case ic => k_is); (case tc => k_is); (case kc => k_is); (case ha => k_is); (case li => k_is); (case ci => k_is))
    (case aC3 => k_is)
    (case rC3 => refine' Vs.rawE_mk ⟨18, 17, 18, 21⟩ ⟨18, 23, 18, 25⟩ ⟨19, 8, 19, 12⟩ ⟨19, 8, 19, 15⟩ ⟨19, 18, 19, 20⟩ ⟨19, 8, 19, 20⟩ (by constructor) ?x ?sa ?ga ?gg ?no ?ic ?tc ?kc ?ha ?li ?ci; (case x => k_is); (case sa => k_is); (case ga => k_is); (case gg => k_is); (case no => k_is); (case ic => k_is); (case tc => k_is); (case kc => k_is); (case ha => k_is); (case li => k_is); (case ci => k_is))
    (case aC4 => k_is)
    (case rC4 => refine' Vs.rawE_mk ⟨22, 17, 22, 21⟩ ⟨22, 23, 22, 25⟩ ⟨23, 8, 23, 12⟩ ⟨23, 8, 23, 15⟩ ⟨23, 18, 23, 20⟩ ⟨23, 8, 23, 20⟩ (by constructor) ?x ?sa ?ga ?gg ?no ?ic ?tc ?kc ?ha ?li ?ci; (case x => k_is); (case sa => k_is); (case ga => k_is); (case gg => k_is); (case no => k_is); (case ic => k_is); (case tc => k_is); (case kc => k_is); (case ha => k_is); (case li => k_is); (case ci => k_is))
    (case aC5 => k_is)
    (case rC5 => refine' Vs.rawE_mk ⟨26, 17, 26, 21⟩ ⟨26, 23, 26, 25⟩ ⟨27, 8, 27, 12⟩ ⟨27, 8, 27, 15⟩ ⟨27, 18, 27, 20⟩ ⟨27, 8, 27, 20⟩ (by constructor) ?x ?sa ?ga ?gg ?no ?ic ?tc ?kc ?ha ?li ?ci; (case x => k_is); (case sa => k_is); (case ga => k_is); (case gg => k_is); (case no => k_is); (case ic => k_is); (case tc => k_is); (case kc => k_is); (case ha => k_is); (case li => k_is); (case ci => k_is))
    (case aC6 => k_is)
    (case rC6 => refine' Vs.rawE_mk ⟨30, 17, 30, 21⟩ ⟨30, 23, 30, 25⟩ ⟨31, 8, 31, 12⟩ ⟨31, 8, 31, 15⟩ ⟨31, 18, 31, 20⟩ ⟨31, 8, 31, 20⟩ (by constructor) ?x ?sa ?ga ?gg ?no ?ic ?tc ?kc ?ha ?li ?ci; (case x => k_is); (case sa => k_is); (case ga => k_is); (case gg => k_is); (case no => k_is); (case ic => k_is); (case tc => k_is); (case kc => k_is); (case ha => k_is); (case li => k_is); (case ci => k_is))
    (case aC7 => k_is)
    (case rC7 => refine' Vs.rawE_mk ⟨34, 17, 34, 21⟩ ⟨34, 23, 34, 25⟩ ⟨35, 8, 35, 12⟩ ⟨35, 8, 35, 15⟩ ⟨35, 18, 35, 20⟩ ⟨35, 8, 35, 20⟩ (by constructor) ?x ?sa ?ga ?gg ?no ?ic ?tc ?kc ?ha ?li ?ci; (case x => k_is); (case sa => k_is); (case ga => k_is); (case gg => k_is); (case no => k_is); (case ic => k_is); (case tc => k_is); (case kc => k_is); (case ha => k_is); (case li => k_is); (case ci => k_is))
    (case aC8 => k_is)
    (case rC8 => refine' Vs.rawE_mk ⟨38, 17, 38, 21⟩ ⟨38, 23, 38, 25⟩ ⟨39, 8, 39, 12⟩ ⟨39, 8, 39, 15⟩ ⟨39, 18, 39, 20⟩ ⟨39, 8, 39, 20⟩ (by constructor) ?x ?sa ?ga ?gg ?no ?ic ?tc ?kc ?ha ?li ?ci; (case x => k_is); (case sa => k_is); (case ga => k_is); (case gg => k_is); (case no => k_is); (case ic => k_is); (case tc => k_is); (case kc => k_is); (case ha => k_is); (case li => k_is); (case ci => k_is))
    (case aC9 => k_is)
    (case rC9 => refine' Vs.rawE_mk ⟨42, 17, 42, 21⟩ ⟨42, 23, 42, 25⟩ ⟨43, 8, 43, 12⟩ ⟨43, 8, 43, 15⟩ ⟨43, 18, 43, 20⟩ ⟨43, 8, 43, 20⟩ (by constructor) ?x ?sa ?ga ?gg ?no ?ic ?tc ?kc ?ha ?li ?ci; (case x => k_is); (case sa => k_is); (case ga => k_is); (case gg => k_is); (case no => k_is); (case ic => k_is); (case tc => k_is); (case kc => k_is); (case ha => k_is); (case li => k_is); (case ci => k_is))
    (case aC10 => k_is)
    (case rC10 => refine' Vs.rawE_mk ⟨46, 17, 46, 21⟩ ⟨46, 23, 46, 25⟩ ⟨47, 8, 47, 12⟩ ⟨47, 8, 47, 15⟩ ⟨47, 18, 47, 20⟩ ⟨47, 8, 47, 20⟩ (by constructor) ?x ?sa ?ga ?gg ?no ?ic ?tc ?kc ?ha ?li ?ci; (case x => k_is); (case sa => k_is); (case ga => k_is); (case gg => k_is); (case no => k_is); (case ic => k_is); (case tc => k_is); (case kc => k_is); (case ha => k_is); (case li => k_is); (case ci => k_is))
    (case aC11 => k_is)
    (case rC11 => refine' Vs.rawE_mk ⟨50, 17, 50, 21⟩ ⟨50, 23, 50, 25⟩ ⟨51, 8, 51, 12⟩ ⟨51, 8, 51, 15⟩ ⟨51, 18, 51, 20⟩ ⟨51, 8, 51, 20⟩ (by constructor) ?x ?sa ?ga ?gg ?no ?ic ?tc ?kc ?ha ?li ?ci; (case x => k_is); (case sa => k_is); (case ga => k_is); (case gg => k_is); (case no => k_is); (case ic => k_is); (case tc => k_is); (case kc => k_is); (case ha => k_is); (case li => k_is); (case ci => k_is))
    (case aC12 => k_is)
    (case rC12 => refine' Vs.rawE_mk ⟨54, 17, 54, 21⟩ ⟨54, 23, 54, 25⟩ ⟨55, 8, 55, 12⟩ ⟨55, 8, 55, 15⟩ ⟨55, 18, 55, 20⟩ ⟨55, 8, 55, 20⟩ (by constructor) ?x ?sa ?ga ?gg ?no ?ic ?tc ?kc ?ha ?li ?ci; (case x => k_is); (case sa => k_is); (case ga => k_is); (case gg => k_is); (case no => k_is); (case ic => k_is); (case tc => k_is); (case kc => k_is); (case ha => k_is); (case li => k_is); (case ci => k_is))
    (case aC13 => k_is)
    (case rC13 => refine' Vs.rawE_mk ⟨58, 17, 58, 21⟩ ⟨58, 23, 58, 25⟩ ⟨59, 8, 59, 12⟩ ⟨59, 8, 59, 15⟩ ⟨59, 18, 59, 20⟩ ⟨59, 8, 59, 20⟩ (by constructor) ?x ?sa ?ga ?gg ?no ?ic ?tc ?kc ?ha ?li ?ci; (case x => k_is); (case sa => k_is); (case ga => k_is); (case gg => k_is); (case no => k_is); (case ic => k_is); (case tc => k_is); (case kc => k_is); (case ha => k_is); (case li => k_is); (case ci => k_is))
    (case aC14 => k_is)
    (case rC14 => refine' Vs.rawE_mk ⟨62, 17, 62, 21⟩ ⟨62, 23, 62, 25⟩ ⟨63, 8, 63, 12⟩ ⟨63, 8, 63, 15⟩ ⟨63, 18, 63, 20⟩ ⟨63, 8, 63, 20⟩ (by constructor) ?x ?sa ?ga ?gg ?no ?ic ?tc ?kc ?ha ?li ?ci; (case x => k_is); (case sa => k_is); (case ga => k_is); (case gg => k_is); (case no => k_is); (case ic => k_is); (case tc => k_is); (case kc => k_is); (case ha => k_is); (case li => k_is); (case ci => k_is))
    (case aC15 => k_is)
    (case rC15 => refine' Vs.rawE_mk ⟨66, 17, 66, 21⟩ ⟨66, 23, 66, 25⟩ ⟨67, 8, 67, 12⟩ ⟨67, 8, 67, 15⟩ ⟨67, 18, 67, 20⟩ ⟨67, 8, 67, 20⟩ (by constructor) ?x ?sa ?ga ?gg ?no ?ic ?tc ?kc ?ha ?li ?ci; (case x => k_is); (case sa => k_is); (case ga => k_is); (case gg => k_is); (case no => k_is); (case ic => k_is); (case tc => k_is); (case kc => k_is); (case ha => k_is); (case li => k_is); (case ci => k_is))
    (case aC16 => k_is)
    (case rC16 => refine' Vs.rawE_mk ⟨70, 17, 70, 21⟩ ⟨70, 23, 70, 25⟩ ⟨71, 8, 71, 12⟩ ⟨71, 8, 71, 15⟩ ⟨71, 18, 71, 20⟩ ⟨71, 8, 71, 20⟩ (by constructor) ?x ?sa ?ga ?gg ?no ?ic ?tc ?kc ?ha ?li ?ci; (case x => k_is); (case sa => k_is); (case ga => k_is); (case gg => k_is); (case no => k_is); (case ic => k_is); (case tc => k_is); (case kc => k_is); (case ha => k_is); (case li => k_is); (case ci => k_is))
    (case aC17 => k_is)
    (case rC17 => refine' Vs.rawE_mk ⟨74, 17, 74, 21⟩ ⟨74, 23, 74, 25⟩ ⟨75, 8, 75, 12⟩ ⟨75, 8, 75, 15⟩ ⟨75, 18, 75, 20⟩ ⟨75, 8, 75, 20⟩ (by constructor) ?x ?sa ?ga ?gg ?no ?ic ?tc ?kc ?ha ?li ?ci; (case x => k_is); (case sa => k_is); (case ga => k_is); (case gg => k_is); (case no => k_is); (case ic => k_is); (case tc => k_is); (case kc => k_is); (case ha => k_is); (case li => k_is); (case ci => k_is))
    (case aC18 => k_is)
    (case rC18 => refine' Vs.rawE_mk ⟨78, 17, 78, 21⟩ ⟨78, 23, 78, 25⟩ ⟨79, 8, 79, 12⟩ ⟨79, 8, 79, 15⟩ ⟨79, 18, 79, 20⟩ ⟨79, 8, 79, 20⟩ (by constructor) ?x ?sa ?ga ?gg ?no ?ic ?tc ?kc ?ha ?li ?ci; (case x => k_is); (case sa => k_is); (case ga => k_is); (case gg => k_is); (case no => k_is); (case ic => k_is); (case tc => k_is); (case kc => k_is); (case ha => k_is); (case li => k_is); (case ci => k_is))
    (case aC19 => k_is)
    (case rC19 => refine' Vs.rawE_mk ⟨82, 17, 82, 21⟩ ⟨82, 23, 82, 25⟩ ⟨83, 8, 83, 12⟩ ⟨83, 8, 83, 15⟩ ⟨83, 18, 83, 20⟩ ⟨83, 8, 83, 20⟩ (by constructor) ?x ?sa ?ga ?gg ?no ?ic ?tc ?kc ?ha ?li ?ci; (case x => k_is); (case sa => k_is); (case ga => k_is); (case gg => k_is); (case no => k_is); (case ic => k_is); (case tc => k_is); (case kc => k_is); (case ha => k_is); (case li => k_is); (case ci => k_is))
    (case aC20 => k_is)
    (case rC20 => refine' Vs.rawE_mk ⟨86, 17, 86, 21⟩ ⟨86, 23, 86, 27⟩ ⟨87, 8, 87, 12⟩ ⟨87, 8, 87, 17⟩ ⟨87, 20, 87, 24⟩ ⟨87, 8, 87, 24⟩ (by constructor) ?x ?sa ?ga ?gg ?no ?ic ?tc ?kc ?ha ?li ?ci; (case x => k_is); (case sa => k_is); (case ga => k_is); (case gg => k_is); (case no => k_is); (case ic => k_is); (case tc => k_is); (case kc => k_is); (case ha => k_is); (case li => k_is); (case ci => k_is))
    (case aC21 => k_is)
    (case rC21 => refine' Vs.rawE_mk ⟨90, 17, 90, 21⟩ ⟨90, 23, 90, 28⟩ ⟨91, 8, 91, 12⟩ ⟨91, 8, 91, 18⟩ ⟨91, 21, 91, 26⟩ ⟨91, 8, 91, 26⟩ (by constructor) ?x ?sa ?ga ?gg ?no ?ic ?tc ?kc ?ha ?li ?ci; (case x => k_is); (case sa => k_is); (case ga => k_is); (case gg => k_is); (case no => k_is); (case ic => k_is); (case tc => k_is); (case kc => k_is); (case ha => k_is); (case li => k_is); (case ci => k_is))
    (case hn => k_is)
    (case ht => k_is)
    (case z_ValueError => k_is)
    (case z_abs => k_is)
    (case z_all => k_is)
    (case z_bool => k_is)
    (case z_enumerate => k_is)
    (case z_int => k_is)
    (case z_isinstance => k_is)
    (case z_len => k_is)
    (case z_list => k_is)
    (case z_max => k_is)
    (case z_min => k_is)
    (case z_range => k_is)
    (case z_repr => k_is)
    (case z_reversed => k_is)
    (case z_str => k_is)
    (case z_tuple => k_is)
    (case g_SMALL_LETTERS => k_is)
    (case g_NAME_SIGNS => k_is)
    (case g_NAME_MOST => k_is)
    (case n_is_int => k_is)
    (case F_is_int => refine' L2.fun_mk ?l ?c ?k; (case l => k_is); (case c => k_is); (case k => k_is))
    (case n_is_row => k_is)
    (case F_is_row => refine' L2.fun_mk ?l ?c ?k; (case l => k_is); (case c => k_is); (case k => k_is))
    (case n_is_name => k_is)
    (case F_is_name => refine' L2.fun_mk ?l ?c ?k; (case l => k_is); (case c => k_is); (case k => k_is))
    (case n_dense_key => k_is)
    (case F_dense_key => refine' L2.fun_mk ?l ?c ?k; (case l => k_is); (case c => k_is); (case k => k_is))
    (case n_is_less => k_is)
    (case F_is_less => refine' L2.fun_mk ?l ?c ?k; (case l => k_is); (case c => k_is); (case k => k_is))
    (case n__law_deck => k_is)
    (case F__law_deck => refine' L2.fun_mk ?l ?c ?k; (case l => k_is); (case c => k_is); (case k => k_is))
    (case n__law_pick => k_is)
    (case F__law_pick => refine' L2.fun_mk ?l ?c ?k; (case l => k_is); (case c => k_is); (case k => k_is))
    (case n__law_is_whole => k_is)
    (case F__law_is_whole => refine' L2.fun_mk ?l ?c ?k; (case l => k_is); (case c => k_is); (case k => k_is))
    (case n__law_named => k_is)
    (case F__law_named => refine' L2.fun_mk ?l ?c ?k; (case l => k_is); (case c => k_is); (case k => k_is))
    (case n__law_at_most => k_is)
    (case F__law_at_most => refine' L2.fun_mk ?l ?c ?k; (case l => k_is); (case c => k_is); (case k => k_is))
    (case n__law_raise => k_is)
    (case F__law_raise => refine' L2.fun_mk ?l ?c ?k; (case l => k_is); (case c => k_is); (case k => k_is))
    (case n_plain_form => k_is)
    (case F_plain_form => refine' L2.fun_mk ?l ?c ?k; (case l => k_is); (case c => k_is); (case k => k_is))
    (case n__law_great => k_is)
    (case F__law_great => refine' L2.fun_mk ?l ?c ?k; (case l => k_is); (case c => k_is); (case k => k_is))
    (case n__law_text => k_is)
    (case F__law_text => refine' L2.fun_mk ?l ?c ?k; (case l => k_is); (case c => k_is); (case k => k_is))
    (case n__law_bent_box => k_is)
    (case F__law_bent_box => refine' L2.fun_mk ?l ?c ?k; (case l => k_is); (case c => k_is); (case k => k_is))
    (case n__law_classes => k_is)
    (case F__law_classes => refine' L2.fun_mk ?l ?c ?k; (case l => k_is); (case c => k_is); (case k => k_is))
    (case n__law_kept => k_is)
    (case F__law_kept => refine' L2.fun_mk ?l ?c ?k; (case l => k_is); (case c => k_is); (case k => k_is))
    (case n_check_number => k_is)
    (case F_check_number => refine' L2.fun_mk ?l ?c ?k; (case l => k_is); (case c => k_is); (case k => k_is))
    (case n_check_name => k_is)
    (case F_check_name => refine' L2.fun_mk ?l ?c ?k; (case l => k_is); (case c => k_is); (case k => k_is))
    (case n__law_leaf => k_is)
    (case F__law_leaf => refine' L2.fun_mk ?l ?c ?k; (case l => k_is); (case c => k_is); (case k => k_is))
    (case n__law_box => k_is)
    (case F__law_box => refine' L2.fun_mk ?l ?c ?k; (case l => k_is); (case c => k_is); (case k => k_is))
    (case n__law_errors_right => k_is)
    (case F__law_errors_right => refine' L2.fun_mk ?l ?c ?k; (case l => k_is); (case c => k_is); (case k => k_is))
    (case n_choose => k_is)
    (case F_choose => refine' L2.fun_mk ?l ?c ?k; (case l => k_is); (case c => k_is); (case k => k_is))
    (case n__law_beside => k_is)
    (case F__law_beside => refine' L2.fun_mk ?l ?c ?k; (case l => k_is); (case c => k_is); (case k => k_is))
    (case n__law_boxes_right => k_is)
    (case F__law_boxes_right => refine' L2.fun_mk ?l ?c ?k; (case l => k_is); (case c => k_is); (case k => k_is))
    (case n__law_thing => k_is)
    (case F__law_thing => refine' L2.fun_mk ?l ?c ?k; (case l => k_is); (case c => k_is); (case k => k_is))
    (case n__law_asked => k_is)
    (case F__law_asked => refine' L2.fun_mk ?l ?c ?k; (case l => k_is); (case c => k_is); (case k => k_is))
    (case n__law_forms_right => k_is)
    (case F__law_forms_right => refine' L2.fun_mk ?l ?c ?k; (case l => k_is); (case c => k_is); (case k => k_is))
    (case n_law => k_is)
    (case F_law => refine' L2.fun_mk ?l ?c ?k; (case l => k_is); (case c => k_is); (case k => k_is))
