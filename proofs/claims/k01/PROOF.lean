import PyProof.Rows.All
import Wide.All
import OpenK.AllK
import Wide.FinOn
import HandS.ForMost
import HandS.TupAny
import HandS.TupLe
import HandS.SortInts
import HandS.AnyAll
import HandS.Flow
import HandS.More
import HandS.Conv
import HandS.TupSets
import HandS.IsInst
import HandS.Style
import HandS.ForExc
import HandS.Nested
import PyProof.Rows.SumGenD
import HandS.Wide
import HandS.Ends
import HandS.EndTab
import PySem.Challenge.RW_enoughaloft_k01_tables
set_option Elab.async false
set_option linter.all false
set_option autoImplicit true
set_option maxRecDepth 100000
set_option maxHeartbeats 4000000
/-! EvA: data, slots, the relation between a body's state and plain data. -/
namespace Ev
open PySem PySem.Spec PyProof.Rows L2

abbrev D := PyData
mutual
/-- a value that is plain data; its tuples are tracked -/
inductive Rep (K : PySem.W.Frag) (H : Hp) : V → D → Prop
  | non : Rep K H .non .none
  | bl (b : Bool) : Rep K H (.bl b) (.bool b)
  | int (i : Int) : Rep K H (.int i) (.int i)
  | str (x : Str) : Rep K H (.str x) (.str x)
  | lst {a : Addr} {xs : List V} {ds : List PyData} : SqL K H a xs → Reps K H xs ds → Rep K H (.ref a) (.list ds)
  | tup {a : Addr} {xs : List V} {ds : List PyData} : H a = some (.tup xs) → Reps K H xs ds → Rep K H (.ref a) (.tuple ds)
inductive Reps (K : PySem.W.Frag) (H : Hp) : List V → List D → Prop
  | nil : Reps K H [] []
  | cons {v : V} {vs : List V} {d : PyData} {ds : List PyData} : Rep K H v d → Reps K H vs ds → Reps K H (v :: vs) (d :: ds)
end
mutual
theorem Rep.dp {K : PySem.W.Frag} {H : Hp} : ∀ {v : V} {d : D}, Rep K H v d → Dp K H v d
  | _, _, .non => .non
  | _, _, .bl b => .bl b
  | _, _, .int i => .int i
  | _, _, .str x => .str x
  | _, _, .lst h r => .lst h r.dps
  | _, _, .tup h r => .tup (SqT.of h) r.dps
theorem Reps.dps {K : PySem.W.Frag} {H : Hp} : ∀ {vs : List V} {ds : List D}, Reps K H vs ds → DpAll K H vs ds
  | _, _, .nil => .nil
  | _, _, .cons h r => .cons h.dp r.dps
end

section
variable {K : PySem.W.Frag} {H H' : Hp}
mutual
theorem rep_mono (e : Same H H') : ∀ {v : V} {d : D}, Rep K H v d → Rep K H' v d
  | _, _, .non => .non
  | _, _, .bl b => .bl b
  | _, _, .int i => .int i
  | _, _, .str x => .str x
  | _, _, .lst h r => .lst (e.seq h) (reps_mono e r)
  | _, _, .tup h r => .tup (e _ _ h) (reps_mono e r)
theorem reps_mono (e : Same H H') : ∀ {vs : List V} {ds : List D}, Reps K H vs ds → Reps K H' vs ds
  | _, _, .nil => .nil
  | _, _, .cons h r => .cons (rep_mono e h) (reps_mono e r)
end
theorem Reps.len : ∀ {vs : List V} {ds : List D}, Reps K H vs ds → vs.length = ds.length
  | _, _, .nil => rfl
  | _, _, .cons _ r => by rw [List.length_cons, List.length_cons, Reps.len r]
theorem Reps.get : ∀ {vs : List V} {ds : List D} {i : Nat} {d : D}, Reps K H vs ds → ds[i]? = some d → ∃ v, vs[i]? = some v ∧ Rep K H v d
  | _, _, _, _, .nil, e => by simp at e
  | _, _, 0, _, .cons h _, e => by simp at e; subst e; exact ⟨_, rfl, h⟩
  | _, _, i + 1, _, .cons _ r, e => by
    obtain ⟨v, e1, h⟩ := Reps.get (i := i) r (by simpa using e)
    exact ⟨v, by simpa using e1, h⟩
theorem Reps.getV : ∀ {vs : List V} {ds : List D} {i : Nat} {v : V}, Reps K H vs ds → vs[i]? = some v → ∃ d, ds[i]? = some d ∧ Rep K H v d
  | _, _, _, _, .nil, e => by simp at e
  | _, _, 0, _, .cons h _, e => by simp at e; subst e; exact ⟨_, rfl, h⟩
  | _, _, i + 1, _, .cons _ r, e => by
    obtain ⟨v, e1, h⟩ := Reps.getV (i := i) r (by simpa using e)
    exact ⟨v, by simpa using e1, h⟩
theorem Reps.app : ∀ {vs : List V} {ds : List D} {ws : List V} {es : List D}, Reps K H vs ds → Reps K H ws es → Reps K H (vs ++ ws) (ds ++ es)
  | _, _, _, _, .nil, r => r
  | _, _, _, _, .cons h t, r => .cons h (Reps.app t r)
theorem Reps.split : ∀ {ds : List D} {vs : List V} {ws : List V} {es : List D}, vs.length = ds.length → Reps K H (vs ++ ws) (ds ++ es) → Reps K H vs ds ∧ Reps K H ws es
  | [], [], _, _, _, r => ⟨.nil, r⟩
  | d :: ds, v :: vs, _, _, l, .cons h r => by
    obtain ⟨a, b⟩ := Reps.split (ds := ds) (vs := vs) (by simpa using l) r
    exact ⟨.cons h a, b⟩
  | [], _ :: _, _, _, l, _ => by simp at l
  | _ :: _, [], _, _, l, _ => by simp at l
theorem Reps.set : ∀ {vs : List V} {ds : List D} {v : V} {d : D} (i : Nat), Reps K H vs ds → Rep K H v d → Reps K H (vs.set i v) (ds.set i d)
  | _, _, _, _, _, .nil, _ => .nil
  | _, _, _, _, 0, .cons _ r, h => .cons h r
  | _, _, _, _, i + 1, .cons h' r, h => .cons h' (Reps.set i r h)
theorem Reps.drop : ∀ {vs : List V} {ds : List D} (i : Nat), Reps K H vs ds → Reps K H (vs.drop i) (ds.drop i)
  | _, _, 0, r => r
  | _, _, _ + 1, .nil => .nil
  | _, _, i + 1, .cons _ r => Reps.drop i r
theorem Reps.take : ∀ {vs : List V} {ds : List D} (i : Nat), Reps K H vs ds → Reps K H (vs.take i) (ds.take i)
  | _, _, 0, _ => .nil
  | _, _, _ + 1, .nil => .nil
  | _, _, i + 1, .cons h r => .cons h (Reps.take i r)
theorem Reps.rev : ∀ {vs : List V} {ds : List D}, Reps K H vs ds → Reps K H vs.reverse ds.reverse
  | _, _, .nil => .nil
  | _, _, .cons h r => by
    rw [List.reverse_cons, List.reverse_cons]
    exact (Reps.rev r).app (.cons h .nil)
theorem reps_ints : ∀ (ns : List Int), Reps K H (ns.map V.int) (ns.map PyData.int)
  | [] => .nil
  | n :: r => .cons (.int n) (reps_ints r)
theorem reps_ints_inv : ∀ {ns : List Int} {vs : List V}, Reps K H vs (ns.map PyData.int) → vs = ns.map V.int
  | [], _, .nil => rfl
  | n :: r, _, .cons h t => by cases h; rw [reps_ints_inv t]; rfl
end

/-! ### objects that a name owns -/
inductive Ob where
  | L (xs : List D)
  | K (kvs : List (Key × D))
  | T (kvs : List (List Key × D))
def ObR (K : PySem.W.Frag) (Hh : Hp) : HO → Ob → Prop
  | .lst vs, .L xs => Reps K Hh vs xs
  | .dK kvs, .K kds => kvs.map (·.1) = kds.map (·.1) ∧ Reps K Hh (kvs.map (·.2)) (kds.map (·.2))
  | .dT kvs, .T kds => kvs.map (·.1) = kds.map (·.1) ∧ Reps K Hh (kvs.map (·.2)) (kds.map (·.2))
  | _, _ => False
theorem ObR.mono {K : PySem.W.Frag} {H H' : Hp} (e : Same H H') : ∀ {ho : HO} {o : Ob}, ObR K H ho o → ObR K H' ho o := by
  intro ho o h
  cases ho <;> cases o <;> first
    | exact False.elim h
    | exact reps_mono e h
    | exact ⟨h.1, reps_mono e h.2⟩
theorem ObR.L_inv {K : PySem.W.Frag} {H : Hp} {ho : HO} {xs : List D} (h : ObR K H ho (.L xs)) : ∃ vs, ho = .lst vs ∧ Reps K H vs xs := by
  cases ho <;> first
    | exact False.elim h
    | exact ⟨_, rfl, h⟩
theorem ObR.K_inv {K : PySem.W.Frag} {H : Hp} {ho : HO} {kds : List (Key × D)} (h : ObR K H ho (.K kds)) : ∃ kvs, ho = .dK kvs ∧ kvs.map (·.1) = kds.map (·.1) ∧ Reps K H (kvs.map (·.2)) (kds.map (·.2)) := by
  cases ho <;> first
    | exact False.elim h
    | exact ⟨_, rfl, h⟩
theorem ObR.T_inv {K : PySem.W.Frag} {H : Hp} {ho : HO} {kds : List (List Key × D)} (h : ObR K H ho (.T kds)) : ∃ kvs, ho = .dT kvs ∧ kvs.map (·.1) = kds.map (·.1) ∧ Reps K H (kvs.map (·.2)) (kds.map (·.2)) := by
  cases ho <;> first
    | exact False.elim h
    | exact ⟨_, rfl, h⟩
theorem ObR.notTup {K : PySem.W.Frag} {H : Hp} {xs : List V} {o : Ob} (h : ObR K H (.tup xs) o) : False := by
  cases o <;> exact h

/-- what a slot holds -/
inductive Sl where
  | dat (d : D)
  | ob (o : Ob)
abbrev Sd := List (Option Sl)

/-- a code object's table: it may grow -/
def isTbl : HO → Bool
  | .tbl _ => true
  | _ => false
theorem isTbl_of {o : HO} (h : isTbl o = true) : ∃ ps, o = .tbl ps := by
  cases o <;> first
    | exact ⟨_, rfl⟩
    | cases h
open Classical in
/-- what data may lie in: all but what is hidden, and no tables -/
noncomputable def hid (M : Addr → Prop) (H : Hp) : Hp := fun a => if M a then none else (H a).bind fun o => if isTbl o = true then none else some o
theorem hid_some {M : Addr → Prop} {H : Hp} {a : Addr} {o : HO} : hid M H a = some o ↔ ¬ M a ∧ H a = some o ∧ isTbl o = false := by
  unfold hid
  by_cases h : M a
  · simp [h]
  · rw [if_neg h]
    cases q : H a with
    | none => simp
    | some u =>
      cases t : isTbl u
      · simp only [Option.bind_some, t, Bool.false_eq_true, if_false, Option.some.injEq, h, not_false_eq_true, true_and]
        exact ⟨fun e => ⟨e, e ▸ t⟩, fun e => e.1⟩
      · simp only [Option.bind_some, t, if_true, h, not_false_eq_true, true_and, Option.some.injEq]
        exact ⟨fun e => (by cases e), fun e => by rw [← e.1, t] at e; cases e.2⟩
/-- what stood stands; tables may have grown -/
def GoT (x y : Option HO) : Prop := ∀ o, x = some o → (isTbl o = false → y = some o) ∧ ∀ ps, o = .tbl ps → ∃ qs : Array Value, y = some (.tbl qs) ∧ (TriplesOk ps.toList → TriplesOk qs.toList)
theorem GoT.rfl {x : Option HO} : GoT x x := fun o e => ⟨fun _ => e, fun ps q => ⟨ps, by rw [e, q], id⟩⟩
theorem GoT.none {y : Option HO} : GoT none y := fun o e => by cases e
theorem GoT.trans {x y z : Option HO} (h : GoT x y) (h' : GoT y z) : GoT x z := fun o e => by
  obtain ⟨h1, h2⟩ := h o e
  refine ⟨fun t => (h' o (h1 t)).1 t, fun ps q => ?_⟩
  obtain ⟨qs, e2, g⟩ := h2 ps q
  obtain ⟨rs, e3, g'⟩ := (h' _ e2).2 qs _root_.rfl
  exact ⟨rs, e3, fun t => g' (g t)⟩
theorem GoT.ne {x y : Option HO} (h : GoT x y) (e : x ≠ Option.none) : y ≠ Option.none := by
  cases q : x with
  | none => exact absurd q e
  | some o =>
    cases t : isTbl o
    · rw [(h o q).1 t]; intro z; cases z
    · obtain ⟨ps, e1⟩ := isTbl_of t
      obtain ⟨qs, e2, _⟩ := (h o q).2 ps e1
      rw [e2]; intro z; cases z
theorem GoT.none_of {x y : Option HO} (h : GoT x y) (e : y = Option.none) : x = Option.none := Classical.byContradiction fun z => h.ne z e
theorem GoT.at {x y : Option HO} {o : HO} (h : GoT x y) (t : isTbl o = false) (e : x = some o) : y = some o := (h o e).1 t
def SameT (H H' : Hp) : Prop := ∀ a, GoT (H a) (H' a)
theorem SameT.of {H H' : Hp} (e : Same H H') : SameT H H' := fun a o q => ⟨fun _ => e a o q, fun ps z => ⟨ps, by rw [e a o q, z], id⟩⟩
theorem SameT.trans {H H' H2 : Hp} (e : SameT H H') (e' : SameT H' H2) : SameT H H2 := fun a => (e a).trans (e' a)
/-- not a tuple, and there -/
def isTup : HO → Bool
  | .tup _ => true
  | _ => false
def NT (H : Hp) (a : Addr) : Prop := ∃ o, H a = some o ∧ isTup o = false
theorem NT.ne {H : Hp} {a : Addr} (h : NT H a) : H a ≠ none := by
  obtain ⟨o, e, _⟩ := h
  rw [e]
  intro z
  cases z
theorem NT.same {H H' : Hp} {a : Addr} (e : SameT H H') (h : NT H a) : NT H' a := by
  obtain ⟨o, q, t⟩ := h
  cases z : isTbl o
  · exact ⟨o, (e a).at z q, t⟩
  · obtain ⟨ps, e1⟩ := isTbl_of z
    obtain ⟨qs, e2, _⟩ := (e a o q).2 ps e1
    exact ⟨_, e2, rfl⟩
theorem ObR.nt {K : PySem.W.Frag} {Hh : Hp} {ho : HO} {o : Ob} (h : ObR K Hh ho o) : isTup ho = false := by
  cases ho <;> cases o <;> first
    | exact False.elim h
    | rfl
theorem ObR.ntb {K : PySem.W.Frag} {Hh : Hp} {ho : HO} {o : Ob} (h : ObR K Hh ho o) : isTbl ho = false := by
  cases ho <;> cases o <;> first
    | exact False.elim h
    | rfl
theorem hid_same {M M' : Addr → Prop} {H H' : Hp} (hm : ∀ a o, H a = some o → M' a → M a) (hs : ∀ a o, ¬ M a → isTbl o = false → H a = some o → H' a = some o) : Same (hid M H) (hid M' H') := fun a o h => by
  rw [hid_some] at h ⊢
  exact ⟨fun z => h.1 (hm a o h.2.1 z), hs a o h.1 h.2.2 h.2.1, h.2.2⟩

/-- what is hidden from data: others' objects and the slots' own -/
def Hd (M0 : Addr → Prop) (ow : Nat → Option Addr) : Addr → Prop := fun a => M0 a ∨ ∃ i, ow i = some a

def SlotR (K : PySem.W.Frag) (Hh : Hp) (H : Hp) (x : Option (Option V)) (w : Option Addr) : Sl → Prop
  | .dat d => ∃ v, x = some (some v) ∧ Rep K Hh v d
  | .ob o => ∃ a ho, x = some (some (.ref a)) ∧ w = some a ∧ H a = some ho ∧ ObR K Hh ho o
theorem SlotR.mono {K : PySem.W.Frag} {Hh Hh' H H' : Hp} {x : Option (Option V)} {w : Option Addr} (e : Same Hh Hh') (hw : ∀ a o, w = some a → isTbl o = false → H a = some o → H' a = some o) : ∀ {s : Sl}, SlotR K Hh H x w s → SlotR K Hh' H' x w s
  | .dat _, ⟨v, h, r⟩ => ⟨v, h, rep_mono e r⟩
  | .ob _, ⟨a, ho, h1, h2, h3, h4⟩ => ⟨a, ho, h1, h2, hw a ho h2 h4.ntb h3, h4.mono e⟩

structure RelW (K : PySem.W.Frag) (HF : Hp) (M0 : Addr → Prop) (PA : Nat → Option V) (ow : Nat → Option Addr) (σ : L2.St) (H : Hp) (sd : Sd) (pv : List V) (pd : List D) : Prop where
  fr : SameT HF H
  m0 : ∀ a, M0 a → NT HF a
  inj : ∀ i j a, ow i = some a → ow j = some a → i = j
  out : ∀ i a, ow i = some a → HF a = none ∧ NT H a
  pin : ∀ i v, PA i = some v → σ[i]? = some (some v)
  sl : ∀ i s, sd[i]? = some (some s) → SlotR K (hid (Hd M0 ow) H) H σ[i]? (ow i) s
  pend : Reps K (hid (Hd M0 ow) H) pv pd
def RelP (K : PySem.W.Frag) (HF : Hp) (M0 : Addr → Prop) (PA : Nat → Option V) (σ : L2.St) (H : Hp) (sd : Sd) (pv : List V) (pd : List D) : Prop := ∃ ow, RelW K HF M0 PA ow σ H sd pv pd

section
variable {K : PySem.W.Frag} {HF H H' : Hp} {M0 : Addr → Prop} {PA : Nat → Option V} {ow : Nat → Option Addr} {σ : L2.St} {sd : Sd} {pv vs : List V} {pd ds : List D} {v : V} {d : D} {p : Addr}

theorem Hd.nt (R : RelW K HF M0 PA ow σ H sd pv pd) {a : Addr} (h : Hd M0 ow a) : NT H a := by
  rcases h with h | ⟨i, h⟩
  · exact (R.m0 a h).same R.fr
  · exact (R.out i a h).2
theorem Hd.def (R : RelW K HF M0 PA ow σ H sd pv pd) {a : Addr} (h : Hd M0 ow a) : H a ≠ none := (Hd.nt R h).ne
/-- a tuple is hidden by none -/
theorem tup_vis (R : RelW K HF M0 PA ow σ H sd pv pd) {a : Addr} {us : List V} (h : H a = some (.tup us)) : hid (Hd M0 ow) H a = some (.tup us) := by
  refine hid_some.mpr ⟨fun z => ?_, h, rfl⟩
  obtain ⟨o, e, t⟩ := Hd.nt R z
  rw [h] at e
  cases e
  cases t
/-- the heap has grown -/
theorem RelP.stepT (R : RelP K HF M0 PA σ H sd pv pd) (e : SameT H H') : RelP K HF M0 PA σ H' sd pv pd := by
  obtain ⟨ow, R⟩ := R
  have hm : ∀ a o, H a = some o → Hd M0 ow a → Hd M0 ow a := fun _ _ _ z => z
  have eh : Same (hid (Hd M0 ow) H) (hid (Hd M0 ow) H') := fun a o h => by
    rw [hid_some] at h ⊢
    exact ⟨h.1, (e a).at h.2.2 h.2.1, h.2.2⟩
  refine ⟨ow, R.fr.trans e, R.m0, R.inj, fun i a h => ⟨(R.out i a h).1, (R.out i a h).2.same e⟩, R.pin, fun i s h => (R.sl i s h).mono eh fun a o _ t h => (e a).at t h, reps_mono eh R.pend⟩
theorem RelP.step (R : RelP K HF M0 PA σ H sd pv pd) (e : Same H H') : RelP K HF M0 PA σ H' sd pv pd := R.stepT (.of e)
/-- a pending value is dropped; others in its place -/
theorem RelP.pend (R : RelP K HF M0 PA σ H sd pv pd) (h : ∀ Hh, Reps K Hh pv pd → Reps K Hh vs ds) : RelP K HF M0 PA σ H sd vs ds := by
  obtain ⟨ow, R⟩ := R
  exact ⟨ow, R.fr, R.m0, R.inj, R.out, R.pin, R.sl, h _ R.pend⟩
theorem RelP.drop (R : RelP K HF M0 PA σ H sd (v :: pv) (d :: pd)) : RelP K HF M0 PA σ H sd pv pd := R.pend fun _ h => by cases h; assumption
/-- facts about what is pending, at the whole heap -/
theorem RelP.at (R : RelP K HF M0 PA σ H sd pv pd) : Reps K H pv pd := by
  obtain ⟨ow, R⟩ := R
  exact reps_mono (fun a o h => (hid_some.mp h).2.1) R.pend
/-- a new object that is data -/
theorem RelP.new {o : HO} (R : RelP K HF M0 PA σ H sd (vs ++ pv) (ds ++ pd)) (hl : vs.length = ds.length) (hp : H p = none)
    (h : ∀ Hh, Hh p = some o → Reps K Hh vs ds → Rep K Hh (.ref p) d) (ht : isTbl o = false := by rfl) : RelP K HF M0 PA σ (upd H p o) sd (.ref p :: pv) (d :: pd) := by
  have e : Same H (upd H p o) := fun a u q => by rw [upd_ne (ne_of_none q hp)]; exact q
  obtain ⟨ow, R1⟩ := R.step e
  obtain ⟨ow0, R0⟩ := R
  obtain ⟨r1, r2⟩ := Reps.split hl R1.pend
  -- p is hidden by none
  refine ⟨ow0, R0.fr.trans (.of e), R0.m0, R0.inj, fun i a h => ⟨(R0.out i a h).1, (R0.out i a h).2.same (.of e)⟩, R0.pin, fun i s q => (R0.sl i s q).mono (hid_same (fun _ _ _ z => z) fun a o _ _ h => e a o h) fun a o _ _ h => e a o h, ?_⟩
  · have eh : Same (hid (Hd M0 ow0) H) (hid (Hd M0 ow0) (upd H p o)) := hid_same (fun _ _ _ z => z) fun a u _ _ h => e a u h
    obtain ⟨s1, s2⟩ := Reps.split hl (reps_mono eh R0.pend)
    exact .cons (h _ (hid_some.mpr ⟨fun z => Hd.def R0 z hp, upd_same, ht⟩) s1) s2
/-- a name read -/
theorem RelP.read {i : Nat} (R : RelP K HF M0 PA σ H sd pv pd) (h : sd[i]? = some (some (.dat d))) : ∃ v, σ[i]? = some (some v) ∧ RelP K HF M0 PA σ H sd (v :: pv) (d :: pd) := by
  obtain ⟨ow, R⟩ := R
  obtain ⟨v, e, r⟩ := R.sl i _ h
  exact ⟨v, e, ow, R.fr, R.m0, R.inj, R.out, R.pin, R.sl, .cons r R.pend⟩
theorem set_get {α : Type} {l : List α} {i j : Nat} {x y : α} (h : (l.set i x)[j]? = some y) : (j = i ∧ y = x) ∨ (j ≠ i ∧ l[j]? = some y) := by
  by_cases e : i = j
  · subst e
    by_cases hl : i < l.length
    · rw [List.getElem?_set_self hl] at h
      exact .inl ⟨rfl, (Option.some.inj h).symm⟩
    · rw [List.getElem?_eq_none (by simpa using hl)] at h; cases h
  · rw [List.getElem?_set_ne e] at h
    exact .inr ⟨fun z => e z.symm, h⟩
/-- a slot forgotten -/
theorem RelP.forget (i : Nat) (R : RelP K HF M0 PA σ H sd pv pd) : RelP K HF M0 PA σ H (sd.set i none) pv pd := by
  obtain ⟨ow, R⟩ := R
  refine ⟨ow, R.fr, R.m0, R.inj, R.out, R.pin, fun j s h => ?_, R.pend⟩
  rcases set_get h with ⟨_, z⟩ | ⟨_, q⟩
  · cases z
  · exact R.sl j s q
/-- a list that a name owns becomes data -/
theorem RelP.freeze {i : Nat} {xs : List D} (R : RelP K HF M0 PA σ H sd pv pd) (h : sd[i]? = some (some (.ob (.L xs)))) :
    ∃ a, σ[i]? = some (some (.ref a)) ∧ RelP K HF M0 PA σ H (sd.set i (some (.dat (.list xs)))) (.ref a :: pv) (.list xs :: pd) := by
  obtain ⟨ow, R⟩ := R
  obtain ⟨a, ho, e1, e2, e3, e4⟩ := R.sl i _ h
  obtain ⟨vs, rfl, r⟩ := e4.L_inv
  let ow' : Nat → Option Addr := fun j => if j = i then none else ow j
  have hsub : ∀ b, Hd M0 ow' b → Hd M0 ow b := fun b z => by
    rcases z with z | ⟨j, z⟩
    · exact .inl z
    · refine .inr ⟨j, ?_⟩
      show ow j = some b
      have z' : (if j = i then none else ow j) = some b := z
      by_cases q : j = i
      · rw [if_pos q] at z'; cases z'
      · rw [if_neg q] at z'; exact z'
  have hna : ¬ Hd M0 ow' a := fun z => by
    rcases z with z | ⟨j, z⟩
    · exact (R.m0 a z).ne (R.out i a e2).1
    · have z' : (if j = i then none else ow j) = some a := z
      by_cases q : j = i
      · rw [if_pos q] at z'; cases z'
      · rw [if_neg q] at z'; exact q (R.inj j i a z' e2)
  have eh : Same (hid (Hd M0 ow) H) (hid (Hd M0 ow') H) := hid_same (fun b o _ z => hsub b z) fun _ _ _ _ h => h
  have rep : Rep K (hid (Hd M0 ow') H) (.ref a) (.list xs) := .lst (.inl (.inl (hid_some.mpr ⟨hna, e3, rfl⟩))) (reps_mono eh r)
  have owj : ∀ j b, ow' j = some b → j ≠ i ∧ ow j = some b := fun j b z => by
    have z' : (if j = i then none else ow j) = some b := z
    by_cases q : j = i
    · rw [if_pos q] at z'; cases z'
    · rw [if_neg q] at z'; exact ⟨q, z'⟩
  refine ⟨a, e1, ow', R.fr, R.m0, fun j k b h1 h2 => R.inj j k b (owj j b h1).2 (owj k b h2).2, fun j b z => R.out j b (owj j b z).2, R.pin, fun j s q => ?_, .cons rep (reps_mono eh R.pend)⟩
  rcases set_get q with ⟨rfl, z⟩ | ⟨hne, q⟩
  · cases z
    exact ⟨_, e1, rep⟩
  · have e := R.sl j s q
    have eo : ow' j = ow j := if_neg hne
    rw [eo]
    exact e.mono eh fun _ _ _ _ h => h
/-- a name set to data -/
theorem RelP.set {i : Nat} (R : RelP K HF M0 PA σ H sd (v :: pv) (d :: pd)) (hi : i < σ.length) (hp : PA i = none) : RelP K HF M0 PA (σ.set i (some v)) H (sd.set i (some (.dat d))) pv pd := by
  obtain ⟨ow, R⟩ := R
  cases R.pend with
  | cons r rs =>
    refine ⟨ow, R.fr, R.m0, R.inj, R.out, fun j w h => ?_, fun j s h => ?_, rs⟩
    · have : i ≠ j := fun e => by subst e; rw [hp] at h; cases h
      rw [List.getElem?_set_ne this]
      exact R.pin j w h
    · rcases set_get h with ⟨rfl, z⟩ | ⟨hne, q⟩
      · cases z
        exact ⟨v, List.getElem?_set_self hi, r⟩
      · rw [List.getElem?_set_ne (Ne.symm hne)]
        exact R.sl j s q
end
end Ev

/-! EvB: new objects, objects read and changed, calls. -/
namespace Ev
open PySem PySem.Spec PyProof.Rows L2

/-- a result: data, or a new object that nothing else refers to -/
inductive Rv where
  | val (d : D)
  | fresh (o : Ob)

def FrR (K : PySem.W.Frag) (HF : Hp) (M0 : Addr → Prop) (PA : Nat → Option V) (σ : L2.St) (H : Hp) (sd : Sd) (v : V) (o : Ob) (pv : List V) (pd : List D) : Prop :=
  ∃ p ho ws es, v = .ref p ∧ HF p = none ∧ (∀ a, M0 a → NT HF a) ∧ ws.length = es.length ∧ (∀ Hh, Reps K Hh ws es → ObR K Hh ho o) ∧ RelP K (upd HF p ho) (fun a => M0 a ∨ a = p) PA σ H sd (ws ++ pv) (es ++ pd)
def RelR (K : PySem.W.Frag) (HF : Hp) (M0 : Addr → Prop) (PA : Nat → Option V) (σ : L2.St) (H : Hp) (sd : Sd) (v : V) (r : Rv) (pv : List V) (pd : List D) : Prop :=
  match r with
  | .val d => RelP K HF M0 PA σ H sd (v :: pv) (d :: pd)
  | .fresh o => FrR K HF M0 PA σ H sd v o pv pd

section
variable {K : PySem.W.Frag} {HF H H' : Hp} {M0 : Addr → Prop} {PA : Nat → Option V} {ow : Nat → Option Addr} {σ σ2 : L2.St} {sd sd2 : Sd} {pv vs ws : List V} {pd ds es : List D} {v : V} {d : D} {p a : Addr} {ho : HO} {o : Ob}

theorem fr_drop (h : SameT (upd HF p ho) H) (hp : HF p = none) : SameT HF H := fun a => by
  by_cases e : a = p
  · rw [e, hp]; exact GoT.none
  · have := h a
    rw [upd_ne e] at this
    exact this
theorem same_new (hp : H p = none) : Same H (upd H p ho) := fun a u q => by rw [upd_ne (ne_of_none q hp)]; exact q
/-- a new object that nothing else refers to -/
theorem FrR.mk (R : RelP K HF M0 PA σ H sd (ws ++ pv) (es ++ pd)) (hl : ws.length = es.length) (hp : H p = none) (h : ∀ Hh, Reps K Hh ws es → ObR K Hh ho o) : FrR K HF M0 PA σ (upd H p ho) sd (.ref p) o pv pd := by
  have hpF : HF p = none := by
    obtain ⟨ow, R⟩ := R
    exact (R.fr p).none_of hp
  have e := same_new (ho := ho) hp
  obtain ⟨ow, R⟩ := R
  refine ⟨p, ho, ws, es, rfl, hpF, R.m0, hl, h, ow, fun a => ?_, fun a z => ?_, R.inj, fun i a z => ?_, R.pin, fun i s q => ?_, ?_⟩
  · by_cases ha : a = p
    · subst ha; rw [upd_same, upd_same]; exact GoT.rfl
    · rw [upd_ne ha, upd_ne ha]; exact R.fr a
  · rcases z with z | z
    · have : a ≠ p := fun q => (R.m0 a z).ne (q ▸ hpF)
      obtain ⟨u, e1, t⟩ := R.m0 a z
      exact ⟨u, by rw [upd_ne this]; exact e1, t⟩
    · exact ⟨ho, by rw [z, upd_same], (h _ (Reps.split hl R.pend).1).nt⟩
  · have ne : a ≠ p := fun q => (R.out i a z).2.ne (q ▸ hp)
    rw [upd_ne ne]
    exact ⟨(R.out i a z).1, (R.out i a z).2.same (.of e)⟩
  · have eh : Same (hid (Hd M0 ow) H) (hid (Hd (fun a => M0 a ∨ a = p) ow) (upd H p ho)) := hid_same (fun b u hb z => by
      rcases z with (z | z) | z
      · exact .inl z
      · rw [z, hp] at hb; cases hb
      · exact .inr z) fun b u _ _ hb => e b u hb
    exact (R.sl i s q).mono eh fun b u _ _ hb => e b u hb
  · have eh : Same (hid (Hd M0 ow) H) (hid (Hd (fun a => M0 a ∨ a = p) ow) (upd H p ho)) := hid_same (fun b u hb z => by
      rcases z with (z | z) | z
      · exact .inl z
      · rw [z, hp] at hb; cases hb
      · exact .inr z) fun b u _ _ hb => e b u hb
    exact reps_mono eh R.pend
/-- .. becomes data -/
theorem FrR.frz {xs : List D} (F : FrR K HF M0 PA σ H sd v (.L xs) pv pd) : RelP K HF M0 PA σ H sd (v :: pv) (.list xs :: pd) := by
  obtain ⟨p, ho, ws, es, rfl, hpF, hm, hl, h, ow, R⟩ := F
  obtain ⟨r1, r2⟩ := Reps.split hl R.pend
  obtain ⟨us, rfl, r⟩ := (h _ r1).L_inv
  have nowp : ∀ i, ow i ≠ some p := fun i z => by
    have := (R.out i p z).1
    rw [upd_same] at this; cases this
  have hnp : ¬ Hd M0 ow p := fun z => by
    rcases z with z | ⟨i, z⟩
    · exact (hm p z).ne hpF
    · exact nowp i z
  have eh : Same (hid (Hd (fun a => M0 a ∨ a = p) ow) H) (hid (Hd M0 ow) H) := hid_same (fun b u _ z => by
    rcases z with z | z
    · exact .inl (.inl z)
    · exact .inr z) fun _ _ _ _ q => q
  have hHp : H p = some (.lst us) := (R.fr p).at rfl upd_same
  refine ⟨ow, fr_drop R.fr hpF, hm, R.inj, fun i a z => ?_, R.pin, fun i s q => (R.sl i s q).mono eh fun _ _ _ _ q => q, .cons (.lst (.inl (.inl (hid_some.mpr ⟨hnp, hHp, rfl⟩))) (reps_mono eh r)) (reps_mono eh r2)⟩
  have ne : a ≠ p := fun q => nowp i (q ▸ z)
  have := R.out i a z
  rw [upd_ne ne] at this
  exact this
/-- .. is owned by a name -/
theorem FrR.own {i : Nat} (F : FrR K HF M0 PA σ H sd v o pv pd) (hi : i < σ.length) (hpin : PA i = none) : RelP K HF M0 PA (σ.set i (some v)) H (sd.set i (some (.ob o))) pv pd := by
  obtain ⟨p, ho, ws, es, rfl, hpF, hm, hl, h, ow, R⟩ := F
  obtain ⟨r1, r2⟩ := Reps.split hl R.pend
  have nowp : ∀ i, ow i ≠ some p := fun i z => by
    have := (R.out i p z).1
    rw [upd_same] at this; cases this
  let ow' : Nat → Option Addr := fun j => if j = i then some p else ow j
  have owj : ∀ j b, ow' j = some b → (j = i ∧ b = p) ∨ (j ≠ i ∧ ow j = some b) := fun j b z => by
    have z' : (if j = i then some p else ow j) = some b := z
    by_cases q : j = i
    · rw [if_pos q] at z'; exact .inl ⟨q, (Option.some.inj z').symm⟩
    · rw [if_neg q] at z'; exact .inr ⟨q, z'⟩
  have hHp : H p = some ho := (R.fr p).at (h _ r1).ntb upd_same
  have eh : Same (hid (Hd (fun a => M0 a ∨ a = p) ow) H) (hid (Hd M0 ow') H) := hid_same (fun b u _ z => by
    rcases z with z | ⟨j, z⟩
    · exact .inl (.inl z)
    · rcases owj j b z with ⟨_, q⟩ | ⟨_, q⟩
      · exact .inl (.inr q)
      · exact .inr ⟨j, q⟩) fun _ _ _ _ q => q
  refine ⟨ow', fr_drop R.fr hpF, hm, fun j k b h1 h2 => ?_, fun j b z => ?_, fun j w q => ?_, fun j s q => ?_, reps_mono eh r2⟩
  · rcases owj j b h1 with ⟨e1, e2⟩ | ⟨e1, e2⟩
    · rcases owj k b h2 with ⟨e3, e4⟩ | ⟨e3, e4⟩
      · rw [e1, e3]
      · exact absurd (e2 ▸ e4) (nowp k)
    · rcases owj k b h2 with ⟨e3, e4⟩ | ⟨e3, e4⟩
      · exact absurd (e4 ▸ e2) (nowp j)
      · exact R.inj j k b e2 e4
  · rcases owj j b z with ⟨_, q⟩ | ⟨_, q⟩
    · rw [q]; exact ⟨hpF, ⟨ho, hHp, (h _ r1).nt⟩⟩
    · have ne : b ≠ p := fun e => nowp j (e ▸ q)
      have := R.out j b q
      rw [upd_ne ne] at this
      exact this
  · have : i ≠ j := fun e => by subst e; rw [hpin] at q; cases q
    rw [List.getElem?_set_ne this]
    exact R.pin j w q
  · rcases set_get q with ⟨rfl, z⟩ | ⟨hne, q⟩
    · cases z
      exact ⟨p, ho, List.getElem?_set_self hi, if_pos rfl, hHp, (h _ (reps_mono eh r1))⟩
    · rw [List.getElem?_set_ne (Ne.symm hne)]
      have e : ow' j = ow j := if_neg hne
      rw [e]
      exact (R.sl j s q).mono eh fun _ _ _ _ q => q
/-- fewer names -/
theorem RelP.sub (R : RelP K HF M0 PA σ H sd pv pd) (hs : ∀ (i : Nat) s, sd2[i]? = some (some s) → sd[i]? = some (some s) ∧ σ2[i]? = σ[i]?) (hp : ∀ (i : Nat) v, PA i = some v → σ2[i]? = some (some v)) : RelP K HF M0 PA σ2 H sd2 pv pd := by
  obtain ⟨ow, R⟩ := R
  refine ⟨ow, R.fr, R.m0, R.inj, R.out, hp, fun i s q => ?_, R.pend⟩
  obtain ⟨e1, e2⟩ := hs i s q
  rw [e2]
  exact R.sl i s e1
theorem FrR.sub (F : FrR K HF M0 PA σ H sd v o pv pd) (hs : ∀ (i : Nat) s, sd2[i]? = some (some s) → sd[i]? = some (some s) ∧ σ2[i]? = σ[i]?) (hp : ∀ (i : Nat) v, PA i = some v → σ2[i]? = some (some v)) : FrR K HF M0 PA σ2 H sd2 v o pv pd := by
  obtain ⟨p, ho, ws, es, e, hpF, hm, hl, h, R⟩ := F
  exact ⟨p, ho, ws, es, e, hpF, hm, hl, h, R.sub hs hp⟩
theorem RelR.sub {r : Rv} (F : RelR K HF M0 PA σ H sd v r pv pd) (hs : ∀ (i : Nat) s, sd2[i]? = some (some s) → sd[i]? = some (some s) ∧ σ2[i]? = σ[i]?) (hp : ∀ (i : Nat) v, PA i = some v → σ2[i]? = some (some v)) : RelR K HF M0 PA σ2 H sd2 v r pv pd := by
  cases r with
  | val d => exact RelP.sub F hs hp
  | fresh o => exact FrR.sub F hs hp
theorem FrR.step (F : FrR K HF M0 PA σ H sd v o pv pd) (e : SameT H H') : FrR K HF M0 PA σ H' sd v o pv pd := by
  obtain ⟨p, ho, ws, es, e1, hpF, hm, hl, h, R⟩ := F
  exact ⟨p, ho, ws, es, e1, hpF, hm, hl, h, R.stepT e⟩
theorem FrR.pend (F : FrR K HF M0 PA σ H sd v o pv pd) (h : ∀ Hh, Reps K Hh pv pd → Reps K Hh vs ds) : FrR K HF M0 PA σ H sd v o vs ds := by
  obtain ⟨p, ho, ws, es, e, hpF, hm, hl, h', R⟩ := F
  refine ⟨p, ho, ws, es, e, hpF, hm, hl, h', R.pend fun Hh r => ?_⟩
  obtain ⟨r1, r2⟩ := Reps.split hl r
  exact r1.app (h Hh r2)
/-- an owned list, read -/
theorem RelP.peekL {i : Nat} {xs : List D} (R : RelP K HF M0 PA σ H sd pv pd) (h : sd[i]? = some (some (.ob (.L xs)))) : ∃ a us, σ[i]? = some (some (.ref a)) ∧ H a = some (.lst us) ∧ us.length = xs.length ∧ RelP K HF M0 PA σ H sd (us ++ pv) (xs ++ pd) := by
  obtain ⟨ow, R⟩ := R
  obtain ⟨a, ho, e1, e2, e3, e4⟩ := R.sl i _ h
  obtain ⟨us, rfl, r⟩ := e4.L_inv
  exact ⟨a, us, e1, e3, r.len, ow, R.fr, R.m0, R.inj, R.out, R.pin, R.sl, r.app R.pend⟩
theorem RelP.peekK {i : Nat} {kds : List (Key × D)} (R : RelP K HF M0 PA σ H sd pv pd) (h : sd[i]? = some (some (.ob (.K kds)))) : ∃ a kvs, σ[i]? = some (some (.ref a)) ∧ H a = some (.dK kvs) ∧ kvs.map (·.1) = kds.map (·.1) ∧ RelP K HF M0 PA σ H sd (kvs.map (·.2) ++ pv) (kds.map (·.2) ++ pd) := by
  obtain ⟨ow, R⟩ := R
  obtain ⟨a, ho, e1, e2, e3, e4⟩ := R.sl i _ h
  obtain ⟨us, rfl, e5, r⟩ := e4.K_inv
  exact ⟨a, us, e1, e3, e5, ow, R.fr, R.m0, R.inj, R.out, R.pin, R.sl, r.app R.pend⟩
theorem RelP.peekT {i : Nat} {kds : List (List Key × D)} (R : RelP K HF M0 PA σ H sd pv pd) (h : sd[i]? = some (some (.ob (.T kds)))) : ∃ a kvs, σ[i]? = some (some (.ref a)) ∧ H a = some (.dT kvs) ∧ kvs.map (·.1) = kds.map (·.1) ∧ RelP K HF M0 PA σ H sd (kvs.map (·.2) ++ pv) (kds.map (·.2) ++ pd) := by
  obtain ⟨ow, R⟩ := R
  obtain ⟨a, ho, e1, e2, e3, e4⟩ := R.sl i _ h
  obtain ⟨us, rfl, e5, r⟩ := e4.T_inv
  exact ⟨a, us, e1, e3, e5, ow, R.fr, R.m0, R.inj, R.out, R.pin, R.sl, r.app R.pend⟩
/-- an owned object is changed -/
theorem RelP.mut {i : Nat} {o' : Ob} (R : RelP K HF M0 PA σ H sd (ws ++ pv) (es ++ pd)) (hl : ws.length = es.length) (h : sd[i]? = some (some (.ob o))) (ha : σ[i]? = some (some (.ref a))) (hn : ∀ Hh, Reps K Hh ws es → ObR K Hh ho o') :
    RelP K HF M0 PA σ (upd H a ho) (sd.set i (some (.ob o'))) pv pd := by
  obtain ⟨ow, R⟩ := R
  obtain ⟨b, ho0, e1, e2, e3, e4⟩ := R.sl i _ h
  have eb : b = a := by rw [ha] at e1; injection e1 with e1; injection e1 with e1; injection e1 with e1; exact e1.symm
  subst eb
  obtain ⟨r1, r2⟩ := Reps.split hl R.pend
  have hha : Hd M0 ow b := .inr ⟨i, e2⟩
  have eh : Same (hid (Hd M0 ow) H) (hid (Hd M0 ow) (upd H b ho)) := hid_same (fun _ _ _ z => z) fun c u hc _ q => by
    have : c ≠ b := fun z => hc (z ▸ hha)
    rw [upd_ne this]; exact q
  refine ⟨ow, fun c => ?_, R.m0, R.inj, fun j c z => ⟨(R.out j c z).1, ?_⟩, R.pin, fun j s q => ?_, reps_mono eh r2⟩
  · by_cases z : c = b
    · rw [z, (R.out i b e2).1]; exact GoT.none
    · rw [upd_ne z]; exact R.fr c
  · by_cases hc : c = b
    · subst hc; exact ⟨ho, upd_same, (hn _ r1).nt⟩
    · obtain ⟨u, q1, q2⟩ := (R.out j c z).2
      exact ⟨u, by rw [upd_ne hc]; exact q1, q2⟩
  · rcases set_get q with ⟨rfl, z⟩ | ⟨hne, q⟩
    · cases z
      exact ⟨b, ho, e1, e2, upd_same, hn _ (reps_mono eh r1)⟩
    · refine (R.sl j s q).mono eh fun c u hc _ hu => ?_
      have : c ≠ b := fun z => by subst z; exact hne (R.inj j i c hc e2)
      rw [upd_ne this]; exact hu

/-- an owned object is given away -/
theorem RelP.take {i : Nat} (R : RelP K HF M0 PA σ H sd pv pd) (h : sd[i]? = some (some (.ob o))) (hp : PA i = none) : ∃ a, σ[i]? = some (some (.ref a)) ∧ FrR K HF M0 PA σ H (sd.set i none) (.ref a) o pv pd := by
  obtain ⟨ow, R⟩ := R
  obtain ⟨a, ho, e1, e2, e3, e4⟩ := R.sl i _ h
  obtain ⟨ws, es, hl, hob, hr⟩ : ∃ (ws : List V) (es : List D), ws.length = es.length ∧ (∀ Hh, Reps K Hh ws es → ObR K Hh ho o) ∧ Reps K (hid (Hd M0 ow) H) ws es := by
    cases o with
    | L xs =>
      obtain ⟨vs, rfl, r⟩ := e4.L_inv
      exact ⟨vs, xs, r.len, fun _ r => r, r⟩
    | K kds =>
      obtain ⟨kvs, rfl, e, r⟩ := e4.K_inv
      exact ⟨_, _, r.len, fun _ r => ⟨e, r⟩, r⟩
    | T kds =>
      obtain ⟨kvs, rfl, e, r⟩ := e4.T_inv
      exact ⟨_, _, r.len, fun _ r => ⟨e, r⟩, r⟩
  have hF := (R.out i a e2).1
  let ow' : Nat → Option Addr := fun j => if j = i then none else ow j
  have owj : ∀ j b, ow' j = some b → j ≠ i ∧ ow j = some b := fun j b z => by
    have z' : (if j = i then none else ow j) = some b := z
    by_cases q : j = i
    · rw [if_pos q] at z'; cases z'
    · rw [if_neg q] at z'; exact ⟨q, z'⟩
  have eh : Same (hid (Hd M0 ow) H) (hid (Hd (fun b => M0 b ∨ b = a) ow') H) := hid_same (fun b u _ z => by
    rcases z with (z | z) | ⟨j, z⟩
    · exact .inl z
    · exact .inr ⟨i, by rw [z]; exact e2⟩
    · exact .inr ⟨j, (owj j b z).2⟩) fun _ _ _ _ q => q
  refine ⟨a, e1, a, ho, ws, es, rfl, hF, R.m0, hl, hob, ow', fun b => ?_, fun b z => ?_, fun j k b h1 h2 => R.inj j k b (owj j b h1).2 (owj k b h2).2, fun j b z => ?_, R.pin, fun j s q => ?_, (reps_mono eh hr).app (reps_mono eh R.pend)⟩
  · by_cases hb : b = a
    · subst hb; rw [upd_same, e3]; exact GoT.rfl
    · rw [upd_ne hb]; exact R.fr b
  · by_cases hb : b = a
    · subst hb; exact ⟨ho, upd_same, e4.nt⟩
    · rcases z with z | z
      · obtain ⟨u, q1, q2⟩ := R.m0 b z
        exact ⟨u, by rw [upd_ne hb]; exact q1, q2⟩
      · exact absurd z hb
  · obtain ⟨h1, h2⟩ := owj j b z
    have hb : b ≠ a := fun e => h1 (R.inj j i b h2 (e ▸ e2))
    rw [upd_ne hb]
    exact R.out j b h2
  · rcases set_get q with ⟨_, z⟩ | ⟨hne, q⟩
    · cases z
    · have e : ow' j = ow j := if_neg hne
      rw [e]
      exact (R.sl j s q).mono eh fun _ _ _ _ q => q
end

/-! ### calls -/
/-- an argument: data, or an object that a slot owns, handed on -/
inductive Ar where
  | dat (d : D)
  | slot (i : Nat)
/-- the callee's view of an argument -/
def Ar.sl (sd : Sd) : Ar → Option Sl
  | .dat d => some (.dat d)
  | .slot i => match sd[i]? with
    | some (some (.ob o)) => some (.ob o)
    | _ => none
def slotsOf : List Ar → List Nat
  | [] => []
  | .dat _ :: as => slotsOf as
  | .slot i :: as => i :: slotsOf as
/-- the slots behind the call -/
def back (sd : Sd) : List Ar → Sd → Sd
  | [], _ => sd
  | .dat _ :: as, ss => back sd as ss.tail
  | .slot i :: as, ss => back (sd.set i (ss.head?.getD none)) as ss.tail
/-- the values of the arguments; the data among them -/
inductive ArL (σ : L2.St) : List V → List Ar → List V → List D → Prop
  | nil : ArL σ [] [] [] []
  | dat {v d vs as ws ds} : ArL σ vs as ws ds → ArL σ (v :: vs) (.dat d :: as) (v :: ws) (d :: ds)
  | slot {i a vs as ws ds} : σ[i]? = some (some (.ref a)) → ArL σ vs as ws ds → ArL σ (.ref a :: vs) (.slot i :: as) ws ds
section
variable {K : PySem.W.Frag} {σ : L2.St}
theorem ArL.len : ∀ {vs : List V} {as : List Ar} {ws : List V} {ds : List D}, ArL σ vs as ws ds → vs.length = as.length ∧ ws.length = ds.length
  | _, _, _, _, .nil => ⟨rfl, rfl⟩
  | _, _, _, _, .dat r => ⟨by rw [List.length_cons, List.length_cons, r.len.1], by rw [List.length_cons, List.length_cons, r.len.2]⟩
  | _, _, _, _, .slot _ r => ⟨by rw [List.length_cons, List.length_cons, r.len.1], r.len.2⟩
theorem ArL.atSlot : ∀ {vs : List V} {as : List Ar} {ws : List V} {ds : List D} {j i : Nat}, ArL σ vs as ws ds → as[j]? = some (.slot i) → ∃ a, vs[j]? = some (.ref a) ∧ σ[i]? = some (some (.ref a))
  | _, _, _, _, _, _, .nil, h => by simp at h
  | _, _, _, _, 0, _, .dat _, h => by simp at h
  | _, _, _, _, 0, _, .slot e _, h => by simp at h; subst h; exact ⟨_, rfl, e⟩
  | _, _, _, _, j + 1, _, .dat r, h => by simpa using ArL.atSlot (j := j) r (by simpa using h)
  | _, _, _, _, j + 1, _, .slot _ r, h => by simpa using ArL.atSlot (j := j) r (by simpa using h)
theorem ArL.atDat {Hh : Hp} : ∀ {vs : List V} {as : List Ar} {ws : List V} {ds : List D} {j : Nat} {d : D}, ArL σ vs as ws ds → Reps K Hh ws ds → as[j]? = some (.dat d) → ∃ v, vs[j]? = some v ∧ Rep K Hh v d
  | _, _, _, _, _, _, .nil, _, h => by simp at h
  | _, _, _, _, 0, _, .dat _, .cons r _, h => by simp at h; subst h; exact ⟨_, rfl, r⟩
  | _, _, _, _, 0, _, .slot _ _, _, h => by simp at h
  | _, _, _, _, j + 1, _, .dat r, .cons _ rs, h => by simpa using ArL.atDat (j := j) r rs (by simpa using h)
  | _, _, _, _, j + 1, _, .slot _ r, rs, h => by simpa using ArL.atDat (j := j) r rs (by simpa using h)
theorem mem_slots : ∀ {as : List Ar} {i : Nat}, i ∈ slotsOf as ↔ ∃ j : Nat, as[j]? = some (.slot i)
  | [], i => by simp [slotsOf]
  | .dat d :: as, i => by
    rw [show slotsOf (.dat d :: as) = slotsOf as from rfl, mem_slots]
    constructor
    · rintro ⟨j, h⟩; exact ⟨j + 1, by simpa using h⟩
    · rintro ⟨j, h⟩
      cases j with
      | zero => simp at h
      | succ j => exact ⟨j, by simpa using h⟩
  | .slot k :: as, i => by
    rw [show slotsOf (.slot k :: as) = k :: slotsOf as from rfl, List.mem_cons, mem_slots]
    constructor
    · rintro (h | ⟨j, h⟩)
      · exact ⟨0, by simp [h]⟩
      · exact ⟨j + 1, by simpa using h⟩
    · rintro ⟨j, h⟩
      cases j with
      | zero => simp at h; exact .inl h.symm
      | succ j => exact .inr ⟨j, by simpa using h⟩
theorem back_length : ∀ (as : List Ar) (sd ss : Sd), (back sd as ss).length = sd.length
  | [], _, _ => rfl
  | .dat _ :: as, sd, ss => back_length as sd ss.tail
  | .slot i :: as, sd, ss => by rw [show back sd (.slot i :: as) ss = back (sd.set i (ss.head?.getD none)) as ss.tail from rfl, back_length as, List.length_set]
theorem back_out : ∀ (as : List Ar) (sd ss : Sd) (i : Nat), i ∉ slotsOf as → (back sd as ss)[i]? = sd[i]?
  | [], _, _, _, _ => rfl
  | .dat _ :: as, sd, ss, i, h => back_out as sd ss.tail i h
  | .slot k :: as, sd, ss, i, h => by
    have h1 : i ≠ k := fun e => h (by rw [e]; exact List.mem_cons_self)
    have h2 : i ∉ slotsOf as := fun e => h (List.mem_cons_of_mem _ e)
    rw [show back sd (.slot k :: as) ss = back (sd.set k (ss.head?.getD none)) as ss.tail from rfl, back_out as _ _ i h2, List.getElem?_set_ne (Ne.symm h1)]
theorem back_in : ∀ (as : List Ar) (sd ss : Sd) (i j : Nat), (slotsOf as).Nodup → as[j]? = some (.slot i) → i < sd.length → (back sd as ss)[i]? = some ((ss[j]?).getD none)
  | [], _, _, _, _, _, h, _ => by simp at h
  | .dat _ :: as, sd, ss, i, 0, _, h, _ => by simp at h
  | .dat _ :: as, sd, ss, i, j + 1, nd, h, hi => by
    have := back_in as sd ss.tail i j nd (by simpa using h) hi
    rw [show back sd (.dat _ :: as) ss = back sd as ss.tail from rfl, this]
    cases ss <;> simp
  | .slot k :: as, sd, ss, i, 0, nd, h, hi => by
    have e : k = i := by simpa using h
    subst e
    have h2 : k ∉ slotsOf as := (List.nodup_cons.mp nd).1
    rw [show back sd (.slot k :: as) ss = back (sd.set k (ss.head?.getD none)) as ss.tail from rfl, back_out as _ _ k h2, List.getElem?_set_self hi]
    cases ss <;> simp
  | .slot k :: as, sd, ss, i, j + 1, nd, h, hi => by
    have := back_in as (sd.set k (ss.head?.getD none)) ss.tail i j (List.nodup_cons.mp nd).2 (by simpa using h) (by simpa using hi)
    rw [show back sd (.slot k :: as) ss = back (sd.set k (ss.head?.getD none)) as ss.tail from rfl, this]
    cases ss <;> simp
end

def ov (x : Option (Addr × HO)) (F : Hp) : Hp := match x with
  | none => F
  | some q => upd F q.1 q.2
def ox (x : Option (Addr × HO)) (M : Addr → Prop) : Addr → Prop := match x with
  | none => M
  | some q => fun a => M a ∨ a = q.1
section
variable {K : PySem.W.Frag} {HF H : Hp} {M0 : Addr → Prop} {PA : Nat → Option V} {σ : L2.St} {sd : Sd} {pv vs ws : List V} {pd ds : List D} {as : List Ar} {args : List Sl}
theorem args_at (hA : as.map (Ar.sl sd) = args.map some) {j : Nat} {s : Sl} (h : args[j]? = some s) : (∃ d, as[j]? = some (.dat d) ∧ s = .dat d) ∨ ∃ i o, as[j]? = some (.slot i) ∧ sd[i]? = some (some (.ob o)) ∧ s = .ob o := by
  have e : (as.map (Ar.sl sd))[j]? = some (some s) := by rw [hA, List.getElem?_map, h]; rfl
  rw [List.getElem?_map] at e
  cases q : as[j]? with
  | none => rw [q] at e; cases e
  | some a =>
    rw [q] at e
    have e : Ar.sl sd a = some s := Option.some.inj e
    cases a with
    | dat d => exact .inl ⟨d, rfl, (Option.some.inj e).symm⟩
    | slot i =>
      have e : (match sd[i]? with | some (some (.ob o)) => some (Sl.ob o) | _ => none) = some s := e
      split at e
      · rename_i o ho
        exact .inr ⟨i, o, rfl, ho, (Option.some.inj e).symm⟩
      · cases e
theorem args_slot (hA : as.map (Ar.sl sd) = args.map some) {j i : Nat} (h : as[j]? = some (.slot i)) : ∃ o, args[j]? = some (.ob o) ∧ sd[i]? = some (some (.ob o)) := by
  have e : (args.map some)[j]? = some (Ar.sl sd (.slot i)) := by rw [← hA, List.getElem?_map, h]; rfl
  rw [List.getElem?_map] at e
  cases q : args[j]? with
  | none => rw [q] at e; cases e
  | some s =>
    rw [q] at e
    have e : some s = (match sd[i]? with | some (some (.ob o)) => some (Sl.ob o) | _ => none) := Option.some.inj e
    split at e
    · rename_i o ho
      exact ⟨o, by rw [Option.some.inj e], ho⟩
    · cases e
theorem RelP.call (R : RelP K HF M0 PA σ H sd (ws ++ pv) (ds ++ pd)) (hL : ArL σ vs as ws ds) (nd : (slotsOf as).Nodup) (hA : as.map (Ar.sl sd) = args.map some) :
    ∃ HFc M0c PAc, RelP K HFc M0c PAc (vs.map some) H (args.map some) [] [] ∧ (∀ i v, PAc i = some v → ∃ o, args[i]? = some (.ob o)) ∧ (∀ H', SameT HFc H' → SameT HF H') ∧ (∀ a, M0 a → M0c a) ∧ (∀ a, HF a ≠ none → GoT (HF a) (HFc a)) ∧
      ∀ H' v r (sd' : Sd), RelR K HFc M0c PAc (vs.map some) H' sd' v r [] [] → RelR K HF M0 PA σ H' (back sd as sd') v r pv pd := by
  classical
  obtain ⟨ow, R⟩ := R
  obtain ⟨rd, rp⟩ := Reps.split hL.len.2 R.pend
  let hand : Addr → Prop := fun a => ∃ i ∈ slotsOf as, ow i = some a
  let HFc : Hp := fun a => if hand a then none else H a
  let M0c : Addr → Prop := fun a => Hd M0 ow a ∧ ¬ hand a
  let owc : Nat → Option Addr := fun j => match as[j]? with
    | some (.slot i) => ow i
    | _ => none
  let PAc : Nat → Option V := fun j => match as[j]? with
    | some (.slot i) => (σ[i]?).join
    | _ => none
  have hfc : ∀ a u, HFc a = some u → ¬ hand a ∧ H a = some u := fun a u e => by
    have e' : (if hand a then none else H a) = some u := e
    by_cases h : hand a
    · rw [if_pos h] at e'; cases e'
    · rw [if_neg h] at e'; exact ⟨h, e'⟩
  have hfc2 : ∀ a u, ¬ hand a → H a = some u → HFc a = some u := fun a u h e => by
    show (if hand a then none else H a) = some u
    rw [if_neg h]; exact e
  have owcE : ∀ j b, owc j = some b → ∃ i, as[j]? = some (.slot i) ∧ ow i = some b := fun j b e => by
    have e' : (match as[j]? with | some (.slot i) => ow i | _ => none) = some b := e
    split at e'
    · rename_i i hi; exact ⟨i, hi, e'⟩
    · cases e'
  have owcS : ∀ j i, as[j]? = some (.slot i) → owc j = ow i := fun j i e => by
    show (match as[j]? with | some (.slot i) => ow i | _ => none) = ow i
    rw [e]
  have PAcE : ∀ j v, PAc j = some v → ∃ i, as[j]? = some (.slot i) ∧ σ[i]? = some (some v) := fun j v e => by
    have e' : (match as[j]? with | some (.slot i) => (σ[i]?).join | _ => none) = some v := e
    split at e'
    · rename_i i hi
      refine ⟨i, hi, ?_⟩
      cases q : σ[i]? with
      | none => rw [q] at e'; cases e'
      | some y => rw [q] at e'; cases y with
        | none => cases e'
        | some z => exact congrArg some e'
    · cases e'
  have sameHid : Same (hid (Hd M0 ow) H) (hid (Hd M0c owc) H) := hid_same (fun b u _ z => by
    rcases z with z | ⟨j, z⟩
    · exact z.1
    · obtain ⟨i, _, e⟩ := owcE j b z
      exact .inr ⟨i, e⟩) fun _ _ _ _ q => q
  have idx : ∀ (j k i : Nat), as[j]? = some (.slot i) → as[k]? = some (.slot i) → j = k := by
    have gen : ∀ (as : List Ar) (j k i : Nat), (slotsOf as).Nodup → as[j]? = some (.slot i) → as[k]? = some (.slot i) → j = k := by
      intro as
      induction as with
      | nil => intro j k i _ h; simp at h
      | cons x r ih =>
        intro j k i nd h1 h2
        cases x with
        | dat d =>
          cases j with
          | zero => simp at h1
          | succ j => cases k with
            | zero => simp at h2
            | succ k => rw [ih j k i nd (by simpa using h1) (by simpa using h2)]
        | slot m =>
          have n2 := List.nodup_cons.mp (show (m :: slotsOf r).Nodup from nd)
          cases j with
          | zero => cases k with
            | zero => rfl
            | succ k =>
              have e : m = i := by simpa using h1
              exact absurd (mem_slots.mpr ⟨k, by simpa [e] using h2⟩) (by rw [← e] at *; exact n2.1)
          | succ j => cases k with
            | zero =>
              have e : m = i := by simpa using h2
              exact absurd (mem_slots.mpr ⟨j, by simpa [e] using h1⟩) (by rw [← e] at *; exact n2.1)
            | succ k => rw [ih j k i n2.2 (by simpa using h1) (by simpa using h2)]
    exact fun j k i => gen as j k i nd
  have slA : ∀ i ∈ slotsOf as, ∃ a ho o, sd[i]? = some (some (.ob o)) ∧ σ[i]? = some (some (.ref a)) ∧ ow i = some a ∧ H a = some ho ∧ ObR K (hid (Hd M0 ow) H) ho o := fun i hi => by
    obtain ⟨j, hj⟩ := mem_slots.mp hi
    obtain ⟨o, _, ho⟩ := args_slot hA hj
    obtain ⟨a, hob, e1, e2, e3, e4⟩ := R.sl i _ ho
    exact ⟨a, hob, o, ho, e1, e2, e3, e4⟩
  have hfcE : ∀ a, ¬ hand a → HFc a = H a := fun a h => if_neg h
  have hfcG : SameT HFc H := fun a => by
    by_cases h : hand a
    · rw [show HFc a = none from if_pos h]; exact GoT.none
    · rw [hfcE a h]; exact GoT.rfl
  have hfcB : ∀ {H' : Hp}, SameT HFc H' → ∀ a, GoT (HF a) (H' a) := fun {H'} e a => by
    by_cases h : hand a
    · obtain ⟨i, _, z⟩ := h
      rw [(R.out i a z).1]; exact GoT.none
    · have := e a
      rw [hfcE a h] at this
      exact (R.fr a).trans this
  refine ⟨HFc, M0c, PAc, ⟨owc, hfcG, fun a h => ?_, fun j k a h1 h2 => ?_, fun j a h => ?_, fun j v h => ?_, fun j s h => ?_, .nil⟩, fun j v h => ?_, fun H' e a => hfcB e a, fun a h => ⟨.inl h, fun ⟨i, _, z⟩ => (R.m0 a h).ne (R.out i a z).1⟩, fun a h => by rw [hfcE a fun ⟨i, _, z⟩ => h (R.out i a z).1]; exact R.fr a, fun H' v r sd' h => ?_⟩
  · obtain ⟨h1, h2⟩ := h
    obtain ⟨u, q, t⟩ := Hd.nt R h1
    exact ⟨u, hfc2 a u h2 q, t⟩
  · obtain ⟨i, e1, e2⟩ := owcE j a h1
    obtain ⟨i', e3, e4⟩ := owcE k a h2
    have := R.inj i i' a e2 e4
    subst this
    exact idx j k i e1 e3
  · obtain ⟨i, e1, e2⟩ := owcE j a h
    have hh : hand a := ⟨i, mem_slots.mpr ⟨j, e1⟩, e2⟩
    exact ⟨if_pos hh, (R.out i a e2).2⟩
  · obtain ⟨i, e1, e2⟩ := PAcE j v h
    obtain ⟨a, e3, e4⟩ := hL.atSlot e1
    rw [e2] at e4
    have : v = .ref a := by injection e4 with e4; injection e4
    subst this
    rw [List.getElem?_map, e3]; rfl
  · rw [List.getElem?_map] at h
    cases q : args[j]? with
    | none => rw [q] at h; cases h
    | some s0 =>
      rw [q] at h
      have : s0 = s := by injection h with h; injection h
      subst this
      rcases args_at hA q with ⟨d, e1, rfl⟩ | ⟨i, o, e1, e2, rfl⟩
      · obtain ⟨v, e3, r⟩ := hL.atDat rd e1
        exact ⟨v, by rw [List.getElem?_map, e3]; rfl, rep_mono sameHid r⟩
      · obtain ⟨a, ho, o', e3, e4, e5, e6, e7⟩ := slA i (mem_slots.mpr ⟨j, e1⟩)
        rw [e2] at e3
        have : o = o' := by injection e3 with e3; injection e3 with e3; injection e3
        subst this
        obtain ⟨a', f1, f2⟩ := hL.atSlot e1
        rw [e4] at f2
        have : a = a' := by injection f2 with f2; injection f2 with f2; injection f2
        subst this
        exact ⟨a, ho, by rw [List.getElem?_map, f1]; rfl, by rw [owcS j i e1]; exact e5, e6, e7.mono sameHid⟩
  · obtain ⟨i, e1, _⟩ := PAcE j v h
    obtain ⟨o, e2, _⟩ := args_slot hA e1
    exact ⟨o, e2⟩
  · -- behind the call
    have key : ∀ (x : Option (Addr × HO)) (us : List V) (es : List D), (∀ q, x = some q → HFc q.1 = none) → (∀ q, x = some q → isTup q.2 = false) → us.length = es.length →
        RelP K (ov x HFc) (ox x M0c) PAc (vs.map some) H' sd' us es → RelP K (ov x HF) (ox x M0) PA σ H' (back sd as sd') (us ++ pv) (es ++ pd) := by
      intro x us es hx hxt hlen hR
      obtain ⟨owx, X⟩ := hR
      have ovc : ∀ a u, HFc a = some u → ov x HFc a = some u := fun a u e => by
        cases x with
        | none => exact e
        | some q =>
          have : a ≠ q.1 := fun z => by rw [z, hx q rfl] at e; cases e
          show upd HFc q.1 q.2 a = some u
          rw [upd_ne this]; exact e
      have notX : ∀ a u, HFc a = some u → ¬ (∃ q, x = some q ∧ a = q.1) := fun a u e ⟨q, e1, e2⟩ => by rw [e2, hx q e1] at e; cases e
      have oxE : ∀ (M : Addr → Prop) a, ox x M a ↔ M a ∨ ∃ q, x = some q ∧ a = q.1 := fun M a => by
        cases x with
        | none => simp [ox]
        | some q => simp [ox]
      have liveG : ∀ a, ¬ hand a → GoT (H a) (H' a) := fun a h u e => by
        have e2 := ovc a u (hfc2 a u h e)
        exact X.fr a u e2
      have live : ∀ a u, ¬ hand a → isTbl u = false → H a = some u → H' a = some u := fun a u h t e => (liveG a h).at t e
      have notHand : ∀ a, HF a ≠ none → ¬ hand a := fun a h ⟨i, _, e⟩ => h (R.out i a e).1
      let own2 : Nat → Option Addr := fun i => if i ∈ slotsOf as ∧ ¬ (∃ o, (back sd as sd')[i]? = some (some (.ob o))) then none else ow i
      have o2 : ∀ i a, own2 i = some a → ow i = some a ∧ (i ∈ slotsOf as → ∃ o, (back sd as sd')[i]? = some (some (.ob o))) := fun i a e => by
        have e' : (if i ∈ slotsOf as ∧ ¬ (∃ o, (back sd as sd')[i]? = some (some (.ob o))) then none else ow i) = some a := e
        by_cases h : i ∈ slotsOf as ∧ ¬ (∃ o, (back sd as sd')[i]? = some (some (.ob o)))
        · rw [if_pos h] at e'; cases e'
        · rw [if_neg h] at e'
          refine ⟨e', fun hi => ?_⟩
          by_cases hc : ∃ o, (back sd as sd')[i]? = some (some (.ob o))
          · exact hc
          · exact absurd ⟨hi, hc⟩ h
      -- a handed slot that is still an object
      have inSlot : ∀ (i : Nat), i ∈ slotsOf as → ∃ j : Nat, as[j]? = some (.slot i) ∧ (back sd as sd')[i]? = some ((sd'[j]?).getD none) := fun i hi => by
        obtain ⟨j, hj⟩ := mem_slots.mp hi
        obtain ⟨a, ho, o, e1, _⟩ := slA i hi
        exact ⟨j, hj, back_in as sd sd' i j nd hj (List.getElem?_eq_some_iff.mp e1).1⟩
      have slotOb : ∀ i s, i ∈ slotsOf as → (back sd as sd')[i]? = some (some s) → ∃ a, σ[i]? = some (some (.ref a)) ∧ ow i = some a ∧ ∃ j, SlotR K (hid (Hd (ox x M0c) owx) H') H' (some (some (.ref a))) (owx j) s := fun i s hi hs => by
        obtain ⟨j, hj, e⟩ := inSlot i hi
        rw [e] at hs
        have hs2 : (sd'[j]?).getD none = some s := Option.some.inj hs
        have hs3 : sd'[j]? = some (some s) := by
          cases q : sd'[j]? with
          | none => rw [q] at hs2; cases hs2
          | some y => rw [q] at hs2; rw [show y = some s from hs2]
        have xs := X.sl j s hs3
        obtain ⟨a, ho, o, f1, f2, f3, _⟩ := slA i hi
        obtain ⟨a', g1, g2⟩ := hL.atSlot hj
        rw [f2] at g2
        have : a = a' := by injection g2 with g2; injection g2 with g2; injection g2
        subst this
        have : (vs.map some)[j]? = some (some (.ref a)) := by rw [List.getElem?_map, g1]; rfl
        rw [this] at xs
        exact ⟨a, f2, f3, j, xs⟩
      have ob2 : ∀ i a, i ∈ slotsOf as → own2 i = some a → ∃ j ho, owx j = some a ∧ H' a = some ho := fun i a hi e => by
        obtain ⟨e1, e2⟩ := o2 i a e
        obtain ⟨o, ho⟩ := e2 hi
        obtain ⟨b, f1, f2, j, ⟨c, hoc, g1, g2, g3, g4⟩⟩ := slotOb i _ hi ho
        have : b = c := by injection g1 with g1; injection g1 with g1; injection g1
        subst this
        rw [e1] at f2
        have : a = b := Option.some.inj f2
        subst this
        exact ⟨j, hoc, g2, g3⟩
      have vis : Same (hid (Hd (ox x M0c) owx) H') (hid (Hd (ox x M0) own2) H') := hid_same (fun b u _ z => by
        rcases z with z | ⟨i, z⟩
        · rcases (oxE M0 b).mp z with z | z
          · exact .inl ((oxE M0c b).mpr (.inl ⟨.inl z, notHand b (R.m0 b z).ne⟩))
          · exact .inl ((oxE M0c b).mpr (.inr z))
        · obtain ⟨e1, e2⟩ := o2 i b z
          by_cases hi : i ∈ slotsOf as
          · obtain ⟨j, ho, e3, _⟩ := ob2 i b hi z
            exact .inr ⟨j, e3⟩
          · refine .inl ((oxE M0c b).mpr (.inl ⟨.inr ⟨i, e1⟩, fun ⟨k, hk, e⟩ => ?_⟩))
            rw [R.inj k i b e e1] at hk
            exact hi hk) fun _ _ _ _ q => q
      have vis2 : Same (hid (Hd M0 ow) H) (hid (Hd (ox x M0) own2) H') := fun b u e => by
        obtain ⟨h1, h2, h3⟩ := hid_some.mp e
        have nh : ¬ hand b := fun ⟨i, _, e⟩ => h1 (.inr ⟨i, e⟩)
        refine hid_some.mpr ⟨fun z => ?_, live b u nh h3 h2, h3⟩
        rcases z with z | ⟨i, z⟩
        · rcases (oxE M0 b).mp z with z | z
          · exact h1 (.inl z)
          · exact notX b u (hfc2 b u nh h2) z
        · exact h1 (.inr ⟨i, (o2 i b z).1⟩)
      refine ⟨own2, fun a => ?_, fun a h => ?_, fun i k a h1 h2 => R.inj i k a (o2 i a h1).1 (o2 k a h2).1, fun i a h => ?_, R.pin, fun i s hs => ?_, (reps_mono vis X.pend).app (reps_mono vis2 rp)⟩
      · by_cases hq : ∃ q, x = some q ∧ a = q.1
        · obtain ⟨q, e1, e2⟩ := hq
          subst e1 e2
          have := X.fr q.1
          have e1 : ov (some q) HFc q.1 = some q.2 := upd_same
          have e2 : ov (some q) HF q.1 = some q.2 := upd_same
          rw [e1] at this
          rw [e2]; exact this
        · have e' : ov x HF a = HF a := by
            cases x with
            | none => rfl
            | some q => exact upd_ne fun z => hq ⟨q, rfl, z⟩
          rw [e']
          by_cases hn : HF a = none
          · rw [hn]; exact GoT.none
          · exact (R.fr a).trans (liveG a (notHand a hn))
      · rcases (oxE M0 a).mp h with h9 | ⟨q, e1, e2⟩
        · cases x with
          | none => exact R.m0 a h9
          | some q =>
            by_cases hq : a = q.1
            · exact ⟨q.2, by rw [hq]; exact upd_same, hxt q rfl⟩
            · obtain ⟨u, q1, q2⟩ := R.m0 a h9
              refine ⟨u, ?_, q2⟩
              show upd HF q.1 q.2 a = some u
              rw [upd_ne hq]; exact q1
        · subst e1 e2
          exact ⟨q.2, upd_same, hxt q rfl⟩
      · obtain ⟨e1, e2⟩ := o2 i a h
        have hF := (R.out i a e1).1
        have nq : ∀ q, x = some q → a ≠ q.1 := fun q hq z => by
          by_cases hi : i ∈ slotsOf as
          · obtain ⟨j, ho, e3, _⟩ := ob2 i a hi h
            have := (X.out j a e3).1
            subst hq
            have t : upd HFc q.1 q.2 a = none := this
            rw [z, upd_same] at t; cases t
          · have nh : ¬ hand a := fun ⟨k, hk, e⟩ => by rw [R.inj k i a e e1] at hk; exact hi hk
            cases e4 : H a with
            | none => exact (R.out i a e1).2.ne e4
            | some u => exact notX a u (hfc2 a u nh e4) ⟨q, hq, z⟩
        refine ⟨?_, ?_⟩
        · cases x with
          | none => exact hF
          | some q =>
            show upd HF q.1 q.2 a = none
            rw [upd_ne (nq q rfl)]; exact hF
        · by_cases hi : i ∈ slotsOf as
          · obtain ⟨j, ho, e3, e4⟩ := ob2 i a hi h
            exact (X.out j a e3).2
          · have nh : ¬ hand a := fun ⟨k, hk, e⟩ => by rw [R.inj k i a e e1] at hk; exact hi hk
            obtain ⟨u, e4, t⟩ := (R.out i a e1).2
            cases tb : isTbl u
            · exact ⟨u, live a u nh tb e4, t⟩
            · obtain ⟨ps, e5⟩ := isTbl_of tb
              obtain ⟨qs, e6, _⟩ := (liveG a nh u e4).2 ps e5
              exact ⟨_, e6, rfl⟩
      · by_cases hi : i ∈ slotsOf as
        · obtain ⟨a, f1, f2, j, xs⟩ := slotOb i s hi hs
          rw [f1]
          cases s with
          | dat d =>
            obtain ⟨v, e1, r⟩ := xs
            exact ⟨v, e1, rep_mono vis r⟩
          | ob o =>
            obtain ⟨c, ho, g1, g2, g3, g4⟩ := xs
            have : a = c := by injection g1 with g1; injection g1 with g1; injection g1
            subst this
            refine ⟨a, ho, rfl, ?_, g3, g4.mono vis⟩
            show (if i ∈ slotsOf as ∧ ¬ (∃ o, (back sd as sd')[i]? = some (some (.ob o))) then none else ow i) = some a
            rw [if_neg (fun z => z.2 ⟨o, hs⟩)]; exact f2
        · rw [back_out as sd sd' i hi] at hs
          have e : own2 i = ow i := if_neg fun z => hi z.1
          rw [e]
          refine (R.sl i s hs).mono vis2 fun a u ha ht hu => live a u (fun ⟨k, hk, e⟩ => ?_) ht hu
          rw [R.inj k i a e ha] at hk; exact hi hk
    cases r with
    | val d => exact key none [v] [d] (fun q z => by cases z) (fun q z => by cases z) rfl h
    | fresh o =>
      obtain ⟨p, ho, us, es, rfl, hp, hm, hl, hob, hR⟩ := h
      rw [List.append_nil, List.append_nil] at hR
      have := key (some (p, ho)) us es (fun q z => by cases z; exact hp) (fun q z => by cases z; exact ObR.nt (hob _ (RelP.at hR))) hl hR
      refine ⟨p, ho, us, es, rfl, ?_, R.m0, hl, hob, this⟩
      refine Classical.byContradiction fun e => ?_
      have nh : ¬ hand p := fun ⟨i, _, e'⟩ => e (R.out i p e').1
      rw [hfcE p nh] at hp
      exact (R.fr p).ne e hp
end
end Ev

/-! EvC: plain-data readings of expressions. -/
namespace Ev
open PySem PySem.Spec PyProof.Rows L2

/-- an exception: its class's name, its attributes -/
structure Ex where
  cls : Str
  fs : List (Str × D)
/-- what is known by name: classes; the tables of the defs' code objects -/
structure Glo where
  c : Str → Option Addr
  t : Str → Option Addr
def g0 : Glo := ⟨fun _ => none, fun _ => none⟩
structure Par where
  cl : Glo
  pin : List Nat
  E : XK
structure Fm where
  HF : Hp
  M0 : Addr → Prop
  PA : Nat → Option V
  xp : Ex → Prop
def ExR (K : PySem.W.Frag) (cl : Glo) (HF : Hp) (M0 : Addr → Prop) (H : Hp) (ex : Ex) (v : Value) (d : Option Addr) : Prop :=
  ∃ c dx vs, cl.c ex.cls = some c ∧ v = .ref c ∧ d = some dx ∧ SameT HF H ∧ H dx = some (.xd vs) ∧ vs.map (·.1) = ex.fs.map (·.1) ∧ Reps K (hid M0 H) (vs.map (·.2)) (ex.fs.map (·.2))
structure Fm.Ok (F : Fm) (K : PySem.W.Frag) (P : Par) : Prop where
  pin : ∀ i v, F.PA i = some v → i ∈ P.pin
  ex : ∀ ex v d H, ExR K P.cl F.HF F.M0 H ex v d → F.xp ex → P.E v d H
  tab : ∀ x a, P.cl.t x = some a → GxR.TabG F.HF a
abbrev Fm.R (F : Fm) (K : PySem.W.Frag) (σ : L2.St) (H : Hp) (sd : Sd) (pv : List V) (pd : List D) : Prop := RelP K F.HF F.M0 F.PA σ H sd pv pd
abbrev Fm.RR (F : Fm) (K : PySem.W.Frag) (σ : L2.St) (H : Hp) (sd : Sd) (v : V) (r : Rv) (pv : List V) (pd : List D) : Prop := RelR K F.HF F.M0 F.PA σ H sd v r pv pd

/-- plain-data readings -/
abbrev WT := Sd → (Ex → Prop) → (Rv → Sd → Prop) → Prop
abbrev WC := Sd → (Ex → Prop) → (Bool → Sd → Prop) → Prop
abbrev WA := Sd → (Ex → Prop) → (List Ar → Sd → Prop) → Prop
def Mono (w : WT) : Prop := ∀ sd (xp xp' : Ex → Prop) (Q Q' : Rv → Sd → Prop), (∀ e, xp e → xp' e) → (∀ r s, Q r s → Q' r s) → w sd xp Q → w sd xp' Q'
def MonoC (w : WC) : Prop := ∀ sd (xp xp' : Ex → Prop) (Q Q' : Bool → Sd → Prop), (∀ e, xp e → xp' e) → (∀ r s, Q r s → Q' r s) → w sd xp Q → w sd xp' Q'
def MonoA (w : WA) : Prop := ∀ sd (xp xp' : Ex → Prop) (Q Q' : List Ar → Sd → Prop), (∀ e, xp e → xp' e) → (∀ r s, Q r s → Q' r s) → w sd xp Q → w sd xp' Q'
def frz : Rv → (D → Prop) → Prop
  | .val d, P => P d
  | .fresh (.L xs), P => P (.list xs)
  | .fresh _, _ => False
theorem frz_mono {r : Rv} {P P' : D → Prop} (h : ∀ d, P d → P' d) : frz r P → frz r P' := by
  cases r with
  | val d => exact h d
  | fresh o => cases o <;> first | exact h _ | exact fun z => z
def sub (w : WT) (sd : Sd) (xp : Ex → Prop) (Q : D → Sd → Prop) : Prop := w sd xp fun r sd' => frz r fun d => Q d sd'
theorem sub_mono {w : WT} (m : Mono w) {sd : Sd} {xp xp' : Ex → Prop} {Q Q' : D → Sd → Prop} (hx : ∀ e, xp e → xp' e) (h : ∀ d s, Q d s → Q' d s) : sub w sd xp Q → sub w sd xp' Q' :=
  m sd xp xp' _ _ hx fun r s => frz_mono fun d => h d s

def tl (K : PySem.W.Frag) (P : Par) (w : WT) : TE := fun σ H Q => ∃ (F : Fm) (sd : Sd) (pv : List V) (pd : List D), F.Ok K P ∧ F.R K σ H sd pv pd ∧ w sd F.xp fun r sd' => ∀ v H', F.RR K σ H' sd' v r pv pd → Q v H'
def tlc (K : PySem.W.Frag) (P : Par) (w : WC) : TT := fun σ H Q => ∃ (F : Fm) (sd : Sd) (pv : List V) (pd : List D), F.Ok K P ∧ F.R K σ H sd pv pd ∧ w sd F.xp fun b sd' => ∀ H', F.R K σ H' sd' pv pd → Q b H'
def tla (K : PySem.W.Frag) (P : Par) (w : WA) : TA := fun σ H Q => ∃ (F : Fm) (sd : Sd) (pv : List V) (pd : List D), F.Ok K P ∧ F.R K σ H sd pv pd ∧
  w sd F.xp fun as sd' => ∀ vs ws ds H', ArL σ vs as ws ds → F.R K σ H' sd' (ws ++ pv) (ds ++ pd) → Q vs H'

structure JE (X : Cx) (P : Par) (e : Expr) (w : WT) : Prop where
  pe : PE X e (tl X.K P w)
  mono : Mono w
structure JC (X : Cx) (P : Par) (e : Expr) (w : WC) : Prop where
  pt : PT X e (tlc X.K P w)
  mono : MonoC w
/-- a test whatever its whole is -/
structure JW (X : Cx) (P : Par) (e : Expr) (w : WC) : Prop where
  pw : PW X e (tlc X.K P w)
  mono : MonoC w
structure JA (X : Cx) (P : Par) (es : List Expr) (w : WA) : Prop where
  pa : PA X es (tla X.K P w)
  mono : MonoA w

section
variable {X : Cx} {P : Par} {F : Fm} {σ : L2.St} {H H' : Hp} {sd sd' : Sd} {pv : List V} {pd : List D}
theorem _root_.L2.PE.imp {e : Expr} {t t' : TE} (h : PE X e t) (i : ∀ σ H Q, t' σ H Q → t σ H Q) : PE X e t' := ⟨fun pins s σ H Q I q => h.run pins s σ H Q I (i σ H Q q)⟩
theorem _root_.L2.PT.imp {e : Expr} {t t' : TT} (h : PT X e t) (i : ∀ σ H Q, t' σ H Q → t σ H Q) : PT X e t' := ⟨fun pins s σ H Q I q => h.run pins s σ H Q I (i σ H Q q)⟩
theorem _root_.L2.PW.imp {e : Expr} {t t' : TT} (h : PW X e t) (i : ∀ σ H Q, t' σ H Q → t σ H Q) : PW X e t' := ⟨fun wh pins s σ H Q I q => h.run wh pins s σ H Q I (i σ H Q q)⟩
theorem _root_.L2.PA.imp {es : List Expr} {t t' : TA} (h : PA X es t) (i : ∀ σ H Q, t' σ H Q → t σ H Q) : PA X es t' := ⟨fun pos pins s σ H Q I q => h.run pos pins s σ H Q I (i σ H Q q)⟩

theorem rrfrz {v : V} {r : Rv} {Q : D → Prop} (h : F.RR X.K σ H sd v r pv pd) (q : frz r Q) : ∃ d, F.R X.K σ H sd (v :: pv) (d :: pd) ∧ Q d := by
  cases r with
  | val d => exact ⟨d, h, q⟩
  | fresh o =>
    cases o with
    | L xs => exact ⟨.list xs, FrR.frz h, q⟩
    | _ => exact False.elim q
/-- run a sub-expression -/
theorem tl.go {e : Expr} {w : WT} (j : JE X P e w) (ok : F.Ok X.K P) (R : F.R X.K σ H sd pv pd) {Q : Rv → Sd → Prop} (h : w sd F.xp Q) {R' : VK}
    (k : ∀ r sd' v H', Q r sd' → F.RR X.K σ H' sd' v r pv pd → R' v H') : tl X.K P w σ H R' :=
  ⟨F, sd, pv, pd, ok, R, j.mono sd F.xp F.xp _ _ (fun _ q => q) (fun r s q v H' rel => k r s v H' q rel) h⟩
theorem tl.sub {e : Expr} {w : WT} (j : JE X P e w) (ok : F.Ok X.K P) (R : F.R X.K σ H sd pv pd) {Q : D → Sd → Prop} (h : Ev.sub w sd F.xp Q) {R' : VK}
    (k : ∀ d sd' v H', Q d sd' → F.R X.K σ H' sd' (v :: pv) (d :: pd) → R' v H') : tl X.K P w σ H R' :=
  tl.go j ok R h fun r sd' v H' q rel => by
    obtain ⟨d, r1, q1⟩ := rrfrz rel q
    exact k d sd' v H' q1 r1
theorem tlc.go {e : Expr} {w : WC} (m : MonoC w) (ok : F.Ok X.K P) (R : F.R X.K σ H sd pv pd) {Q : Bool → Sd → Prop} (h : w sd F.xp Q) {R' : Bool → Hp → Prop}
    (k : ∀ b sd' H', Q b sd' → F.R X.K σ H' sd' pv pd → R' b H') : tlc X.K P w σ H R' :=
  ⟨F, sd, pv, pd, ok, R, m sd F.xp F.xp _ _ (fun _ q => q) (fun r s q H' rel => k r s H' q rel) h⟩
theorem tla.go {es : List Expr} {w : WA} (j : JA X P es w) (ok : F.Ok X.K P) (R : F.R X.K σ H sd pv pd) {Q : List Ar → Sd → Prop} (h : w sd F.xp Q) {R' : List V → Hp → Prop}
    (k : ∀ as sd' vs ws ds H', Q as sd' → ArL σ vs as ws ds → F.R X.K σ H' sd' (ws ++ pv) (ds ++ pd) → R' vs H') : tla X.K P w σ H R' :=
  ⟨F, sd, pv, pd, ok, R, j.mono sd F.xp F.xp _ _ (fun _ q => q) (fun r s q vs ws ds H' a rel => k r s vs ws ds H' q a rel) h⟩

/-! ### leaves -/
def wVar (i : Nat) : WT := fun sd _ Q => ∃ s, sd[i]? = some (some s) ∧ match s with
  | .dat d => Q (.val d) sd
  | .ob (.L xs) => Q (.val (.list xs)) (sd.set i (some (.dat (.list xs))))
  | .ob _ => False
theorem wVar_mono (i : Nat) : Mono (wVar i) := by
  intro sd xp xp' Q Q' _ hq h
  obtain ⟨s, e, h⟩ := h
  refine ⟨s, e, ?_⟩
  cases s with
  | dat d => exact hq _ _ h
  | ob o => cases o <;> first | exact hq _ _ h | exact h
theorem je_var {i : Nat} {x : Str} {pos : Pos} (hN : X.N[i]? = some x) (hv : Vis X.env.scope x) (hd : (x == ("__debug__" : Str)) = false) (hcd : (x == ("__classdict__" : Str)) = false) : JE X P (.Name x pos) (wVar i) := by
  refine ⟨(pe_var hN hv hd hcd).imp fun σ H Q h => ?_, wVar_mono i⟩
  obtain ⟨F, sd, pv, pd, ok, R, s, e, h⟩ := h
  cases s with
  | dat d =>
    obtain ⟨v, ev, R1⟩ := RelP.read R e
    exact ⟨v, ev, h v H R1⟩
  | ob o =>
    cases o with
    | L xs =>
      obtain ⟨a, ea, R1⟩ := RelP.freeze R e
      exact ⟨_, ea, h _ H R1⟩
    | _ => exact False.elim h
def wC (d : D) : WT := fun sd _ Q => Q (.val d) sd
theorem wC_mono (d : D) : Mono (wC d) := fun _ _ _ _ _ _ hq h => hq _ _ h
theorem push {v : V} {d : D} (R : F.R X.K σ H sd pv pd) (h : ∀ Hh, Rep X.K Hh v d) : F.R X.K σ H sd (v :: pv) (d :: pd) := RelP.pend R fun Hh r => .cons (h Hh) r
theorem je_int {i : Int} {j : Nat} {pos : Pos} : JE X P (.Constant (.int i) j pos) (wC (.int i)) :=
  ⟨pe_int.imp fun σ H Q ⟨F, sd, pv, pd, ok, R, h⟩ => h _ H (push (X := X) R fun _ => .int i), wC_mono _⟩
theorem je_bl {b : Bool} {j : Nat} {pos : Pos} : JE X P (.Constant (.bool b) j pos) (wC (.bool b)) :=
  ⟨pe_bl.imp fun σ H Q ⟨F, sd, pv, pd, ok, R, h⟩ => h _ H (push (X := X) R fun _ => .bl b), wC_mono _⟩
theorem je_non {j : Nat} {pos : Pos} : JE X P (.Constant .none j pos) (wC .none) :=
  ⟨pe_non.imp fun σ H Q ⟨F, sd, pv, pd, ok, R, h⟩ => h _ H (push (X := X) R fun _ => .non), wC_mono _⟩
theorem je_str {x : Str} {j : Nat} {pos : Pos} : JE X P (.Constant (.str x) j pos) (wC (.str x)) :=
  ⟨pe_str.imp fun σ H Q ⟨F, sd, pv, pd, ok, R, h⟩ => h _ H (push (X := X) R fun _ => .str x), wC_mono _⟩

/-! ### two-place operations on data -/
abbrev O2 := D → D → (Rv → Prop) → Prop
def MonoO (g : O2) : Prop := ∀ a b (Q Q' : Rv → Prop), (∀ r, Q r → Q' r) → g a b Q → g a b Q'
def wOp (g : O2) (wa wb : WT) : WT := fun sd xp Q => sub wa sd xp fun a sd1 => sub wb sd1 xp fun b sd2 => g a b fun r => Q r sd2
theorem wOp_mono {g : O2} {wa wb : WT} (hg : MonoO g) (ma : Mono wa) (mb : Mono wb) : Mono (wOp g wa wb) := fun sd xp xp' Q Q' hx hq h =>
  sub_mono ma hx (fun a s h1 => sub_mono mb hx (fun b s2 h2 => hg a b _ _ (fun r q => hq r s2 q) h2) h1) h
/-- an operation by values keeps to its data reading -/
def Obeys (X : Cx) (r : R2) (g : O2) : Prop := ∀ (F : Fm) (σ : L2.St) (H : Hp) (sd : Sd) (x y : V) (a b : D) (pv : List V) (pd : List D) (Q : VK), F.R X.K σ H sd (y :: x :: pv) (b :: a :: pd) →
  (g a b fun r => ∀ v H', F.RR X.K σ H' sd v r pv pd → Q v H') → r x y H Q
theorem op_imp {r : R2} {g : O2} {ea eb : Expr} {wa wb : WT} (ob : Obeys X r g) (ja : JE X P ea wa) (jb : JE X P eb wb) : ∀ σ H Q, tl X.K P (wOp g wa wb) σ H Q → tOp r (tl X.K P wa) (tl X.K P wb) σ H Q := by
  intro σ H Q ⟨F, sd, pv, pd, ok, R, h⟩
  refine tl.sub ja ok R h fun a sd1 x H1 h1 R1 => ?_
  exact tl.sub jb ok R1 h1 fun b sd2 y H2 h2 R2 => ob F σ H2 sd2 x y a b pv pd Q R2 h2
theorem je_op {op : Operator} {r : R2} {g : O2} {a b : Expr} {wa wb : WT} {pos : Pos} (ho : OpR X (binaryOp op) r) (ob : Obeys X r g) (hg : MonoO g) (ja : JE X P a wa) (jb : JE X P b wb) : JE X P (.BinOp a op b pos) (wOp g wa wb) :=
  ⟨(pe_op ho ja.pe jb.pe).imp (op_imp ob ja jb), wOp_mono hg ja.mono jb.mono⟩
theorem je_cmp {op : CmpOp} {r : R2} {g : O2} {a b : Expr} {wa wb : WT} {pos : Pos} (ho : OpR X (compareOp op) r) (ob : Obeys X r g) (hg : MonoO g) (ja : JE X P a wa) (jb : JE X P b wb) (hm : behindInMarks op b = false) : JE X P (.Compare a [op] [b] pos) (wOp g wa wb) :=
  ⟨(pe_cmpR ho ja.pe jb.pe hm).imp (op_imp ob ja jb), wOp_mono hg ja.mono jb.mono⟩
theorem je_sub {r : R2} {g : O2} {a b : Expr} {wa wb : WT} {pos : Pos} (ho : IxR X r) (ob : Obeys X r g) (hg : MonoO g) (ja : JE X P a wa) (jb : JE X P b wb) (hs : PlainIx b) : JE X P (.Subscript a b pos) (wOp g wa wb) :=
  ⟨(pe_ix ho ja.pe jb.pe hs).imp (op_imp ob ja jb), wOp_mono hg ja.mono jb.mono⟩

/-- ints in, under C, an int out -/
def gI (C : Int → Int → Prop) (f : Int → Int → Int) : O2 := fun a b Q => ∃ i j, a = .int i ∧ b = .int j ∧ C i j ∧ Q (.val (.int (f i j)))
def gB (f : Int → Int → Bool) : O2 := fun a b Q => ∃ i j, a = .int i ∧ b = .int j ∧ Q (.val (.bool (f i j)))
theorem gI_mono {C f} : MonoO (gI C f) := fun _ _ _ _ hq ⟨i, j, e1, e2, c, q⟩ => ⟨i, j, e1, e2, c, hq _ q⟩
theorem gB_mono {f} : MonoO (gB f) := fun _ _ _ _ hq ⟨i, j, e1, e2, q⟩ => ⟨i, j, e1, e2, hq _ q⟩
theorem rep_int {K : PySem.W.Frag} {Hh : Hp} {v : V} {i : Int} (h : Rep K Hh v (.int i)) : v = .int i := by cases h; rfl
theorem rep_bl {K : PySem.W.Frag} {Hh : Hp} {v : V} {i : Bool} (h : Rep K Hh v (.bool i)) : v = .bl i := by cases h; rfl
theorem rep_str {K : PySem.W.Frag} {Hh : Hp} {v : V} {i : Str} (h : Rep K Hh v (.str i)) : v = .str i := by cases h; rfl
theorem rep_non {K : PySem.W.Frag} {Hh : Hp} {v : V} (h : Rep K Hh v .none) : v = .non := by cases h; rfl
theorem rep_tup {K : PySem.W.Frag} {Hh : Hp} {v : V} {ds : List D} (h : Rep K Hh v (.tuple ds)) : ∃ a xs, v = .ref a ∧ Hh a = some (.tup xs) ∧ Reps K Hh xs ds := by cases h; exact ⟨_, _, rfl, by assumption, by assumption⟩
theorem rep_lst {K : PySem.W.Frag} {Hh : Hp} {v : V} {ds : List D} (h : Rep K Hh v (.list ds)) : ∃ a xs, v = .ref a ∧ SqL K Hh a xs ∧ Reps K Hh xs ds := by cases h; exact ⟨_, _, rfl, by assumption, by assumption⟩
theorem two {x y : V} {a b : D} (R : F.R X.K σ H sd (y :: x :: pv) (b :: a :: pd)) : Rep X.K H x a ∧ Rep X.K H y b ∧ F.R X.K σ H sd pv pd := by
  have r := RelP.at R
  cases r with
  | cons h1 r => cases r with
    | cons h2 r => exact ⟨h2, h1, RelP.drop (RelP.drop R)⟩
theorem ob_I {C : Int → Int → Prop} {f : Int → Int → Int} : Obeys X (rI C fun i j => .int (f i j)) (gI C f) := by
  rintro F σ H sd x y a b pv pd Q R ⟨i, j, rfl, rfl, c, q⟩
  obtain ⟨r1, r2, R0⟩ := two (X := X) R
  exact ⟨i, j, rep_int r1, rep_int r2, c, q _ H (push (X := X) R0 fun _ => .int _)⟩
theorem ob_I0 {f : Int → Int → Int} : Obeys X (rI0 fun i j => .int (f i j)) (gI (fun _ _ => True) f) := by
  rintro F σ H sd x y a b pv pd Q R ⟨i, j, rfl, rfl, _, q⟩
  obtain ⟨r1, r2, R0⟩ := two (X := X) R
  exact ⟨i, j, rep_int r1, rep_int r2, q _ H (push (X := X) R0 fun _ => .int _)⟩
theorem ob_B {f : Int → Int → Bool} : Obeys X (rI0 fun i j => .bl (f i j)) (gB f) := by
  rintro F σ H sd x y a b pv pd Q R ⟨i, j, rfl, rfl, q⟩
  obtain ⟨r1, r2, R0⟩ := two (X := X) R
  exact ⟨i, j, rep_int r1, rep_int r2, q _ H (push (X := X) R0 fun _ => .bl _)⟩
/-- + of ints, tuples, lists, texts -/
def gAdd : O2 := fun a b Q => match a, b with
  | .int i, .int j => Q (.val (.int (i + j)))
  | .tuple xs, .tuple ys => xs.length + ys.length ≤ sizeLine ∧ Q (.val (.tuple (xs ++ ys)))
  | .list xs, .list ys => xs.length + ys.length ≤ sizeLine ∧ Q (.fresh (.L (xs ++ ys)))
  | .str x, .str y => x.length + y.length ≤ sizeLine ∧ Q (.val (.str (x ++ y)))
  | _, _ => False
theorem gAdd_mono : MonoO gAdd := by
  intro a b Q Q' hq h
  unfold gAdd at h ⊢
  split at h
  · exact hq _ h
  · exact ⟨h.1, hq _ h.2⟩
  · exact ⟨h.1, hq _ h.2⟩
  · exact ⟨h.1, hq _ h.2⟩
  · exact h
def rCatL (K : PySem.W.Frag) : R2 := fun x y H Q => ∃ l b xs zs, x = .ref l ∧ y = .ref b ∧ SqL K H l xs ∧ SqL K H b zs ∧ xs.length + zs.length ≤ sizeLine ∧ ∀ p, H p = none → Q (.ref p) (upd H p (.lst (xs ++ zs)))
theorem op_catL : OpR X (binaryOp .Add) (rCatL X.K) := by
  intro pins s σ H x y v u Q I rx ry h
  obtain ⟨l, b, xs, zs, rfl, rfl, hl, hb, hz, q⟩ := h
  cases rx
  cases ry
  obtain ⟨its, r, ⟨⟨c1, d1, t1, s1⟩, n, ho, hc, hd, ht⟩, hsz⟩ := I.list hl
  obtain ⟨its2, r2, ⟨⟨c2, d2, t2, s2⟩, n2, ho2, hc2, hd2, ht2⟩, hsz2⟩ := I.list hb
  simp only at hc hd ht hc2 hd2 ht2
  subst hc hd ht hc2 hd2 ht2
  have e1 := r.length
  have e2 := r2.length
  have eA : its.toArray ++ its2.toArray = (its ++ its2).toArray := by simp
  have big : its.toArray.size + its2.toArray.size ≤ sizeLine := by rw [List.size_toArray, List.size_toArray]; omega
  have M := list_addW l b its.toArray its2.toArray n n2 none none s1 s2 big
  refine concat_meets ⟨_, ho, rfl⟩ ⟨_, ho2, rfl⟩ noFill_list_add seq_list_add PySem.F.slot_list_add PySem.F.entry_list_add (PySem.F.args_list_add_2 _ _) M ⟨ho, ho2, ?_⟩
  rw [eA]
  exact ⟨.ref _, _, I.lnew (t' := s.toks) (r.append r2) (by rw [List.length_append]; omega), rfl, q _ I.fresh⟩
/-- + by kinds -/
def rAddD (K : PySem.W.Frag) : R2 := fun x y H Q => (rI0 (fun i j => .int (i + j)) x y H Q) ∨ (rCatA K x y H Q) ∨ (rCatL K x y H Q) ∨ (∃ i j, x = .str i ∧ y = .str j ∧ i.length + j.length ≤ sizeLine ∧ Q (.str (i ++ j)) H)
theorem op_addD : OpR X (binaryOp .Add) (rAddD X.K) := op_add.or (op_catA.or (op_catL.or op_add_str))
theorem ob_add : Obeys X (rAddD X.K) gAdd := by
  intro F σ H sd x y a b pv pd Q R h
  unfold gAdd at h
  split at h
  · rename_i i j
    obtain ⟨r1, r2, R0⟩ := two (X := X) R
    exact .inl ⟨i, j, rep_int r1, rep_int r2, h _ H (push (X := X) R0 fun _ => .int _)⟩
  · rename_i xs ys
    obtain ⟨hz, q⟩ := h
    refine .inr (.inl ?_)
    have R3 := R
    obtain ⟨ow, W⟩ := R3
    cases W.pend with
    | cons h1 r => cases r with
      | cons h2 r =>
        obtain ⟨p1, us, e1, t1, k1⟩ := rep_tup h2
        obtain ⟨p2, ws, e2, t2, k2⟩ := rep_tup h1
        have whole : Same (hid (Hd F.M0 ow) H) H := fun c u z => (hid_some.mp z).2.1
        have l1 := k1.len
        have l2 := k2.len
        refine ⟨p1, p2, us, ws, e1, e2, SqT.of (whole _ _ t1), SqT.of (whole _ _ t2), by omega, fun z => ?_, fun z1 z2 => ?_, fun _ _ p hp => ?_⟩
        · subst z
          have : xs = [] := by cases xs with
            | nil => rfl
            | cons _ _ => simp at l1
          subst this
          exact q _ H (by rw [List.nil_append, ← e2]; exact RelP.pend R fun _ r => by cases r with | cons a r => cases r with | cons b r => exact .cons a r)
        · subst z2
          have : ys = [] := by cases ys with
            | nil => rfl
            | cons _ _ => simp at l2
          subst this
          exact q _ H (by rw [List.append_nil, ← e1]; exact RelP.pend R fun _ r => by cases r with | cons a r => cases r with | cons b r => exact .cons b r)
        · have R4 : F.R X.K σ H sd ((us ++ ws) ++ pv) ((xs ++ ys) ++ pd) := ⟨ow, W.fr, W.m0, W.inj, W.out, W.pin, W.sl, (k1.app k2).app r⟩
          refine q _ _ (RelP.new R4 (by rw [List.length_append, List.length_append]; omega) hp fun Hh hp' r => ?_)
          exact .tup hp' r
  · rename_i xs ys
    obtain ⟨hz, q⟩ := h
    refine .inr (.inr (.inl ?_))
    have R3 := R
    obtain ⟨ow, W⟩ := R3
    cases W.pend with
    | cons h1 r => cases r with
      | cons h2 r =>
        obtain ⟨p1, us, e1, t1, k1⟩ := rep_lst h2
        obtain ⟨p2, ws, e2, t2, k2⟩ := rep_lst h1
        have whole : Same (hid (Hd F.M0 ow) H) H := fun c u z => (hid_some.mp z).2.1
        have l1 := k1.len
        have l2 := k2.len
        refine ⟨p1, p2, us, ws, e1, e2, whole.seq t1, whole.seq t2, by omega, fun p hp => ?_⟩
        have R4 : F.R X.K σ H sd ((us ++ ws) ++ pv) ((xs ++ ys) ++ pd) := ⟨ow, W.fr, W.m0, W.inj, W.out, W.pin, W.sl, (k1.app k2).app r⟩
        exact q _ _ (FrR.mk R4 (by rw [List.length_append, List.length_append]; omega) hp fun Hh r => r)
  · rename_i i j
    obtain ⟨hz, q⟩ := h
    obtain ⟨r1, r2, R0⟩ := two (X := X) R
    exact .inr (.inr (.inr ⟨i, j, rep_str r1, rep_str r2, hz, q _ H (push (X := X) R0 fun _ => .str _)⟩))
  · exact h.elim
/-- == of data -/
def gEq : O2 := fun a b Q => SeqAt.shaped a = true ∧ SeqAt.shaped b = true ∧ Q (.val (.bool (PyData.eqv a b)))
def gNe : O2 := fun a b Q => SeqAt.shaped a = true ∧ SeqAt.shaped b = true ∧ Q (.val (.bool (!PyData.eqv a b)))
theorem gEq_mono : MonoO gEq := fun _ _ _ _ hq ⟨a, b, q⟩ => ⟨a, b, hq _ q⟩
theorem gNe_mono : MonoO gNe := fun _ _ _ _ hq ⟨a, b, q⟩ => ⟨a, b, hq _ q⟩
theorem ob_eq : Obeys X (rEqD X.K) gEq := by
  rintro F σ H sd x y a b pv pd Q R ⟨s1, s2, q⟩
  obtain ⟨r1, r2, R0⟩ := two (X := X) R
  exact ⟨a, b, r1.dp, r2.dp, s1, s2, q _ H (push (X := X) R0 fun _ => .bl _)⟩
theorem ob_ne : Obeys X (rNeD X.K) gNe := by
  rintro F σ H sd x y a b pv pd Q R ⟨s1, s2, q⟩
  obtain ⟨r1, r2, R0⟩ := two (X := X) R
  exact ⟨a, b, r1.dp, r2.dp, s1, s2, q _ H (push (X := X) R0 fun _ => .bl _)⟩
/-- is, is not: None; bools -/
def gIs (n : Bool) : O2 := fun a b Q => match a, b with
  | .bool i, .bool j => Q (.val (.bool (n != decide (i = j))))
  | .none, .none => Q (.val (.bool (!n)))
  | _, .none => Q (.val (.bool n))
  | _, _ => False
theorem gIs_mono {n : Bool} : MonoO (gIs n) := by
  intro a b Q Q' hq h
  unfold gIs at h ⊢
  split at h <;> first | exact hq _ h | exact h.elim
end
end Ev

/-! EvD: tests, places, displays, calls of built-ins. -/
namespace Ev
open PySem PySem.Spec PyProof.Rows L2
section
variable {X : Cx} {P : Par} {F : Fm} {σ : L2.St} {H H' : Hp} {sd sd' : Sd} {pv : List V} {pd : List D}

theorem one {x : V} {a : D} (R : F.R X.K σ H sd (x :: pv) (a :: pd)) : Rep X.K H x a ∧ F.R X.K σ H sd pv pd := by
  have r := RelP.at R
  cases r with
  | cons h1 r => exact ⟨h1, RelP.drop R⟩
/-- a pending value opened: its items pending -/
theorem openT {x : V} {xs : List D} (R : F.R X.K σ H sd (x :: pv) (.tuple xs :: pd)) : ∃ a us, x = .ref a ∧ H a = some (.tup us) ∧ us.length = xs.length ∧ F.R X.K σ H sd (us ++ (x :: pv)) (xs ++ (.tuple xs :: pd)) := by
  obtain ⟨ow, W⟩ := R
  have W2 := W.pend
  cases W2 with
  | cons h1 r =>
    obtain ⟨a, us, e, t, k⟩ := rep_tup h1
    have whole : Same (hid (Hd F.M0 ow) H) H := fun c u z => (hid_some.mp z).2.1
    exact ⟨a, us, e, whole _ _ t, k.len, ow, W.fr, W.m0, W.inj, W.out, W.pin, W.sl, k.app (.cons h1 r)⟩
theorem openL {x : V} {xs : List D} (R : F.R X.K σ H sd (x :: pv) (.list xs :: pd)) : ∃ a us, x = .ref a ∧ SqL X.K H a us ∧ us.length = xs.length ∧ F.R X.K σ H sd (us ++ (x :: pv)) (xs ++ (.list xs :: pd)) := by
  obtain ⟨ow, W⟩ := R
  have W2 := W.pend
  cases W2 with
  | cons h1 r =>
    obtain ⟨a, us, e, t, k⟩ := rep_lst h1
    have whole : Same (hid (Hd F.M0 ow) H) H := fun c u z => (hid_some.mp z).2.1
    exact ⟨a, us, e, whole.seq t, k.len, ow, W.fr, W.m0, W.inj, W.out, W.pin, W.sl, k.app (.cons h1 r)⟩
/-- an item of pending ones -/
theorem pickR {us vs : List V} {xs ds : List D} {j : Nat} {d : D} (R : F.R X.K σ H sd (us ++ vs) (xs ++ ds)) (hl : us.length = xs.length) (hd : xs[j]? = some d) : ∃ v, us[j]? = some v ∧ F.R X.K σ H sd (v :: vs) (d :: ds) := by
  have hj : j < us.length := by rw [hl]; exact (List.getElem?_eq_some_iff.mp hd).1
  refine ⟨us[j], List.getElem?_eq_getElem hj, RelP.pend R fun Hh r => ?_⟩
  obtain ⟨r1, r2⟩ := Reps.split hl r
  obtain ⟨v, e, h⟩ := r1.get hd
  rw [List.getElem?_eq_getElem hj] at e
  cases e
  exact .cons h r2
theorem dropR {us vs : List V} {xs ds : List D} (R : F.R X.K σ H sd (us ++ vs) (xs ++ ds)) (hl : us.length = xs.length) : F.R X.K σ H sd vs ds := RelP.pend R fun Hh r => (Reps.split hl r).2
theorem _root_.L2.PE.or {e : Expr} {t t' u : TE} (h : PE X e t) (h' : PE X e t') (i : ∀ σ H Q, u σ H Q → t σ H Q ∨ t' σ H Q) : PE X e u := ⟨fun pins s σ H Q I q => by
  rcases i σ H Q q with q | q
  · exact h.run pins s σ H Q I q
  · exact h'.run pins s σ H Q I q⟩

/-! ### truth -/
def truD : D → Bool → Prop
  | .none, k => k = false
  | .bool b, k => k = b
  | .int i, k => k = (i != 0)
  | .str y, k => y.length ≤ sizeLine ∧ k = ((y.length : Int) != 0)
  | .tuple xs, k => k = !xs.isEmpty
  | .list xs, k => k = !xs.isEmpty
  | .dict _, _ => False
theorem isEmpty_len {α β : Type} {xs : List α} {ys : List β} (h : xs.length = ys.length) : xs.isEmpty = ys.isEmpty := by
  cases xs <;> cases ys <;> simp_all
theorem tru_of {x : V} {d : D} {k : Bool} (r : Rep X.K H x d) (h : truD d k) : TruV X.K x H k := by
  cases d with
  | none => cases rep_non r; exact h
  | bool b => cases rep_bl r; exact h
  | int i => cases rep_int r; exact h
  | str y => cases rep_str r; exact h
  | tuple xs =>
    obtain ⟨a, us, rfl, t, k1⟩ := rep_tup r
    exact .inr (.inl ⟨us, SqT.of t, by rw [isEmpty_len k1.len]; exact h⟩)
  | list xs =>
    obtain ⟨a, us, rfl, t, k1⟩ := rep_lst r
    exact .inl ⟨us, t, by rw [isEmpty_len k1.len]; exact h⟩
  | dict _ => exact False.elim h
def wTru (w : WT) : WC := fun sd xp Q => sub w sd xp fun d sd1 => ∃ k, truD d k ∧ Q k sd1
theorem wTru_mono {w : WT} (m : Mono w) : MonoC (wTru w) := fun sd xp xp' Q Q' hx hq h => sub_mono m hx (fun d s ⟨k, e, q⟩ => ⟨k, e, hq _ _ q⟩) h
theorem jc_tru {e : Expr} {w : WT} (j : JE X P e w) (he : ∀ whole, isTrue e X.env whole = (do let v ← whole; standAt e.pos; holding [v] (truthy v))) : JC X P e (wTru w) := by
  refine ⟨(pt_truth j.pe he).imp fun σ H Q h => ?_, wTru_mono j.mono⟩
  obtain ⟨F, sd, pv, pd, ok, R, h⟩ := h
  refine tl.sub j ok R h fun d sd1 v H1 h1 R1 => ?_
  obtain ⟨k, t, q⟩ := h1
  obtain ⟨r, R0⟩ := one (X := X) R1
  exact ⟨k, tru_of r t, q H1 R0⟩
/-- a comparison's answer as a test -/
def wBl (w : WT) : WC := fun sd xp Q => sub w sd xp fun d sd1 => ∃ k, d = .bool k ∧ Q k sd1
theorem wBl_mono {w : WT} (m : Mono w) : MonoC (wBl w) := fun sd xp xp' Q Q' hx hq h => sub_mono m hx (fun d s ⟨k, e, q⟩ => ⟨k, e, hq _ _ q⟩) h
theorem bl_imp {w : WT} {t : TE} (i : ∀ σ H Q, tl X.K P w σ H Q → t σ H Q) (m : Mono w) : ∀ σ H Q, tlc X.K P (wBl w) σ H Q → tTest t σ H Q := by
  intro σ H Q ⟨F, sd, pv, pd, ok, R, h⟩
  refine i σ H _ ⟨F, sd, pv, pd, ok, R, m sd F.xp F.xp _ _ (fun _ q => q) (fun r s q v H' rel => ?_) h⟩
  obtain ⟨d, R1, k, e, q1⟩ := rrfrz (X := X) rel q
  subst e
  obtain ⟨r, R0⟩ := one (X := X) R1
  exact ⟨k, rep_bl r, q1 H' R0⟩
theorem jc_cmp {op : CmpOp} {r : R2} {g : O2} {a b : Expr} {wa wb : WT} {pos : Pos} (ho : OpR X (compareOp op) r) (ob : Obeys X r g) (hg : MonoO g) (ja : JE X P a wa) (jb : JE X P b wb) (hm : behindInMarks op b = false) : JC X P (.Compare a [op] [b] pos) (wBl (wOp g wa wb)) :=
  ⟨(pt_cmpR ho ja.pe jb.pe hm).imp (bl_imp (op_imp ob ja jb) (wOp_mono hg ja.mono jb.mono)), wBl_mono (wOp_mono hg ja.mono jb.mono)⟩
/-- a op b op' c -/
def wCh (g g' : O2) (wa wb wc : WT) : WT := fun sd xp Q => sub wa sd xp fun a sd1 => sub wb sd1 xp fun b sd2 => g a b fun r => frz r fun z => ∃ k, z = .bool k ∧ if k = true then sub wc sd2 xp fun c sd3 => g' b c fun r => Q r sd3 else Q (.val (.bool false)) sd2
theorem wCh_mono {g g' : O2} {wa wb wc : WT} (hg : MonoO g) (hg' : MonoO g') (ma : Mono wa) (mb : Mono wb) (mc : Mono wc) : Mono (wCh g g' wa wb wc) := fun sd xp xp' Q Q' hx hq h =>
  sub_mono ma hx (fun a s h1 => sub_mono mb hx (fun b s2 h2 => hg a b _ _ (fun r q => frz_mono (fun z ⟨k, e, q⟩ => ⟨k, e, by
    cases k with
    | true => exact sub_mono mc hx (fun c s3 q3 => hg' b c _ _ (fun r q => hq r s3 q) q3) q
    | false => exact hq _ _ q⟩) q) h2) h1) h
/-- comparisons of ints, for chains: the answer is a bool, the heap stays -/
theorem ch_imp {f f' : Int → Int → Bool} {a b c : Expr} {wa wb wc : WT} (ja : JE X P a wa) (jb : JE X P b wb) (jc : JE X P c wc) :
    ∀ σ H Q, tl X.K P (wCh (gB f) (gB f') wa wb wc) σ H Q → tChain (rI0 fun i j => .bl (f i j)) (rI0 fun i j => .bl (f' i j)) (tl X.K P wa) (tl X.K P wb) (tl X.K P wc) σ H Q := by
  intro σ H Q ⟨F, sd, pv, pd, ok, R, h⟩
  refine tl.sub ja ok R h fun a sd1 x H1 h1 R1 => ?_
  refine tl.sub jb ok R1 h1 fun b sd2 y H2 h2 R2 => ?_
  obtain ⟨i, j, rfl, rfl, k, e, q⟩ := h2
  obtain ⟨r1, r2, R0⟩ := two (X := X) R2
  cases e
  refine ⟨i, j, rep_int r1, rep_int r2, f i j, rfl, ?_⟩
  cases hk : f i j with
  | false =>
    rw [hk] at q
    exact q _ H2 (push (X := X) R0 fun _ => .bl _)
  | true =>
    rw [hk] at q
    refine tl.sub jc ok R2 q fun c sd3 z H3 h3 R3 => ?_
    obtain ⟨j', k', e1, e2, q3⟩ := h3
    cases e1
    subst e2
    have r3 := RelP.at R3
    cases r3 with
    | cons g1 r3 => cases r3 with
      | cons g2 r3 => exact ⟨_, k', rep_int g2, rep_int g1, q3 _ H3 (push (X := X) (RelP.drop (RelP.drop (RelP.drop R3))) fun _ => .bl _)⟩
section
variable {a b c : Expr} {wa wb wc : WT} {pos : Pos} {op op' : CmpOp} {f f' : Int → Int → Bool}
theorem je_chain (ho : OpR X (compareOp op) (rI0 fun i j => .bl (f i j))) (ho' : OpR X (compareOp op') (rI0 fun i j => .bl (f' i j))) (ja : JE X P a wa) (jb : JE X P b wb) (jc : JE X P c wc) (hm : lastMarks [op, op'] [b, c] = false) :
    JE X P (.Compare a [op, op'] [b, c] pos) (wCh (gB f) (gB f') wa wb wc) :=
  ⟨(pe_chain ho ho' ja.pe jb.pe jc.pe hm).imp (ch_imp ja jb jc), wCh_mono gB_mono gB_mono ja.mono jb.mono jc.mono⟩
theorem jc_chain (ho : OpR X (compareOp op) (rI0 fun i j => .bl (f i j))) (ho' : OpR X (compareOp op') (rI0 fun i j => .bl (f' i j))) (ja : JE X P a wa) (jb : JE X P b wb) (jc : JE X P c wc) (hm : lastMarks [op, op'] [b, c] = false) :
    JC X P (.Compare a [op, op'] [b, c] pos) (wBl (wCh (gB f) (gB f') wa wb wc)) :=
  ⟨(pt_chain ho ho' ja.pe jb.pe jc.pe hm).imp (bl_imp (ch_imp ja jb jc) (wCh_mono gB_mono gB_mono ja.mono jb.mono jc.mono)), wBl_mono (wCh_mono gB_mono gB_mono ja.mono jb.mono jc.mono)⟩
end
/-! ### and, or, not, if -/
def wAndC (u v : WC) : WC := fun sd xp Q => u sd xp fun k sd1 => if k = true then v sd1 xp Q else Q false sd1
def wOrC (u v : WC) : WC := fun sd xp Q => u sd xp fun k sd1 => if k = true then Q true sd1 else v sd1 xp Q
def wNotC (u : WC) : WC := fun sd xp Q => u sd xp fun k sd1 => Q (!k) sd1
theorem wAndC_mono {u v : WC} (mu : MonoC u) (mv : MonoC v) : MonoC (wAndC u v) := fun sd xp xp' Q Q' hx hq h => mu sd xp xp' _ _ hx (fun k s q => by
  cases k with
  | true => exact mv s xp xp' _ _ hx hq q
  | false => exact hq _ _ q) h
theorem wOrC_mono {u v : WC} (mu : MonoC u) (mv : MonoC v) : MonoC (wOrC u v) := fun sd xp xp' Q Q' hx hq h => mu sd xp xp' _ _ hx (fun k s q => by
  cases k with
  | false => exact mv s xp xp' _ _ hx hq q
  | true => exact hq _ _ q) h
theorem wNotC_mono {u : WC} (mu : MonoC u) : MonoC (wNotC u) := fun sd xp xp' Q Q' hx hq h => mu sd xp xp' _ _ hx (fun k s q => hq _ _ q) h
theorem JW.jc {e : Expr} {w : WC} (j : JW X P e w) : JC X P e w := ⟨j.pw.pt, j.mono⟩
section
variable {a b : Expr} {rest : List Expr} {u v : WC} {wa wb : WT} {pos : Pos}
theorem jw_and1 (ja : JC X P a u) : JW X P (.BoolOp .And [a] pos) u := ⟨pw_and1 ja.pt, ja.mono⟩
theorem jw_or1 (ja : JC X P a u) : JW X P (.BoolOp .Or [a] pos) u := ⟨pw_or1 ja.pt, ja.mono⟩
theorem jw_and (ja : JC X P a u) (jb : JW X P (.BoolOp .And (b :: rest) pos) v) : JW X P (.BoolOp .And (a :: b :: rest) pos) (wAndC u v) := by
  refine ⟨(pw_and ja.pt jb.pw).imp fun σ H Q h => ?_, wAndC_mono ja.mono jb.mono⟩
  obtain ⟨F, sd, pv, pd, ok, R, h⟩ := h
  refine tlc.go (e := a) ja.mono ok R h fun k sd1 H1 h1 R1 => ?_
  cases k with
  | true => exact ⟨F, sd1, pv, pd, ok, R1, h1⟩
  | false => exact h1 H1 R1
theorem jw_or (ja : JC X P a u) (jb : JW X P (.BoolOp .Or (b :: rest) pos) v) : JW X P (.BoolOp .Or (a :: b :: rest) pos) (wOrC u v) := by
  refine ⟨(pw_or ja.pt jb.pw).imp fun σ H Q h => ?_, wOrC_mono ja.mono jb.mono⟩
  obtain ⟨F, sd, pv, pd, ok, R, h⟩ := h
  refine tlc.go (e := a) ja.mono ok R h fun k sd1 H1 h1 R1 => ?_
  cases k with
  | false => exact ⟨F, sd1, pv, pd, ok, R1, h1⟩
  | true => exact h1 H1 R1
theorem jc_not (ja : JC X P a u) : JC X P (.UnaryOp .Not a pos) (wNotC u) := by
  refine ⟨(pt_not ja.pt).imp fun σ H Q h => ?_, wNotC_mono ja.mono⟩
  obtain ⟨F, sd, pv, pd, ok, R, h⟩ := h
  exact tlc.go (e := a) ja.mono ok R h fun k sd1 H1 h1 R1 => h1 H1 R1
/-- as values: all but the last are bools -/
def wAndV (wa wb : WT) : WT := fun sd xp Q => sub wa sd xp fun d sd1 => ∃ k, d = .bool k ∧ if k = true then wb sd1 xp Q else Q (.val (.bool false)) sd1
def wOrV (wa wb : WT) : WT := fun sd xp Q => sub wa sd xp fun d sd1 => ∃ k, d = .bool k ∧ if k = true then Q (.val (.bool true)) sd1 else wb sd1 xp Q
theorem wAndV_mono (ma : Mono wa) (mb : Mono wb) : Mono (wAndV wa wb) := fun sd xp xp' Q Q' hx hq h => sub_mono ma hx (fun d s ⟨k, e, q⟩ => ⟨k, e, by
  cases k with
  | true => exact mb s xp xp' _ _ hx hq q
  | false => exact hq _ _ q⟩) h
theorem wOrV_mono (ma : Mono wa) (mb : Mono wb) : Mono (wOrV wa wb) := fun sd xp xp' Q Q' hx hq h => sub_mono ma hx (fun d s ⟨k, e, q⟩ => ⟨k, e, by
  cases k with
  | false => exact mb s xp xp' _ _ hx hq q
  | true => exact hq _ _ q⟩) h
theorem je_one {op : BoolOp} (ja : JE X P a wa) : JE X P (.BoolOp op [a] pos) wa := ⟨pe_one ja.pe, ja.mono⟩
theorem je_and (ja : JE X P a wa) (jb : JE X P (.BoolOp .And (b :: rest) pos) wb) : JE X P (.BoolOp .And (a :: b :: rest) pos) (wAndV wa wb) := by
  refine ⟨(pe_and ja.pe jb.pe).imp fun σ H Q h => ?_, wAndV_mono ja.mono jb.mono⟩
  obtain ⟨F, sd, pv, pd, ok, R, h⟩ := h
  refine tl.sub ja ok R h fun d sd1 x H1 h1 R1 => ?_
  obtain ⟨k, rfl, q⟩ := h1
  obtain ⟨r, R0⟩ := one (X := X) R1
  refine ⟨k, rep_bl r, ?_⟩
  cases k with
  | true => exact ⟨F, sd1, pv, pd, ok, R0, q⟩
  | false => exact q _ H1 (push (X := X) R0 fun _ => .bl _)
theorem je_or (ja : JE X P a wa) (jb : JE X P (.BoolOp .Or (b :: rest) pos) wb) : JE X P (.BoolOp .Or (a :: b :: rest) pos) (wOrV wa wb) := by
  refine ⟨(pe_or ja.pe jb.pe).imp fun σ H Q h => ?_, wOrV_mono ja.mono jb.mono⟩
  obtain ⟨F, sd, pv, pd, ok, R, h⟩ := h
  refine tl.sub ja ok R h fun d sd1 x H1 h1 R1 => ?_
  obtain ⟨k, rfl, q⟩ := h1
  obtain ⟨r, R0⟩ := one (X := X) R1
  refine ⟨k, rep_bl r, ?_⟩
  cases k with
  | false => exact ⟨F, sd1, pv, pd, ok, R0, q⟩
  | true => exact q _ H1 (push (X := X) R0 fun _ => .bl _)
def wNotV (wa : WT) : WT := fun sd xp Q => sub wa sd xp fun d sd1 => ∃ k, truD d k ∧ Q (.val (.bool (!k))) sd1
theorem wNotV_mono (ma : Mono wa) : Mono (wNotV wa) := fun sd xp xp' Q Q' hx hq h => sub_mono ma hx (fun d s ⟨k, e, q⟩ => ⟨k, e, hq _ _ q⟩) h
theorem je_not (ja : JE X P a wa) : JE X P (.UnaryOp .Not a pos) (wNotV wa) := by
  refine ⟨(pe_notT ja.pe).imp fun σ H Q h => ?_, wNotV_mono ja.mono⟩
  obtain ⟨F, sd, pv, pd, ok, R, h⟩ := h
  refine tl.sub ja ok R h fun d sd1 x H1 h1 R1 => ?_
  obtain ⟨k, t, q⟩ := h1
  obtain ⟨r, R0⟩ := one (X := X) R1
  exact ⟨k, tru_of r t, q _ H1 (push (X := X) R0 fun _ => .bl _)⟩
def wIf (u : WC) (wa wb : WT) : WT := fun sd xp Q => u sd xp fun k sd1 => if k = true then wa sd1 xp Q else wb sd1 xp Q
theorem wIf_mono (mu : MonoC u) (ma : Mono wa) (mb : Mono wb) : Mono (wIf u wa wb) := fun sd xp xp' Q Q' hx hq h => mu sd xp xp' _ _ hx (fun k s q => by
  cases k with
  | true => exact ma s xp xp' _ _ hx hq q
  | false => exact mb s xp xp' _ _ hx hq q) h
theorem je_if {c : Expr} (jc : JC X P c u) (ja : JE X P a wa) (jb : JE X P b wb) : JE X P (.IfExp c a b pos) (wIf u wa wb) := by
  refine ⟨(pe_ifExp jc.pt ja.pe jb.pe).imp fun σ H Q h => ?_, wIf_mono jc.mono ja.mono jb.mono⟩
  obtain ⟨F, sd, pv, pd, ok, R, h⟩ := h
  refine tlc.go (e := c) jc.mono ok R h fun k sd1 H1 h1 R1 => ?_
  cases k with
  | true => exact ⟨F, sd1, pv, pd, ok, R1, h1⟩
  | false => exact ⟨F, sd1, pv, pd, ok, R1, h1⟩
/-- -n -/
def wNeg (wa : WT) : WT := fun sd xp Q => sub wa sd xp fun d sd1 => ∃ i, d = .int i ∧ Q (.val (.int (-i))) sd1
theorem wNeg_mono (ma : Mono wa) : Mono (wNeg wa) := fun sd xp xp' Q Q' hx hq h => sub_mono ma hx (fun d s ⟨k, e, q⟩ => ⟨k, e, hq _ _ q⟩) h
theorem je_neg (ja : JE X P a wa) : JE X P (.UnaryOp .USub a pos) (wNeg wa) := by
  refine ⟨(pe_un un_neg ja.pe).imp fun σ H Q h => ?_, wNeg_mono ja.mono⟩
  obtain ⟨F, sd, pv, pd, ok, R, h⟩ := h
  refine tl.sub ja ok R h fun d sd1 x H1 h1 R1 => ?_
  obtain ⟨i, rfl, q⟩ := h1
  obtain ⟨r, R0⟩ := one (X := X) R1
  exact ⟨i, rep_int r, q _ H1 (push (X := X) R0 fun _ => .int _)⟩
end
theorem rIs_of {n : Bool} : Obeys X (fun x y H Q => (y = .non ∧ Q (.bl (if n then !decide (x = .non) else decide (x = .non))) H) ∨ ∃ a b, x = .bl a ∧ y = .bl b ∧ Q (.bl (if n then !decide (a = b) else decide (a = b))) H) (gIs n) := by
  intro F σ H sd x y a b pv pd Q R h
  obtain ⟨r1, r2, R0⟩ := two (X := X) R
  unfold gIs at h
  split at h
  · rename_i i j
    refine .inr ⟨i, j, rep_bl r1, rep_bl r2, h _ H (push (X := X) R0 fun _ => ?_)⟩
    cases n <;> cases i <;> cases j <;> exact .bl _
  · refine .inl ⟨rep_non r2, h _ H (push (X := X) R0 fun _ => ?_)⟩
    rw [rep_non r1]
    cases n <;> exact .bl _
  · rename_i hne
    refine .inl ⟨rep_non r2, h _ H (push (X := X) R0 fun _ => ?_)⟩
    have : x ≠ V.non := fun e => by
      subst e
      cases a <;> first
        | exact hne rfl
        | cases r1
    rw [decide_eq_false this]
    cases n <;> exact .bl _
  · exact h.elim
theorem op_isD : OpR X (compareOp .Is) (fun x y H Q => (y = .non ∧ Q (.bl (if false = true then !decide (x = .non) else decide (x = .non))) H) ∨ ∃ a b, x = .bl a ∧ y = .bl b ∧ Q (.bl (if false = true then !decide (a = b) else decide (a = b))) H) := op_isN.or op_is_bl
theorem op_isnotD : OpR X (compareOp .IsNot) (fun x y H Q => (y = .non ∧ Q (.bl (if true = true then !decide (x = .non) else decide (x = .non))) H) ∨ ∃ a b, x = .bl a ∧ y = .bl b ∧ Q (.bl (if true = true then !decide (a = b) else decide (a = b))) H) := op_notN.or op_isnot_bl

/-! ### places -/
def gIx : O2 := fun a b Q => ∃ i, b = .int i ∧ match a with
  | .tuple xs => ∃ d, atI xs i = some d ∧ Q (.val d)
  | .list xs => ∃ d, atI xs i = some d ∧ Q (.val d)
  | .str z => z.length ≤ sizeLine ∧ ∃ c, atI z.cps.toList i = some c ∧ Q (.val (.str ⟨#[c]⟩))
  | _ => False
theorem gIx_mono : MonoO gIx := by
  rintro a b Q Q' hq ⟨i, e, h⟩
  refine ⟨i, e, ?_⟩
  cases a <;> first
    | exact h.elim
    | exact ⟨h.choose, h.choose_spec.1, hq _ h.choose_spec.2⟩
    | exact ⟨h.1, h.2.choose, h.2.choose_spec.1, hq _ h.2.choose_spec.2⟩
theorem atI_ix {α : Type} {xs : List α} {i : Int} {d : α} (h : atI xs i = some d) : ∃ j, ixN xs.length i = some j ∧ xs[j]? = some d := by
  unfold atI at h
  cases e : ixN xs.length i with
  | none => rw [e] at h; cases h
  | some j => rw [e] at h; exact ⟨j, rfl, h⟩
theorem atI_of {α : Type} {xs : List α} {i : Int} {j : Nat} {v : α} (e : ixN xs.length i = some j) (h : xs[j]? = some v) : atI xs i = some v := by
  unfold atI; rw [e]; exact h
theorem ob_ix : Obeys X (rIx X.K) gIx := by
  rintro F σ H sd x y a b pv pd Q R ⟨i, rfl, h⟩
  have ry := (one (X := X) R).1
  have R1 := RelP.drop R
  cases a with
  | tuple xs =>
    obtain ⟨d, hd, q⟩ := h
    obtain ⟨p, us, rfl, t, hl, R2⟩ := openT (X := X) R1
    obtain ⟨j, e1, e2⟩ := atI_ix hd
    obtain ⟨v, ev, R3⟩ := pickR (X := X) R2 hl e2
    refine .inr (.inl ⟨p, us, i, v, rfl, rep_int ry, SqT.of t, atI_of (by rw [hl]; exact e1) ev, q v H (RelP.pend R3 fun _ r => ?_)⟩)
    cases r with | cons r1 r => cases r with | cons r2 r => exact .cons r1 r
  | list xs =>
    obtain ⟨d, hd, q⟩ := h
    obtain ⟨p, us, rfl, t, hl, R2⟩ := openL (X := X) R1
    obtain ⟨j, e1, e2⟩ := atI_ix hd
    obtain ⟨v, ev, R3⟩ := pickR (X := X) R2 hl e2
    refine .inl ⟨p, us, i, v, rfl, rep_int ry, t, atI_of (by rw [hl]; exact e1) ev, q v H (RelP.pend R3 fun _ r => ?_)⟩
    cases r with | cons r1 r => cases r with | cons r2 r => exact .cons r1 r
  | str z =>
    obtain ⟨hz, c, hc, q⟩ := h
    exact .inr (.inr ⟨z, i, c, rep_str (one (X := X) R1).1, rep_int ry, hz, hc, q _ H (push (X := X) (RelP.drop R1) fun _ => .str _)⟩)
  | _ => exact h.elim
/-- x[i] of a list that the name x owns -/
def wIxS (i : Nat) (wb : WT) : WT := fun sd xp Q => (∃ o, sd[i]? = some (some (.ob o))) ∧ sub wb sd xp fun b sd1 => ∃ xs j d, sd1[i]? = some (some (.ob (.L xs))) ∧ b = .int j ∧ atI xs j = some d ∧ Q (.val d) sd1
theorem wIxS_mono {i : Nat} {wb : WT} (m : Mono wb) : Mono (wIxS i wb) := fun sd xp xp' Q Q' hx hq ⟨e, h⟩ => ⟨e, sub_mono m hx (fun b s ⟨xs, j, d, e1, e2, e3, q⟩ => ⟨xs, j, d, e1, e2, e3, hq _ _ q⟩) h⟩
theorem pe_ixS {i : Nat} {x : Str} {b : Expr} {wb : WT} {p pos : Pos} (hN : X.N[i]? = some x) (hv : Vis X.env.scope x) (hd : (x == ("__debug__" : Str)) = false) (hcd : (x == ("__classdict__" : Str)) = false) (jb : JE X P b wb) (hs : PlainIx b) :
    PE X (.Subscript (.Name x p) b pos) (tl X.K P (wIxS i wb)) := by
  refine (pe_ix ix_list (pe_var (pos := p) hN hv hd hcd) jb.pe hs).imp fun σ H Q h => ?_
  obtain ⟨F, sd, pv, pd, ok, R, ⟨o, ho⟩, h⟩ := h
  have R' := R
  obtain ⟨ow, W⟩ := R'
  obtain ⟨a, hob, e1, e2, e3, e4⟩ := W.sl i _ ho
  refine ⟨.ref a, e1, ?_⟩
  refine tl.sub jb ok R h fun d sd1 y H1 h1 R1 => ?_
  obtain ⟨xs, j, d', g1, rfl, g2, q⟩ := h1
  obtain ⟨r, R0⟩ := one (X := X) R1
  obtain ⟨a', us, f1, f2, hl, R2⟩ := RelP.peekL R0 g1
  rw [e1] at f1
  have : a = a' := by injection f1 with f1; injection f1 with f1; injection f1
  subst this
  obtain ⟨k, e5, e6⟩ := atI_ix g2
  obtain ⟨v, ev, R3⟩ := pickR (X := X) R2 hl e6
  exact ⟨a, us, j, v, rfl, rep_int r, SqL.of f2, atI_of (by rw [hl]; exact e5) ev, q v H1 R3⟩
def wIxN (i : Nat) (wb : WT) : WT := fun sd xp Q => match sd[i]? with
  | some (some (.ob _)) => wIxS i wb sd xp Q
  | _ => wOp gIx (wVar i) wb sd xp Q
theorem wIxN_mono {i : Nat} {wb : WT} (m : Mono wb) : Mono (wIxN i wb) := by
  intro sd xp xp' Q Q' hx hq h
  unfold wIxN at h ⊢
  split
  · rename_i e
    rw [e] at h
    exact wIxS_mono m sd xp xp' Q Q' hx hq h
  · rename_i e
    split at h
    · rename_i e2; exact absurd e2 (e _)
    · exact wOp_mono gIx_mono (wVar_mono i) m sd xp xp' Q Q' hx hq h
theorem je_ixN {i : Nat} {x : Str} {b : Expr} {wb : WT} {p pos : Pos} (hN : X.N[i]? = some x) (hv : Vis X.env.scope x) (hd : (x == ("__debug__" : Str)) = false) (hcd : (x == ("__classdict__" : Str)) = false) (jb : JE X P b wb) (hs : PlainIx b) :
    JE X P (.Subscript (.Name x p) b pos) (wIxN i wb) := by
  refine ⟨(pe_ixS (P := P) (p := p) (pos := pos) hN hv hd hcd jb hs).or (je_sub (P := P) (pos := pos) ix_seq ob_ix gIx_mono (je_var (pos := p) hN hv hd hcd) jb hs).pe fun σ H Q h => ?_, wIxN_mono jb.mono⟩
  obtain ⟨F, sd, pv, pd, ok, R, h⟩ := h
  unfold wIxN at h
  split at h
  · exact .inl ⟨F, sd, pv, pd, ok, R, h⟩
  · exact .inr ⟨F, sd, pv, pd, ok, R, h⟩
end
end Ev

/-! EvS: sorted of a dict whose keys are tuples of ints. -/
namespace Ev
open PySem PySem.Spec PyProof.Rows L2
theorem perm_lift {α β : Type} {f : α → β} : ∀ {l : List β} {m : List α}, l.Perm (m.map f) → ∃ r : List α, r.Perm m ∧ r.map f = l
  | [], m, h => by
    have e : m.map f = [] := h.symm.eq_nil
    exact ⟨[], by rw [List.map_eq_nil_iff.mp e], rfl⟩
  | b :: l, m, h => by
    obtain ⟨x, mx, ex⟩ := List.mem_map.mp (h.mem_iff.mp List.mem_cons_self)
    obtain ⟨s, t, rfl⟩ := List.append_of_mem mx
    have h2 : (b :: l).Perm (b :: (s ++ t).map f) := by
      refine h.trans ?_
      rw [← ex, ← List.map_cons]
      exact List.perm_middle.map f
    obtain ⟨r, hr, e⟩ := perm_lift ((List.perm_cons b).mp h2)
    exact ⟨x :: r, (hr.cons x).trans List.perm_middle.symm, by rw [List.map_cons, e, ex]⟩
theorem rows_of {H : Hp} {kvs : List (List Key × V)} {bs : List Addr} (h : IsKeys H kvs bs) : ∀ {nss : List (List Int)}, kvs.map (·.1) = nss.map (fun ns => ns.map Sum.inl) → ∃ L : List (Addr × List Int), L.map (·.1) = bs ∧ L.map (·.2) = nss ∧ ∀ r ∈ L, H r.1 = some (.tup (r.2.map V.int)) := by
  unfold IsKeys at h
  induction h with
  | nil =>
    intro nss e
    cases nss with
    | nil => exact ⟨[], rfl, rfl, by simp⟩
    | cons _ _ => cases e
  | @cons p b kvs bs hb _ ih =>
    intro nss e
    cases nss with
    | nil => cases e
    | cons ns nss =>
      obtain ⟨e1, e2⟩ := List.cons.inj e
      obtain ⟨L, h1, h2, h3⟩ := ih e2
      refine ⟨(b, ns) :: L, by rw [List.map_cons, h1], by rw [List.map_cons, h2], fun r m => ?_⟩
      rcases List.mem_cons.mp m with rfl | m
      · show H b = _
        rw [hb]
        have : p.1 = ns.map Sum.inl := e1
        rw [this, List.map_map]
        rfl
      · exact h3 r m
section
variable {X : Cx}
def rSortedDT (d : Nat) (B : Int) : List V → Hp → VK → Prop := fun xs H Q => ∃ (a : Addr) (kvs : List (List Key × V)) (nss : List (List Int)), xs = [.ref a] ∧ Rd H a (.dT kvs) ∧ kvs.map (·.1) = nss.map (fun ns => ns.map Sum.inl) ∧ nss.length < 64 ∧ (∀ ns ∈ nss, ns.length = d ∧ TS.Bd B ns) ∧
  ∀ (rs : List (Addr × List Int)) (p : Addr), (rs.map (·.2)).Perm nss → (∀ r ∈ rs, H r.1 = some (.tup (r.2.map V.int))) → rs.Pairwise (fun q r => TS.code B q.2 ≤ TS.code B r.2) → H p = none → Q (.ref p) (upd H p (.lst (rs.map fun r => V.ref r.1)))
theorem call_sortedDT {d : Nat} {B : Int} (hd : 1 ≤ d) (hc : X.calm = true) : CallR X (.builtin "sorted") (rSortedDT d B) := by
  intro pins s σ H xs us Q I r q
  obtain ⟨a, kvs, nss, rfl, hdr, hks, h64, hB, q⟩ := q
  obtain ⟨u, rfl, rx⟩ := r.one
  cases rx
  obtain ⟨z, hs, ks, pr, o, es, ep, ho, hx, hdt, he, hn⟩ := (show ObjOk X.prog X.w H s.heap a (.dT kvs) from hdr.ok I.hok)
  have l1 : es.size = ks.length := size_of_entries he
  have l2 : kvs.length = ks.length := Paired.length pr
  refine Calls.call_function_entry PyProof.Rows.kind_sorted PyProof.Rows.plain_sorted PyProof.Rows.entry_sorted (PyProof.Rows.args_sorted1 _) ?_
  unfold Builtin.«sorted»
  refine wpAny_bind (m := checkCount "sorted" 1 1 _) (wpAny_pure ?_)
  refine wpAny_bind (PySem.W.kdu_collect (A := X.A.in1) (kdl_raw hs hx hdt) (I.ok.hd hc) ho (by omega) fun h' tk acc hk it => ?_)
  have ea : acc.toList = ks.map fun x => Value.ref x.2.1 := by
    have hl : acc.toList.length = ks.length := by rw [Array.length_toList, it.1]; exact l1
    apply List.ext_getElem?
    intro j
    rw [List.getElem?_map]
    cases hj : acc.toList[j]? with
    | none =>
      rw [List.getElem?_eq_none (by have := List.getElem?_eq_none_iff.mp hj; omega)]
      rfl
    | some v =>
      obtain ⟨en, hen, hv⟩ := it.2 j v (by rw [← Array.getElem?_toList]; exact hj)
      have qe := entry_at he j
      rw [hen] at qe
      cases hb : ks[j]? with
      | none =>
        rw [hb] at qe
        exact nomatch (show some en = none from qe)
      | some b =>
        rw [hb] at qe
        have e2 : en = entryOfKey (tupleKind (mixKind X.prog X.w)) b := Option.some.inj qe
        rw [hv, e2]
        rfl
  obtain ⟨L, hL1, hL2, hL3⟩ := rows_of (isKeys_of pr) hks
  have eL : acc.toList = L.map fun r => Value.ref r.1 := by
    rw [ea, show (fun r : Addr × List Int => Value.ref r.1) = Value.ref ∘ (·.1) from rfl, ← List.map_map, hL1, List.map_map]
    rfl
  have hLn : L.length = nss.length := by rw [← hL2, List.length_map]
  have hal : acc.toList.length < 64 := by rw [eL, List.length_map, hLn]; exact h64
  have I1 : Inv X pins σ H { s with heap := h', toks := tk } := I.kept hk
  refine wpAny_bind (wpAny_newList ?_ (by rw [sizeLine_eq]; omega))
  have hoL : (h'.push (seqObj "list" acc.toList.toArray 0)).get? h'.objs.size = some (seqObj "list" acc.toList.toArray 0) := Heap.get?_push_size _ rfl
  show wpAny _ _ _ _ _ { s with heap := h'.push (seqObj "list" acc.toList.toArray 0), toks := tk }
  have hti : ∀ r ∈ L, TS.TupInts (h'.push (seqObj "list" acc.toList.toArray 0)) (.ref r.1) r.2 := fun r m => (tupI_raw I1 (SqT.of (hL3 r m))).keeps fun b o e _ => Heap.get?_push_of_some _ e
  have hok : TS.TupsOk (h'.push (seqObj "list" acc.toList.toArray 0)) d B acc.toList := fun v mv => by
    rw [eL] at mv
    obtain ⟨r, m, rfl⟩ := List.mem_map.mp mv
    have mr : r.2 ∈ nss := by rw [← hL2]; exact List.mem_map.mpr ⟨r, m, rfl⟩
    exact ⟨r.2, hti r m, (hB _ mr).1, (hB _ mr).2⟩
  refine wpAny_bind (wpAny_holding (wpAny_call_entry PyProof.Rows.slot_list_sort ⟨_, hoL, rfl⟩ PyProof.Rows.entry_list_sort
    (TS.sort_tups (s := { s with heap := h'.push (seqObj "list" acc.toList.toArray 0), toks := tk }) hoL hal hd hok (fun v => TS.code B (TS.intsOf (h'.push (seqObj "list" acc.toList.toArray 0)) v)) (fun v _ ns t => by
      show TS.code B (TS.intsOf _ v) = TS.code B ns
      rw [t.ints]) fun out h1 h2 => ⟨_, rfl, ?_⟩) (PyProof.Rows.args_list_sort _)))
  rw [eL] at h1
  obtain ⟨rs, hr1, hr2⟩ := perm_lift h1
  have hmem : ∀ r ∈ rs, r ∈ L := fun r m => hr1.mem_iff.mp m
  have hpw : rs.Pairwise (fun q r => TS.code B q.2 ≤ TS.code B r.2) := by
    rw [← hr2, List.pairwise_map] at h2
    refine List.Pairwise.imp_of_mem (fun {q r} mq mr h => ?_) h2
    rw [(hti q (hmem q mq)).ints, (hti r (hmem r mr)).ints] at h
    exact h
  obtain ⟨e', he'⟩ := PyProof.Rows.sortedHeap_at (vs := acc.toList) (out := out) hoL
  have hlen : (rs.map fun r => V.ref r.1).length ≤ sizeLine := by
    rw [List.length_map, hr1.length_eq, hLn, sizeLine_eq]
    omega
  have hv : Vals (rs.map fun r => V.ref r.1) out.toList := by
    rw [← hr2]
    have := vals_refs (rs.map (·.1))
    rw [List.map_map, List.map_map] at this
    exact this
  refine wpAny_pure ⟨_, rfl, .ref h'.objs.size, upd H h'.objs.size (.lst (rs.map fun r => V.ref r.1)), I1.laid (t' := tk) (fun b u e => ?_) (Nat.le_refl _)
    (show ObjOk X.prog X.w _ _ _ (.lst (rs.map fun r => V.ref r.1)) from ⟨hlen, out.toList, e', hv, by rw [Array.toArray_toList]; exact he'⟩), rfl, q rs _ (by rw [← hL2]; exact hr1.map _) (fun r m => hL3 r (hmem r m)) hpw (I1.hok.fresh (Nat.le_refl _))⟩
  have hb : b < h'.objs.size := Heap.lt_size e
  rw [PyProof.Rows.sortedHeap_old (Nat.ne_of_lt hb) (by rw [size_push']; exact Nat.lt_succ_of_lt hb)]
  exact Heap.get?_push_of_some _ e
end
end Ev

/-! EvE: displays, slices, calls of built-ins and of own defs. -/
namespace Ev
open PySem PySem.Spec PyProof.Rows L2
section
variable {X : Cx} {P : Par} {F : Fm} {σ : L2.St} {H H' : Hp} {sd sd' : Sd} {pv : List V} {pd : List D}

/-! ### argument lists -/
def wNil : WA := fun sd _ Q => Q [] sd
theorem wNil_mono : MonoA wNil := fun _ _ _ _ _ _ hq h => hq _ _ h
def wDat (w : WT) (r : WA) : WA := fun sd xp Q => sub w sd xp fun d sd1 => r sd1 xp fun as sd2 => Q (.dat d :: as) sd2
theorem wDat_mono {w : WT} {r : WA} (mw : Mono w) (mr : MonoA r) : MonoA (wDat w r) := fun sd xp xp' Q Q' hx hq h => sub_mono mw hx (fun d s q => mr s xp xp' _ _ hx (fun as s2 q2 => hq _ _ q2) q) h
/-- a name: the object that it owns is handed on, data goes as data -/
def wHand (i : Nat) (r : WA) : WA := fun sd xp Q => match sd[i]? with
  | some (some (.ob _)) => r sd xp fun as sd2 => Q (.slot i :: as) sd2
  | _ => wDat (wVar i) r sd xp Q
theorem wHand_mono {i : Nat} {r : WA} (mr : MonoA r) : MonoA (wHand i r) := by
  intro sd xp xp' Q Q' hx hq h
  unfold wHand at h ⊢
  split
  · rename_i e
    rw [e] at h
    exact mr sd xp xp' _ _ hx (fun as s q => hq _ _ q) h
  · rename_i e
    split at h
    · rename_i e2; exact absurd e2 (e _)
    · exact wDat_mono (wVar_mono i) mr sd xp xp' _ _ hx hq h
theorem ja_nil : JA X P [] wNil := ⟨pa_nil.imp fun σ H Q ⟨F, sd, pv, pd, ok, R, h⟩ => h [] [] [] H .nil R, wNil_mono⟩
theorem dat_imp {e : Expr} {es : List Expr} {w : WT} {r : WA} (je : JE X P e w) (jr : JA X P es r) : ∀ σ H Q, tla X.K P (wDat w r) σ H Q → tCons (tl X.K P w) (tla X.K P r) σ H Q := by
  intro σ H Q ⟨F, sd, pv, pd, ok, R, h⟩
  refine tl.sub je ok R h fun d sd1 v H1 h1 R1 => ?_
  refine tla.go jr ok R1 h1 fun as sd2 vs ws ds H2 h2 al R2 => ?_
  refine h2 (v :: vs) (v :: ws) (d :: ds) H2 (.dat al) (RelP.pend R2 fun Hh r => ?_)
  obtain ⟨r1, r2⟩ := Reps.split al.len.2 r
  cases r2 with | cons a b => exact .cons a (r1.app b)
theorem ja_dat {e : Expr} {es : List Expr} {w : WT} {r : WA} (je : JE X P e w) (jr : JA X P es r) (hs : starEach (e :: es) X.env = (false, eval e X.env) :: starEach es X.env) : JA X P (e :: es) (wDat w r) :=
  ⟨(pa_cons je.pe jr.pa hs).imp (dat_imp je jr), wDat_mono je.mono jr.mono⟩
theorem _root_.L2.PA.or {es : List Expr} {t t' u : TA} (h : PA X es t) (h' : PA X es t') (i : ∀ σ H Q, u σ H Q → t σ H Q ∨ t' σ H Q) : PA X es u := ⟨fun pos pins s σ H Q I q => by
  rcases i σ H Q q with q | q
  · exact h.run pos pins s σ H Q I q
  · exact h'.run pos pins s σ H Q I q⟩
theorem ja_hand {i : Nat} {x : Str} {es : List Expr} {r : WA} {p : Pos} (hN : X.N[i]? = some x) (hv : Vis X.env.scope x) (hd : (x == ("__debug__" : Str)) = false) (hcd : (x == ("__classdict__" : Str)) = false) (jr : JA X P es r)
    (hs : starEach (.Name x p :: es) X.env = (false, eval (.Name x p) X.env) :: starEach es X.env) : JA X P (.Name x p :: es) (wHand i r) := by
  refine ⟨(pa_cons (pe_var (pos := p) hN hv hd hcd) jr.pa hs).or (ja_dat (P := P) (je_var (pos := p) hN hv hd hcd) jr hs).pa fun σ H Q h => ?_, wHand_mono jr.mono⟩
  obtain ⟨F, sd, pv, pd, ok, R, h⟩ := h
  unfold wHand at h
  split at h
  · rename_i o e
    left
    have R' := R
    obtain ⟨ow, W⟩ := R'
    obtain ⟨a, ho, e1, e2, e3, e4⟩ := W.sl i _ e
    refine ⟨.ref a, e1, ?_⟩
    exact tla.go jr ok R h fun as sd2 vs ws ds H2 h2 al R2 => h2 (.ref a :: vs) ws ds H2 (.slot e1 al) R2
  · exact .inr ⟨F, sd, pv, pd, ok, R, h⟩

theorem ArL.dats : ∀ {vs : List V} {xs : List D} {ws : List V} {ds : List D}, ArL σ vs (xs.map Ar.dat) ws ds → vs = ws ∧ ds = xs
  | _, [], _, _, .nil => ⟨rfl, rfl⟩
  | _, x :: xs, _, _, .dat r => by
    obtain ⟨e1, e2⟩ := ArL.dats (xs := xs) r
    rw [e1, e2]
    exact ⟨rfl, rfl⟩
/-! ### displays -/
def wTup (w : WA) : WT := fun sd xp Q => w sd xp fun as sd1 => ∃ ds, as = ds.map Ar.dat ∧ ds.length ≤ sizeLine ∧ Q (.val (.tuple ds)) sd1
def wLst (w : WA) : WT := fun sd xp Q => w sd xp fun as sd1 => ∃ ds, as = ds.map Ar.dat ∧ ds.length ≤ sizeLine ∧ Q (.fresh (.L ds)) sd1
theorem wTup_mono {w : WA} (m : MonoA w) : Mono (wTup w) := fun sd xp xp' Q Q' hx hq h => m sd xp xp' _ _ hx (fun as s ⟨ds, e, l, q⟩ => ⟨ds, e, l, hq _ _ q⟩) h
theorem wLst_mono {w : WA} (m : MonoA w) : Mono (wLst w) := fun sd xp xp' Q Q' hx hq h => m sd xp xp' _ _ hx (fun as s ⟨ds, e, l, q⟩ => ⟨ds, e, l, hq _ _ q⟩) h
theorem je_tup {es : List Expr} {w : WA} {k : Nat} {pos : Pos} (j : JA X P es w) : JE X P (.Tuple es k pos) (wTup w) := by
  refine ⟨(pe_tup j.pa).imp fun σ H Q h => ?_, wTup_mono j.mono⟩
  obtain ⟨F, sd, pv, pd, ok, R, h⟩ := h
  refine tla.go j ok R h fun as sd1 vs ws ds H1 h1 al R1 => ?_
  obtain ⟨xs, rfl, hl, q⟩ := h1
  obtain ⟨rfl, rfl⟩ := al.dats
  have ll := al.len.2
  exact ⟨by omega, fun p hp => q _ _ (RelP.new R1 ll hp fun Hh hp r => .tup hp r)⟩
theorem je_lst {es : List Expr} {w : WA} {pos : Pos} (j : JA X P es w) : JE X P (.List es pos) (wLst w) := by
  refine ⟨(pe_lst j.pa).imp fun σ H Q h => ?_, wLst_mono j.mono⟩
  obtain ⟨F, sd, pv, pd, ok, R, h⟩ := h
  refine tla.go j ok R h fun as sd1 vs ws ds H1 h1 al R1 => ?_
  obtain ⟨xs, rfl, hl, q⟩ := h1
  obtain ⟨rfl, rfl⟩ := al.dats
  have ll := al.len.2
  exact ⟨by omega, fun p hp => q _ _ (FrR.mk R1 ll hp fun Hh r => r)⟩
/-- {}: keys of one kind or the other, as is wanted -/
def wDic : WT := fun sd _ Q => Q (.fresh (.K [])) sd ∨ Q (.fresh (.T [])) sd
theorem wDic_mono : Mono wDic := fun sd xp xp' Q Q' hx hq h => h.imp (hq _ _) (hq _ _)
theorem je_dic {pos : Pos} : JE X P (.Dict [] [] pos) wDic := by
  refine ⟨(pe_dnewK (X := X) (pos := pos)).or (pe_dnewT (X := X) (pos := pos)) fun σ H Q h => ?_, wDic_mono⟩
  obtain ⟨F, sd, pv, pd, ok, R, h⟩ := h
  rcases h with h | h
  · exact .inl fun p hp => h _ _ (FrR.mk (ws := []) (es := []) R rfl hp fun Hh r => ⟨rfl, r⟩)
  · exact .inr fun p hp => h _ _ (FrR.mk (ws := []) (es := []) R rfl hp fun Hh r => ⟨rfl, r⟩)

/-! ### slices -/
abbrev WO := Sd → (Ex → Prop) → (Option Int → Sd → Prop) → Prop
def MonoO1 (w : WO) : Prop := ∀ sd (xp xp' : Ex → Prop) (Q Q' : Option Int → Sd → Prop), (∀ e, xp e → xp' e) → (∀ r s, Q r s → Q' r s) → w sd xp Q → w sd xp' Q'
def noPart : WO := fun sd _ Q => Q none sd
def part (w : WT) : WO := fun sd xp Q => sub w sd xp fun d s => ∃ i, d = .int i ∧ Q (some i) s
theorem noPart_mono : MonoO1 noPart := fun _ _ _ _ _ _ hq h => hq _ _ h
theorem part_mono {w : WT} (m : Mono w) : MonoO1 (part w) := fun sd xp xp' Q Q' hx hq h => sub_mono m hx (fun d s ⟨i, e, q⟩ => ⟨i, e, hq _ _ q⟩) h
def tlo (K : PySem.W.Frag) (P : Par) (w : WO) : TO := fun σ H Q => ∃ (F : Fm) (sd : Sd) (pv : List V) (pd : List D), F.Ok K P ∧ F.R K σ H sd pv pd ∧ w sd F.xp fun o sd' => ∀ H', F.R K σ H' sd' pv pd → Q o H'
structure JO (X : Cx) (P : Par) (e : Option Expr) (w : WO) : Prop where
  po : PO X e (tlo X.K P w)
  mono : MonoO1 w
theorem _root_.L2.PO.imp {e : Option Expr} {t t' : TO} (h : PO X e t) (i : ∀ σ H Q, t' σ H Q → t σ H Q) : PO X e t' := ⟨fun pins s σ H Q I q => h.run pins s σ H Q I (i σ H Q q)⟩
theorem jo_none : JO X P none noPart := ⟨po_none.imp fun σ H Q ⟨F, sd, pv, pd, ok, R, h⟩ => h H R, noPart_mono⟩
theorem jo_some {e : Expr} {w : WT} (j : JE X P e w) : JO X P (some e) (part w) := by
  refine ⟨(po_some j.pe).imp fun σ H Q h => ?_, part_mono j.mono⟩
  obtain ⟨F, sd, pv, pd, ok, R, h⟩ := h
  refine tl.sub j ok R h fun d sd1 v H1 h1 R1 => ?_
  obtain ⟨i, rfl, q⟩ := h1
  obtain ⟨r, R0⟩ := one (X := X) R1
  exact ⟨i, rep_int r, q H1 R0⟩
def cutD {α : Type} (xs : List α) (lo hi : Option Int) : List α := (xs.drop (HT.sIx xs.length 0 lo)).take (HT.sIx xs.length xs.length hi - HT.sIx xs.length 0 lo)
def gSl (a : D) (lo hi : Option Int) (Q : Rv → Prop) : Prop := match a with
  | .tuple xs => Q (.val (.tuple (cutD xs lo hi)))
  | .list xs => Q (.fresh (.L (cutD xs lo hi)))
  | .str z => z.length ≤ sizeLine ∧ Q (.val (.str (cutS z lo hi)))
  | _ => False
theorem gSl_mono {a : D} {lo hi : Option Int} {Q Q' : Rv → Prop} (hq : ∀ r, Q r → Q' r) (h : gSl a lo hi Q) : gSl a lo hi Q' := by
  cases a <;> first
    | exact h.elim
    | exact hq _ h
    | exact ⟨h.1, hq _ h.2⟩
def wSl (w : WT) (l u : WO) : WT := fun sd xp Q => sub w sd xp fun a sd1 => l sd1 xp fun lo sd2 => u sd2 xp fun hi sd3 => gSl a lo hi fun r => Q r sd3
theorem wSl_mono {w : WT} {l u : WO} (mw : Mono w) (ml : MonoO1 l) (mu : MonoO1 u) : Mono (wSl w l u) := fun sd xp xp' Q Q' hx hq h =>
  sub_mono mw hx (fun a s h1 => ml s xp xp' _ _ hx (fun lo s2 h2 => mu s2 xp xp' _ _ hx (fun hi s3 h3 => gSl_mono (fun r q => hq r s3 q) h3) h2) h1) h
theorem cut_len {α β : Type} {xs : List α} {ys : List β} (h : xs.length = ys.length) (lo hi : Option Int) : (cutD xs lo hi).length = (cutD ys lo hi).length := by
  unfold cutD
  rw [List.length_take, List.length_take, List.length_drop, List.length_drop, h]
theorem cut_reps {K : PySem.W.Frag} {Hh : Hp} {us : List V} {xs : List D} (r : Reps K Hh us xs) (lo hi : Option Int) : Reps K Hh (cutD us lo hi) (cutD xs lo hi) := by
  unfold cutD
  rw [r.len]
  exact (r.drop _).take _
theorem cut_whole {α : Type} {xs : List α} {lo hi : Option Int} (h : HT.sIx xs.length 0 lo = 0 ∧ HT.sIx xs.length xs.length hi = xs.length) : cutD xs lo hi = xs := by
  unfold cutD
  rw [h.1, h.2, List.drop_zero, Nat.sub_zero, List.take_length]
def rSlD (K : PySem.W.Frag) : V → Option Int → Option Int → Hp → VK → Prop := fun x lo hi H Q => rSlL K x lo hi H Q ∨ rSlA K x lo hi H Q ∨ rSlS x lo hi H Q
theorem sl_D : L2.SlR X (rSlD X.K) := sl_list.or (sl_tupA.or sl_str)
theorem je_slice {e : Expr} {lo hi : Option Expr} {w : WT} {l u : WO} {p2 pos : Pos} (j : JE X P e w) (jl : JO X P lo l) (ju : JO X P hi u) : JE X P (.Subscript e (.Slice lo hi none p2) pos) (wSl w l u) := by
  refine ⟨(pe_slice sl_D j.pe jl.po ju.po).imp fun σ H Q h => ?_, wSl_mono j.mono jl.mono ju.mono⟩
  obtain ⟨F, sd, pv, pd, ok, R, h⟩ := h
  refine tl.sub j ok R h fun a sd1 x H1 h1 R1 => ?_
  refine ⟨F, sd1, x :: pv, a :: pd, ok, R1, jl.mono sd1 F.xp F.xp _ _ (fun _ q => q) (fun lo sd2 h2 H2 R2 => ?_) h1⟩
  refine ⟨F, sd2, x :: pv, a :: pd, ok, R2, ju.mono sd2 F.xp F.xp _ _ (fun _ q => q) (fun hi sd3 h3 H3 R3 => ?_) h2⟩
  cases a with
  | tuple xs =>
    obtain ⟨p, us, rfl, t, hl, R4⟩ := openT (X := X) R3
    refine .inr (.inl ⟨p, us, rfl, SqT.of t, fun hw => h3 _ H3 ?_, fun hn q hq => h3 _ _ ?_⟩)
    · rw [hl] at hw
      rw [cut_whole hw]
      exact R3
    · refine RelP.new (vs := cutD us lo hi) (ds := cutD xs lo hi) (pv := pv) (pd := pd) (RelP.pend R4 fun Hh r => ?_) (cut_len hl lo hi) hq fun Hh hp r => .tup hp r
      obtain ⟨r1, r2⟩ := Reps.split hl r
      cases r2 with | cons a b => exact (cut_reps r1 lo hi).app b
  | list xs =>
    obtain ⟨p, us, rfl, t, hl, R4⟩ := openL (X := X) R3
    refine .inl ⟨p, us, rfl, t, fun q hq => h3 _ _ ?_⟩
    refine FrR.mk (ws := cutD us lo hi) (es := cutD xs lo hi) (RelP.pend R4 fun Hh r => ?_) (cut_len hl lo hi) hq fun Hh r => r
    obtain ⟨r1, r2⟩ := Reps.split hl r
    cases r2 with | cons a b => exact (cut_reps r1 lo hi).app b
  | str z =>
    obtain ⟨r, R0⟩ := one (X := X) R3
    exact .inr (.inr ⟨z, rep_str r, h3.1, h3.2 _ H3 (push (X := X) R0 fun _ => .str _)⟩)
  | _ => exact False.elim h3

/-- x in t, not in: flat items -/
def flatD : D → Bool
  | .none => true
  | .bool _ => true
  | .int _ => true
  | .str _ => true
  | _ => false
def gIn (n : Bool) : O2 := fun a b Q => flatD a = true ∧ match b with
  | .tuple xs => xs.all flatD = true ∧ Q (.val (.bool (if n then !(xs.any fun y => PyData.eqv y a) else xs.any fun y => PyData.eqv y a)))
  | .list xs => xs.all flatD = true ∧ Q (.val (.bool (if n then !(xs.any fun y => PyData.eqv y a) else xs.any fun y => PyData.eqv y a)))
  | _ => False
theorem gIn_mono {n : Bool} : MonoO (gIn n) := by
  rintro a b Q Q' hq ⟨e, h⟩
  refine ⟨e, ?_⟩
  cases b <;> first
    | exact h.elim
    | exact ⟨h.1, hq _ h.2⟩
theorem rep_flat {K : PySem.W.Frag} {Hh : Hp} {v : V} {d : D} (r : Rep K Hh v d) (f : flatD d = true) : flatV v = true := by
  cases r <;> first
    | rfl
    | exact absurd f (by decide)
    | exact absurd f Bool.false_ne_true
theorem eqv_flat {K : PySem.W.Frag} {Hh : Hp} {v u : V} {d e : D} (r : Rep K Hh v d) (f : flatD d = true) (r' : Rep K Hh u e) (f' : flatD e = true) : eqV v u = PyData.eqv d e := by
  cases r <;> cases r' <;> first
    | rfl
    | exact absurd f Bool.false_ne_true
    | exact absurd f' Bool.false_ne_true
theorem reps_flat {K : PySem.W.Frag} {Hh : Hp} : ∀ {vs : List V} {ds : List D}, Reps K Hh vs ds → ds.all flatD = true → vs.all flatV = true
  | _, _, .nil, _ => rfl
  | _, _, .cons r rs, f => by
    rw [List.all_cons, Bool.and_eq_true] at f ⊢
    exact ⟨rep_flat r f.1, reps_flat rs f.2⟩
theorem any_flat {K : PySem.W.Frag} {Hh : Hp} {u : V} {e : D} (r' : Rep K Hh u e) (f' : flatD e = true) : ∀ {vs : List V} {ds : List D}, Reps K Hh vs ds → ds.all flatD = true → inV u vs = ds.any fun y => PyData.eqv y e
  | _, _, .nil, _ => rfl
  | _, _, .cons r rs, f => by
    rw [List.all_cons, Bool.and_eq_true] at f
    have ih := any_flat r' f' rs f.2
    unfold inV at ih ⊢
    rw [List.any_cons, List.any_cons, eqv_flat r f.1 r' f', ih]
theorem ob_in {n : Bool} : Obeys X (L2.rIn X.K n) (gIn n) := by
  rintro F σ H sd x y a b pv pd Q R ⟨fa, h⟩
  obtain ⟨r1, r2, R0⟩ := two (X := X) R
  cases b with
  | tuple xs =>
    obtain ⟨p, us, rfl, t, k⟩ := rep_tup r2
    refine ⟨p, us, rfl, .inr (SqT.of t), rep_flat r1 fa, reps_flat k h.1, ?_⟩
    rw [any_flat r1 fa k h.1]
    exact h.2 _ H (push (X := X) R0 fun _ => .bl _)
  | list xs =>
    obtain ⟨p, us, rfl, t, k⟩ := rep_lst r2
    refine ⟨p, us, rfl, .inl t, rep_flat r1 fa, reps_flat k h.1, ?_⟩
    rw [any_flat r1 fa k h.1]
    exact h.2 _ H (push (X := X) R0 fun _ => .bl _)
  | _ => exact h.elim

/-! ### built-ins -/
abbrev GB := List Ar → Sd → (Rv → Prop) → Prop
def MonoB (g : GB) : Prop := ∀ as sd (Q Q' : Rv → Prop), (∀ r, Q r → Q' r) → g as sd Q → g as sd Q'
def wBi (g : GB) (w : WA) : WT := fun sd xp Q => w sd xp fun as sd1 => g as sd1 fun r => Q r sd1
theorem wBi_mono {g : GB} {w : WA} (hg : MonoB g) (m : MonoA w) : Mono (wBi g w) := fun sd xp xp' Q Q' hx hq h => m sd xp xp' _ _ hx (fun as s q => hg as s _ _ (fun r q => hq r s q) q) h
def ObeysB (X : Cx) (r : List V → Hp → VK → Prop) (g : GB) : Prop := ∀ (F : Fm) (σ : L2.St) (H : Hp) (sd : Sd) (vs : List V) (as : List Ar) (ws : List V) (ds : List D) (pv : List V) (pd : List D) (Q : VK), ArL σ vs as ws ds → F.R X.K σ H sd (ws ++ pv) (ds ++ pd) →
  (g as sd fun r => ∀ v H', F.RR X.K σ H' sd v r pv pd → Q v H') → r vs H Q
theorem bi_imp {r : List V → Hp → VK → Prop} {g : GB} {es : List Expr} {w : WA} (ob : ObeysB X r g) (j : JA X P es w) : ∀ σ H Q, tl X.K P (wBi g w) σ H Q → tCB r (tla X.K P w) σ H Q := by
  intro σ H Q ⟨F, sd, pv, pd, ok, R, h⟩
  exact tla.go j ok R h fun as sd1 vs ws ds H1 h1 al R1 => ob F σ H1 sd1 vs as ws ds pv pd Q al R1 h1
section
variable {x : Str} {id T : String} {r : List V → Hp → VK → Prop} {g : GB} {e : Expr} {es : List Expr} {w : WA} {p pos : Pos}
theorem je_bi (hc : CallR X (.builtin id) r) (ob : ObeysB X r g) (hm' : MonoB g) (hg : Gl X x) (hm : X.mg x = none) (hv : bootBuiltins x = some (.builtin id)) (j : JA X P (e :: es) w) (hn : x ≠ "__name__") (hdb : (x == ("__debug__" : Str)) = false)
    (he : starEach (e :: es) X.env = (false, eval e X.env) :: starEach es X.env) (hpl : (backTo pos (starEach es X.env)).any (·.1) = false) : JE X P (.Call (.Name x p) (e :: es) [] pos) (wBi g w) :=
  ⟨(pe_callB hc hg hm hv j.pa hn hdb he hpl).imp (bi_imp ob j), wBi_mono hm' j.mono⟩
theorem je_ty (hc : CallR X (.type T) r) (ob : ObeysB X r g) (hm' : MonoB g) (hg : Gl X x) (hm : X.mg x = none) (hv : bootBuiltins x = some (.type T)) (j : JA X P (e :: es) w) (hn : x ≠ "__name__") (hdb : (x == ("__debug__" : Str)) = false)
    (he : starEach (e :: es) X.env = (false, eval e X.env) :: starEach es X.env) (hpl : (backTo pos (starEach es X.env)).any (·.1) = false) : JE X P (.Call (.Name x p) (e :: es) [] pos) (wBi g w) :=
  ⟨(pe_callTy hc hg hm hv j.pa hn hdb he hpl).imp (bi_imp ob j), wBi_mono hm' j.mono⟩
end
/-- what one argument holds, as data -/
def arD (sd : Sd) : Ar → Option D
  | .dat d => some d
  | .slot i => match sd[i]? with
    | some (some (.ob (.L xs))) => some (.list xs)
    | _ => none
/-- one list argument, data or owned: its items pending -/
theorem arL {v : V} {a : Ar} {ws : List V} {ds xs : List D} (al : ArL σ [v] [a] ws ds) (R : F.R X.K σ H sd (ws ++ pv) (ds ++ pd)) (h : arD sd a = some (.list xs)) :
    ∃ p us, v = .ref p ∧ SqL X.K H p us ∧ us.length = xs.length ∧ F.R X.K σ H sd (us ++ pv) (xs ++ pd) := by
  cases al with
  | dat r =>
    cases r
    cases h
    obtain ⟨p, us, rfl, t, hl, R2⟩ := openL (X := X) R
    refine ⟨p, us, rfl, t, hl, RelP.pend R2 fun Hh r => ?_⟩
    obtain ⟨r1, r2⟩ := Reps.split hl r
    cases r2 with | cons _ b => exact r1.app b
  | slot e r =>
    cases r
    rename_i i p
    have h : (match sd[i]? with | some (some (.ob (.L xs))) => some (PyData.list xs) | _ => none) = some (.list xs) := h
    split at h
    · rename_i ys e1
      have : ys = xs := by injection h with h; injection h
      subst this
      obtain ⟨p', us, f1, f2, hl, R2⟩ := RelP.peekL (i := i) R e1
      rw [e] at f1
      have : p = p' := by injection f1 with f1; injection f1 with f1; injection f1
      subst this
      exact ⟨p, us, rfl, SqL.of f2, hl, R2⟩
    · cases h
theorem ar1 {vs : List V} {a : Ar} {ws : List V} {ds : List D} (al : ArL σ vs [a] ws ds) : ∃ v, vs = [v] := by
  cases al with
  | dat r => cases r; exact ⟨_, rfl⟩
  | slot e r => cases r; exact ⟨_, rfl⟩
def lenD (a : D) (n : Int) : Prop := match a with
  | .tuple xs => n = xs.length
  | .list xs => n = xs.length
  | .str z => z.length ≤ sizeLine ∧ n = z.length
  | _ => False
def bLen : GB := fun as sd Q => ∃ a d n, as = [a] ∧ arD sd a = some d ∧ lenD d n ∧ Q (.val (.int n))
theorem bLen_mono : MonoB bLen := fun as sd Q Q' hq ⟨a, d, n, e, e2, l, q⟩ => ⟨a, d, n, e, e2, l, hq _ q⟩
theorem ob_len : ObeysB X (fun xs H Q => ∃ x n, xs = [x] ∧ LenV X.K x H n ∧ Q (.int n) H) bLen := by
  rintro F σ H sd vs as ws ds pv pd Q al R ⟨a, d, n, rfl, e2, l, q⟩
  obtain ⟨v, rfl⟩ := ar1 al
  have fin : ∀ R0 : F.R X.K σ H sd pv pd, Q (.int n) H := fun R0 => q _ H (push (X := X) R0 fun _ => .int _)
  cases d with
  | list xs =>
    obtain ⟨p, us, rfl, t, hl, R2⟩ := arL (X := X) al R e2
    have l' : n = xs.length := l
    subst l'
    exact ⟨_, us.length, rfl, .inl ⟨us, t, rfl⟩, by rw [hl]; exact fin (dropR (X := X) R2 hl)⟩
  | tuple xs =>
    cases al with
    | dat r =>
      cases r
      cases e2
      obtain ⟨p, us, rfl, t, hl, R2⟩ := openT (X := X) R
      have l' : n = xs.length := l
      subst l'
      exact ⟨_, us.length, rfl, .inr ⟨us, SqT.of t, rfl⟩, by rw [hl]; exact fin (RelP.drop (dropR (X := X) R2 hl))⟩
    | slot e r =>
      rename_i i p
      have e2 : (match sd[i]? with | some (some (.ob (.L xs))) => some (PyData.list xs) | _ => none) = some (.tuple xs) := e2
      split at e2 <;> cases e2
  | str z =>
    cases al with
    | dat r =>
      cases r
      cases e2
      obtain ⟨rz, R0⟩ := one (X := X) R
      obtain ⟨hz, l'⟩ : z.length ≤ sizeLine ∧ n = z.length := l
      subst l'
      exact ⟨_, z.length, rfl, by rw [rep_str rz]; exact ⟨hz, rfl⟩, fin R0⟩
    | slot e r =>
      rename_i i p
      have e2 : (match sd[i]? with | some (some (.ob (.L xs))) => some (PyData.list xs) | _ => none) = some (.str z) := e2
      split at e2 <;> cases e2
  | _ => exact False.elim l
theorem dat1 {vs : List V} {d : D} {ws : List V} {ds : List D} (al : ArL σ vs [.dat d] ws ds) (R : F.R X.K σ H sd (ws ++ pv) (ds ++ pd)) : ∃ v, vs = [v] ∧ F.R X.K σ H sd (v :: pv) (d :: pd) := by
  cases al with
  | dat r => cases r; exact ⟨_, rfl, R⟩
theorem dat2 {vs : List V} {d e : D} {ws : List V} {ds : List D} (al : ArL σ vs [.dat d, .dat e] ws ds) (R : F.R X.K σ H sd (ws ++ pv) (ds ++ pd)) : ∃ v u, vs = [v, u] ∧ F.R X.K σ H sd (v :: u :: pv) (d :: e :: pd) := by
  cases al with
  | dat r => cases r with
    | dat r => cases r; exact ⟨_, _, rfl, R⟩
theorem dat3 {vs : List V} {d e f : D} {ws : List V} {ds : List D} (al : ArL σ vs [.dat d, .dat e, .dat f] ws ds) (R : F.R X.K σ H sd (ws ++ pv) (ds ++ pd)) : ∃ v u t, vs = [v, u, t] ∧ F.R X.K σ H sd (v :: u :: t :: pv) (d :: e :: f :: pd) := by
  cases al with
  | dat r => cases r with
    | dat r => cases r with
      | dat r => cases r; exact ⟨_, _, _, rfl, R⟩
/-- int(x) -/
def bInt : GB := fun as sd Q => (∃ i, as = [.dat (.int i)] ∧ Q (.val (.int i))) ∨ ∃ k : Bool, as = [.dat (.bool k)] ∧ Q (.val (.int (if k then 1 else 0)))
theorem bInt_mono : MonoB bInt := fun as sd Q Q' hq h => h.imp (fun ⟨i, e, q⟩ => ⟨i, e, hq _ q⟩) fun ⟨i, e, q⟩ => ⟨i, e, hq _ q⟩
theorem ob_int : ObeysB X (fun xs H Q => (∃ i, xs = [.int i] ∧ Q (.int i) H) ∨ ∃ k, xs = [.bl k] ∧ Q (.int (if k then 1 else 0)) H) bInt := by
  rintro F σ H sd vs as ws ds pv pd Q al R (⟨i, rfl, q⟩ | ⟨k, rfl, q⟩)
  · obtain ⟨v, rfl, R1⟩ := dat1 (X := X) al R
    obtain ⟨r, R0⟩ := one (X := X) R1
    exact .inl ⟨i, by rw [rep_int r], q _ H (push (X := X) R0 fun _ => .int _)⟩
  · obtain ⟨v, rfl, R1⟩ := dat1 (X := X) al R
    obtain ⟨r, R0⟩ := one (X := X) R1
    exact .inr ⟨k, by rw [rep_bl r], q _ H (push (X := X) R0 fun _ => .int _)⟩
def bAbs : GB := fun as sd Q => ∃ i, as = [.dat (.int i)] ∧ Q (.val (.int (if i < 0 then -i else i)))
theorem bAbs_mono : MonoB bAbs := fun as sd Q Q' hq ⟨i, e, q⟩ => ⟨i, e, hq _ q⟩
theorem ob_abs : ObeysB X (fun xs H Q => ∃ i, xs = [.int i] ∧ Q (.int (if i < 0 then -i else i)) H) bAbs := by
  rintro F σ H sd vs as ws ds pv pd Q al R ⟨i, rfl, q⟩
  obtain ⟨v, rfl, R1⟩ := dat1 (X := X) al R
  obtain ⟨r, R0⟩ := one (X := X) R1
  exact ⟨i, by rw [rep_int r], q _ H (push (X := X) R0 fun _ => .int _)⟩
def bMax2 : GB := fun as sd Q => ∃ i j, as = [.dat (.int i), .dat (.int j)] ∧ Q (.val (.int (if j > i then j else i)))
def bMin2 : GB := fun as sd Q => ∃ i j, as = [.dat (.int i), .dat (.int j)] ∧ Q (.val (.int (if j < i then j else i)))
theorem bMax2_mono : MonoB bMax2 := fun as sd Q Q' hq ⟨i, j, e, q⟩ => ⟨i, j, e, hq _ q⟩
theorem bMin2_mono : MonoB bMin2 := fun as sd Q Q' hq ⟨i, j, e, q⟩ => ⟨i, j, e, hq _ q⟩
theorem ob_max2 : ObeysB X (fun xs H Q => ∃ i j, xs = [.int i, .int j] ∧ Q (.int (if j > i then j else i)) H) bMax2 := by
  rintro F σ H sd vs as ws ds pv pd Q al R ⟨i, j, rfl, q⟩
  obtain ⟨v, u, rfl, R1⟩ := dat2 (X := X) al R
  obtain ⟨r2, r1, R0⟩ := two (X := X) R1
  exact ⟨i, j, by rw [rep_int r1, rep_int r2], q _ H (push (X := X) R0 fun _ => .int _)⟩
theorem ob_min2 : ObeysB X (fun xs H Q => ∃ i j, xs = [.int i, .int j] ∧ Q (.int (if j < i then j else i)) H) bMin2 := by
  rintro F σ H sd vs as ws ds pv pd Q al R ⟨i, j, rfl, q⟩
  obtain ⟨v, u, rfl, R1⟩ := dat2 (X := X) al R
  obtain ⟨r2, r1, R0⟩ := two (X := X) R1
  exact ⟨i, j, by rw [rep_int r1, rep_int r2], q _ H (push (X := X) R0 fun _ => .int _)⟩
/-- tuple(x), list(x) -/
def bTup : GB := fun as sd Q => (∃ a xs, as = [a] ∧ arD sd a = some (.list xs) ∧ Q (.val (.tuple xs))) ∨ ∃ xs, as = [.dat (.tuple xs)] ∧ Q (.val (.tuple xs))
def bLst : GB := fun as sd Q => (∃ a xs, as = [a] ∧ arD sd a = some (.list xs) ∧ Q (.fresh (.L xs))) ∨ ∃ xs, as = [.dat (.tuple xs)] ∧ Q (.fresh (.L xs))
theorem bTup_mono : MonoB bTup := fun as sd Q Q' hq h => h.imp (fun ⟨a, xs, e, e2, q⟩ => ⟨a, xs, e, e2, hq _ q⟩) fun ⟨xs, e, q⟩ => ⟨xs, e, hq _ q⟩
theorem bLst_mono : MonoB bLst := fun as sd Q Q' hq h => h.imp (fun ⟨a, xs, e, e2, q⟩ => ⟨a, xs, e, e2, hq _ q⟩) fun ⟨xs, e, q⟩ => ⟨xs, e, hq _ q⟩
theorem ob_tup : ObeysB X (fun xs H Q => ∃ p ys, xs = [.ref p] ∧ ((SqL X.K H p ys ∧ ∀ l, H l = none → Q (.ref l) (upd H l (.tup ys))) ∨ (SqT X.K H p ys ∧ Q (.ref p) H))) bTup := by
  rintro F σ H sd vs as ws ds pv pd Q al R (⟨a, xs, rfl, e2, q⟩ | ⟨xs, rfl, q⟩)
  · obtain ⟨v, rfl⟩ := ar1 al
    obtain ⟨p, us, rfl, t, hl, R2⟩ := arL (X := X) al R e2
    exact ⟨p, us, rfl, .inl ⟨t, fun l hp => q _ _ (RelP.new R2 hl hp fun Hh hp r => .tup hp r)⟩⟩
  · obtain ⟨v, rfl, R1⟩ := dat1 (X := X) al R
    obtain ⟨p, us, rfl, t, hl, R2⟩ := openT (X := X) R1
    exact ⟨p, us, rfl, .inr ⟨SqT.of t, q _ H R1⟩⟩
theorem ob_lst : ObeysB X (fun xs H Q => ∃ p ys, xs = [.ref p] ∧ (SqL X.K H p ys ∨ SqT X.K H p ys) ∧ ∀ l, H l = none → Q (.ref l) (upd H l (.lst ys))) bLst := by
  rintro F σ H sd vs as ws ds pv pd Q al R (⟨a, xs, rfl, e2, q⟩ | ⟨xs, rfl, q⟩)
  · obtain ⟨v, rfl⟩ := ar1 al
    obtain ⟨p, us, rfl, t, hl, R2⟩ := arL (X := X) al R e2
    exact ⟨p, us, rfl, .inl t, fun l hp => q _ _ (FrR.mk R2 hl hp fun Hh r => r)⟩
  · obtain ⟨v, rfl, R1⟩ := dat1 (X := X) al R
    obtain ⟨p, us, rfl, t, hl, R2⟩ := openT (X := X) R1
    refine ⟨p, us, rfl, .inr (SqT.of t), fun l hp => q _ _ (FrR.mk (ws := us) (es := xs) (RelP.pend R2 fun Hh r => ?_) hl hp fun Hh r => r)⟩
    obtain ⟨r1, r2⟩ := Reps.split hl r
    cases r2 with | cons _ b => exact r1.app b
/-- sorted(x): a list of ints; a dict's keys, all of them ints, or tuples of as many ints -/
def bSortL : GB := fun as sd Q => ∃ a ns, as = [a] ∧ arD sd a = some (.list (ns.map PyData.int)) ∧ ∀ ns' : List Int, ns'.Perm ns → ns'.Pairwise (· ≤ ·) → Q (.fresh (.L (ns'.map PyData.int)))
def bSortK : GB := fun as sd Q => ∃ (i : Nat) (kds : List (Key × D)) (ks : List Int), as = [.slot i] ∧ sd[i]? = some (some (.ob (.K kds))) ∧ kds.map (·.1) = ks.map Sum.inl ∧ ks.length < 64 ∧ ∀ ns' : List Int, ns'.Perm ks → ns'.Pairwise (· ≤ ·) → Q (.fresh (.L (ns'.map PyData.int)))
def bSortT : GB := fun as sd Q => ∃ (i : Nat) (kds : List (List Key × D)) (nss : List (List Int)) (d : Nat) (B : Int), as = [.slot i] ∧ sd[i]? = some (some (.ob (.T kds))) ∧ kds.map (·.1) = nss.map (fun ns => ns.map Sum.inl) ∧ nss.length < 64 ∧ 1 ≤ d ∧ (∀ ns ∈ nss, ns.length = d ∧ TS.Bd B ns) ∧
  ∀ nss' : List (List Int), nss'.Perm nss → nss'.Pairwise (fun q r => TS.code B q ≤ TS.code B r) → Q (.fresh (.L (nss'.map fun ns => PyData.tuple (ns.map PyData.int))))
def bSort : GB := fun as sd Q => bSortL as sd Q ∨ bSortK as sd Q ∨ bSortT as sd Q
theorem bSort_mono : MonoB bSort := by
  intro as sd Q Q' hq h
  rcases h with ⟨a, ns, e, e2, q⟩ | ⟨i, kds, ks, e, e2, e3, e4, q⟩ | ⟨i, kds, nss, d, B, e, e2, e3, e4, e5, e6, q⟩
  · exact .inl ⟨a, ns, e, e2, fun ns' h1 h2 => hq _ (q ns' h1 h2)⟩
  · exact .inr (.inl ⟨i, kds, ks, e, e2, e3, e4, fun ns' h1 h2 => hq _ (q ns' h1 h2)⟩)
  · exact .inr (.inr ⟨i, kds, nss, d, B, e, e2, e3, e4, e5, e6, fun ns' h1 h2 => hq _ (q ns' h1 h2)⟩)
def rSortedKI : List V → Hp → VK → Prop := fun xs H Q => ∃ (a : Addr) (kvs : List (Key × V)) (ks : List Int), xs = [.ref a] ∧ Rd H a (.dK kvs) ∧ kvs.map (·.1) = ks.map Sum.inl ∧ ks.length < 64 ∧
    ∀ (ys : List Int) (p : Addr), ys.Perm ks → ys.Pairwise (· ≤ ·) → H p = none → Q (.ref p) (upd H p (.lst (ys.map V.int)))
def rSortedAll (K : PySem.W.Frag) : List V → Hp → VK → Prop := fun xs H Q => (rSortedI K xs H Q ∨ rSortedKI xs H Q) ∨ ∃ d B, 1 ≤ d ∧ rSortedDT d B xs H Q
theorem cr_sortedAll (hc : X.calm = true) : CallR X (.builtin "sorted") (rSortedAll X.K) := by
  refine CallR.or (CallR.or cr_sortedI (call_sortedDI hc)) ?_
  intro pins s σ H xs us Q I r ⟨d, B, hd, h⟩
  exact call_sortedDT hd hc pins s σ H xs us Q I r h
theorem ob_sort : ObeysB X (rSortedAll X.K) bSort := by
  rintro F σ H sd vs as ws ds pv pd Q al R (⟨a, ns, rfl, e2, q⟩ | ⟨i, kds, ks, rfl, e2, e3, e4, q⟩ | ⟨i, kds, nss, d, B, rfl, e2, e3, e4, e5, e6, q⟩)
  · refine .inl (.inl ?_)
    obtain ⟨v, rfl⟩ := ar1 al
    obtain ⟨p, us, rfl, t, hl, R2⟩ := arL (X := X) al R e2
    have eu : us = ns.map V.int := reps_ints_inv (Reps.split hl R2.at).1
    subst eu
    refine ⟨p, ns, rfl, t, fun ns' l hp hs hn => q ns' hp hs _ _ ?_⟩
    refine FrR.mk (ws := ns'.map V.int) (es := ns'.map PyData.int) (RelP.pend (dropR (X := X) R2 hl) fun Hh r => (reps_ints ns').app r) (by rw [List.length_map, List.length_map]) hn fun Hh r => r
  · refine .inl (.inr ?_)
    cases al with
    | slot es r =>
      cases r
      rename_i a
      obtain ⟨a', kvs, f1, f2, f3, R2⟩ := RelP.peekK R e2
      rw [es] at f1
      have : a = a' := by injection f1 with f1; injection f1 with f1; injection f1
      subst this
      refine ⟨a, kvs, ks, rfl, Rd.of f2, f3.trans e3, e4, fun ns' l hp hs hn => q ns' hp hs _ _ ?_⟩
      exact FrR.mk (ws := ns'.map V.int) (es := ns'.map PyData.int) (RelP.pend R fun Hh r => (reps_ints ns').app r) (by rw [List.length_map, List.length_map]) hn fun Hh r => r
  · refine .inr ⟨d, B, e5, ?_⟩
    cases al with
    | slot es r =>
      cases r
      rename_i a
      obtain ⟨a', kvs, f1, f2, f3, R2⟩ := RelP.peekT R e2
      rw [es] at f1
      have : a = a' := by injection f1 with f1; injection f1 with f1; injection f1
      subst this
      refine ⟨a, kvs, nss, rfl, Rd.of f2, f3.trans e3, e4, e6, fun rs l hp hr hs hn => q _ hp (List.pairwise_map.mpr hs) _ _ ?_⟩
      refine FrR.mk (ho := .lst (rs.map fun r : Addr × List Int => V.ref r.1)) (o := .L ((rs.map fun r : Addr × List Int => r.2).map fun ns : List Int => PyData.tuple (ns.map PyData.int))) (ws := rs.map fun r : Addr × List Int => V.ref r.1) (es := (rs.map fun r : Addr × List Int => r.2).map fun ns : List Int => PyData.tuple (ns.map PyData.int)) ?_ (by simp) hn fun Hh r => r
      obtain ⟨ow, W⟩ := R
      refine ⟨ow, W.fr, W.m0, W.inj, W.out, W.pin, W.sl, Reps.app ?_ W.pend⟩
      have key : ∀ rs : List (Addr × List Int), (∀ r ∈ rs, H r.1 = some (.tup (r.2.map V.int))) → Reps X.K (hid (Hd F.M0 ow) H) (rs.map fun r => V.ref r.1) ((rs.map (·.2)).map fun ns => PyData.tuple (ns.map PyData.int)) := by
        intro rs
        induction rs with
        | nil => exact fun _ => .nil
        | cons r rs ih => exact fun h => .cons (.tup (tup_vis W (h r List.mem_cons_self)) (reps_ints r.2)) (ih fun s m => h s (List.mem_cons_of_mem _ m))
      exact key rs hr
/-! ### isinstance -/
def tyN : D → String
  | .none => "NoneType"
  | .bool _ => "bool"
  | .int _ => "int"
  | .str _ => "str"
  | .tuple _ => "tuple"
  | .list _ => "list"
  | .dict _ => "dict"
def isD (d : D) (T : String) : Bool := tyN d == T || (tyN d == "bool" && T == "int")
theorem rep_ty {x : V} {d : D} (r : Rep X.K H x d) : TyX X.K H x (.type (tyN d)) := by
  cases r with
  | non => exact .base .non
  | bl b => exact .base (.bl b)
  | int i => exact .base (.int i)
  | str x => exact .base (.str x)
  | lst h _ =>
    rcases h with (h | ⟨o, h⟩) | ⟨o, its, n, e, c, _⟩
    · exact .base (.lst h)
    · exact .base (.frz h)
    · exact .kList e c
  | tup h _ => exact .base (.tup h)
def kinds : List String := ["int", "bool", "str", "tuple", "list"]
theorem kit_isD {K : PySem.W.Frag} (d : D) (hd : ∀ kvs, d ≠ .dict kvs) {T : String} (hT : T ∈ kinds) : PySem.W.kitOne K (.type (tyN d)) (.type T) = some (isD d T) := by
  have tab : ∀ n ∈ ["NoneType", "bool", "int", "str", "tuple", "list"], ∀ T ∈ kinds, kitB n T = some (n == T || (n == "bool" && T == "int")) := by decide +kernel
  refine kit_ty ?_
  unfold isD
  refine tab (tyN d) ?_ T hT
  cases d <;> first
    | exact absurd rfl (hd _)
    | simp [tyN]
/-- isinstance(x, T) -/
def wIsi (T : String) (w : WT) : WT := fun sd xp Q => sub w sd xp fun d sd1 => (∀ kvs, d ≠ .dict kvs) ∧ Q (.val (.bool (isD d T))) sd1
theorem wIsi_mono {T : String} {w : WT} (m : Mono w) : Mono (wIsi T w) := fun sd xp xp' Q Q' hx hq h => sub_mono m hx (fun d s q => ⟨q.1, hq _ _ q.2⟩) h
theorem je_isi {e : Expr} {w : WT} {T : Str} {n : String} {p p' pos : Pos} (j : JE X P e w) (hT : n ∈ kinds) (hg : Gl X "isinstance") (hm : X.mg "isinstance" = none) (hv : bootBuiltins "isinstance" = some (.builtin "isinstance"))
    (hgT : Gl X T) (hmT : X.mg T = none) (hvT : bootBuiltins T = some (.type n)) (hn : T ≠ "__name__") (hd : (T == ("__debug__" : Str)) = false)
    (hs : starEach [e, .Name T p'] X.env = (false, eval e X.env) :: starEach [.Name T p'] X.env) : JE X P (.Call (.Name "isinstance" p) [e, .Name T p'] [] pos) (wIsi n w) := by
  refine ⟨(pe_callB call_isi hg hm hv (pa_cons j.pe (pa_cons (pe_bltn (v := .ty n) hgT hmT hvT rfl hn hd) pa_nil rfl) hs) (by decide) (by decide) hs rfl).imp fun σ H Q h => ?_, wIsi_mono j.mono⟩
  obtain ⟨F, sd, pv, pd, ok, R, h⟩ := h
  refine tl.sub j ok R h fun d sd1 v H1 h1 R1 => ?_
  obtain ⟨r, R0⟩ := one (X := X) R1
  exact ⟨v, .ty n, _, _, _, rfl, .ty n, rep_ty r, kit_isD d h1.1 hT, h1.2 _ H1 (push (X := X) R0 fun _ => .bl _)⟩
end
end Ev

/-! EvF: calls of own defs, what is walked, comprehensions. -/
namespace Ev
open PySem PySem.Spec PyProof.Rows L2

/-- a def as plain data: its parameters, those that may be objects, its promise -/
abbrev FSp := List Sl → (Ex → Prop) → (Rv → Sd → Prop) → Prop
structure Fn where
  ps : List Str
  pin : List Nat
  kw : List (List Str × List Nat) := []
  sp : FSp
def MonoF (sp : FSp) : Prop := ∀ args (xp xp' : Ex → Prop) (Q Q' : Rv → Sd → Prop), (∀ e, xp e → xp' e) → (∀ r s, Q r s → Q' r s) → sp args xp Q → sp args xp' Q'
def spOf (K : PySem.W.Frag) (cl : Glo) (fn : Fn) (vs : List V) (H : Hp) (Q : VK) (E : XK) : Prop :=
  ∃ (F : Fm) (args : List Sl), F.Ok K ⟨cl, fn.pin, E⟩ ∧ vs.length = fn.ps.length ∧ args.length = fn.ps.length ∧ F.R K (vs.map some) H (args.map some) [] [] ∧
    fn.sp args F.xp fun r sd' => ∀ v H', F.RR K (vs.map some) H' sd' v r [] [] → Q v H'
/-- the def stands at the name and keeps its promise -/
structure Has (X : Cx) (P : Par) (x : Str) (fn : Fn) : Prop where
  mono : MonoF fn.sp
  ok : ∃ (CX : CXT) (k : Nat) (f : Addr) (fd : FuncData) (sp : Sp), FnOk X.prog X.w X.K X.mg X.base CX k f fd fn.ps sp ∧ Room k X.A ∧ X.mg x = some (.ref f) ∧ PySem.W.keepIn X.K (.ref f) = true ∧ Binds X.K fd fn.ps [] ∧ Passes CX X P.E ∧
    (∀ vs H Q, spOf X.K P.cl fn vs H Q P.E → sp vs H Q P.E) ∧ (∀ vs H Q, spOf X.K P.cl fn vs H Q E0 → sp vs H Q E0) ∧ (∀ X' : Cx, X'.prog = X.prog → X'.w = X.w → Passes CX X' E0) ∧
    ∀ q ∈ fn.kw, ∃ g gV, KBinds X.K fd fn.ps q.1 g gV ∧ ∀ zs : List V, zs.length = q.1.length → gV [] zs = q.2.map fun j : Nat => zs.getD j .non

def wCall (fn : Fn) (w : WA) : WT := fun sd xp Q => w sd xp fun as sd1 => (slotsOf as).Nodup ∧ ∃ args, as.map (Ar.sl sd1) = args.map some ∧ args.length = fn.ps.length ∧ (∀ (i : Nat) o, args[i]? = some (.ob o) → i ∈ fn.pin) ∧
  fn.sp args xp fun r sd' => Q r (back sd1 as sd')
theorem wCall_mono {fn : Fn} {w : WA} (mf : MonoF fn.sp) (m : MonoA w) : Mono (wCall fn w) := fun sd xp xp' Q Q' hx hq h =>
  m sd xp xp' _ _ hx (fun as s ⟨nd, args, e, l, p, q⟩ => ⟨nd, args, e, l, p, mf args xp xp' _ _ hx (fun r s2 q2 => hq _ _ q2) q⟩) h
section
variable {X : Cx} {P : Par} {F : Fm} {σ : L2.St} {H H' : Hp} {sd sd' : Sd} {pv : List V} {pd : List D}
theorem tabG_ne {H : Hp} {a : Addr} (h : GxR.TabG H a) : H a ≠ none := by
  obtain ⟨ps, e, _⟩ := h
  rw [e]; intro z; cases z
theorem tabG_go {H H' : Hp} {a : Addr} (h : GoT (H a) (H' a)) (t : GxR.TabG H a) : GxR.TabG H' a := by
  obtain ⟨ps, e, q⟩ := t
  obtain ⟨qs, e2, g⟩ := (h _ e).2 ps rfl
  exact ⟨qs, e2, g q⟩
theorem call_go {fn : Fn} {vs ws : List V} {ds : List D} {as : List Ar} {args : List Sl} {Q : VK} {R' : Rv → Sd → Prop} (ok : F.Ok X.K P) (mf : MonoF fn.sp) (al : ArL σ vs as ws ds) (R : F.R X.K σ H sd (ws ++ pv) (ds ++ pd)) (nd : (slotsOf as).Nodup)
    (hA : as.map (Ar.sl sd) = args.map some) (hl : args.length = fn.ps.length) (hp : ∀ (i : Nat) o, args[i]? = some (.ob o) → i ∈ fn.pin) (h : fn.sp args F.xp R') (k : ∀ r sd' v H', R' r sd' → F.RR X.K σ H' (back sd as sd') v r pv pd → Q v H') :
    spOf X.K P.cl fn vs H Q P.E := by
  obtain ⟨HFc, M0c, PAc, Rc, hpin, hs, hm, ht, hb⟩ := RelP.call R al nd hA
  have hvl : vs.length = as.length := al.len.1
  have hal : as.length = args.length := by have := congrArg List.length hA; simpa using this
  refine ⟨⟨HFc, M0c, PAc, F.xp⟩, args, ⟨fun i v e => ?_, fun ex v d H' hE hx => ?_, fun x a e => tabG_go (ht a (tabG_ne (ok.tab x a e))) (ok.tab x a e)⟩, by omega, hl, Rc, mf args _ _ _ _ (fun _ q => q) (fun r s q v H' rel => k r s v H' q (hb H' v r s rel)) h⟩
  · obtain ⟨o, e2⟩ := hpin i v e
    exact hp i o e2
  · obtain ⟨c, dx, us, e1, e2, e3, e4, e5, e6, e7⟩ := hE
    refine ok.ex ex v d H' ⟨c, dx, us, e1, e2, e3, hs H' e4, e5, e6, reps_mono (hid_same (fun b _ _ z => hm b z) fun _ _ _ _ q => q) e7⟩ hx
theorem je_call {x : Str} {fn : Fn} {e : Expr} {es : List Expr} {w : WA} {p pos : Pos} (hf : Has X P x fn) (hg : Gl X x) (j : JA X P (e :: es) w) (hdb : (x == ("__debug__" : Str)) = false)
    (he : starEach (e :: es) X.env = (false, eval e X.env) :: starEach es X.env) (hpl : (backTo pos (starEach es X.env)).any (·.1) = false) : JE X P (.Call (.Name x p) (e :: es) [] pos) (wCall fn w) := by
  obtain ⟨CX, k, f, fd, sp, hF, hr, hm, hk, hb, hx, hi, _⟩ := hf.ok
  refine ⟨(pe_call hF hr hg hm hk hb .nil hx j.pa hdb he hpl).imp fun σ H Q h => ?_, wCall_mono hf.mono j.mono⟩
  obtain ⟨F, sd, pv, pd, ok, R, h⟩ := h
  refine tla.go j ok R h fun as sd1 vs ws ds H1 h1 al R1 => ?_
  obtain ⟨nd, args, hA, hl, hp, q⟩ := h1
  rw [List.append_nil]
  exact hi vs H1 Q (call_go (X := X) ok hf.mono al R1 nd hA hl hp q fun r sd' v H' q2 rel => q2 v H' rel)

/-- f(k = e, ..), all of it data -/
structure JK (X : Cx) (P : Par) (kws : List Keyword) (w : WA) : Prop where
  pk : PK X kws (tla X.K P w)
  mono : MonoA w
theorem _root_.L2.PK.imp {kws : List Keyword} {t t' : TA} (h : PK X kws t) (i : ∀ σ H Q, t' σ H Q → t σ H Q) : PK X kws t' := ⟨fun pos pins s σ H Q I q => h.run pos pins s σ H Q I (i σ H Q q)⟩
theorem jk_nil : JK X P [] wNil := ⟨pk_nil.imp fun σ H Q ⟨F, sd, pv, pd, ok, R, h⟩ => h [] [] [] H .nil R, wNil_mono⟩
theorem jk_cons {e : Expr} {kws : List Keyword} {nm : Option Str} {kpos : Pos} {w : WT} {r : WA} (je : JE X P e w) (jr : JK X P kws r) : JK X P (⟨nm, e, kpos⟩ :: kws) (wDat w r) := by
  refine ⟨(pk_cons je.pe jr.pk).imp fun σ H Q h => ?_, wDat_mono je.mono jr.mono⟩
  obtain ⟨F, sd, pv, pd, ok, R, h⟩ := h
  refine tl.sub je ok R h fun d sd1 v H1 h1 R1 => ?_
  refine ⟨F, sd1, v :: pv, d :: pd, ok, R1, jr.mono sd1 F.xp F.xp _ _ (fun _ q => q) (fun as sd2 h2 vs ws ds H2 al R2 => ?_) h1⟩
  refine h2 (v :: vs) (v :: ws) (d :: ds) H2 (.dat al) (RelP.pend R2 fun Hh r => ?_)
  obtain ⟨r1, r2⟩ := Reps.split al.len.2 r
  cases r2 with | cons a b => exact .cons a (r1.app b)
def permD (perm : List Nat) (ds : List D) : List D := perm.map fun j : Nat => ds.getD j .none
def wCallK (fn : Fn) (perm : List Nat) (w : WA) : WT := fun sd xp Q => w sd xp fun as sd1 => ∃ ds, as = ds.map Ar.dat ∧ perm.length = fn.ps.length ∧ (∀ j ∈ perm, j < ds.length) ∧
  fn.sp ((permD perm ds).map Sl.dat) xp fun r _ => Q r sd1
theorem wCallK_mono {fn : Fn} {perm : List Nat} {w : WA} (mf : MonoF fn.sp) (m : MonoA w) : Mono (wCallK fn perm w) := fun sd xp xp' Q Q' hx hq h =>
  m sd xp xp' _ _ hx (fun as s ⟨ds, e, l, p, q⟩ => ⟨ds, e, l, p, mf _ xp xp' _ _ hx (fun r s2 q2 => hq _ _ q2) q⟩) h
theorem perm_arL {ws : List V} {ds : List D} : ∀ perm : List Nat, ArL σ (perm.map fun j : Nat => ws.getD j .non) ((permD perm ds).map Ar.dat) (perm.map fun j : Nat => ws.getD j .non) (permD perm ds)
  | [] => .nil
  | j :: perm => .dat (perm_arL perm)
theorem slots_dat : ∀ ds : List D, slotsOf (ds.map Ar.dat) = []
  | [] => rfl
  | _ :: r => slots_dat r
theorem back_dat (sd ss : Sd) : ∀ (ds : List D) (ss : Sd), back sd (ds.map Ar.dat) ss = sd
  | [], _ => rfl
  | _ :: r, ss => back_dat sd ss r ss.tail
theorem reps_perm {K : PySem.W.Frag} {Hh : Hp} {ws : List V} {ds : List D} (r : Reps K Hh ws ds) : ∀ perm : List Nat, (∀ j ∈ perm, j < ds.length) → Reps K Hh (perm.map fun j : Nat => ws.getD j .non) (permD perm ds)
  | [], _ => .nil
  | j :: perm, h => by
    have hj : j < ds.length := h j List.mem_cons_self
    obtain ⟨v, e, rv⟩ := r.get (List.getElem?_eq_getElem hj)
    refine .cons ?_ (reps_perm r perm fun k hk => h k (List.mem_cons_of_mem _ hk))
    show Rep K Hh (ws.getD j .non) (ds.getD j .none)
    rw [List.getD_eq_getElem?_getD, e, List.getD_eq_getElem?_getD, List.getElem?_eq_getElem hj]
    exact rv
theorem je_callK {x : Str} {fn : Fn} {ks : List Str} {perm : List Nat} {kws : List Keyword} {w : WA} {p pos : Pos} (hf : Has X P x fn) (hq : (ks, perm) ∈ fn.kw) (hg : Gl X x) (j : JK X P kws w) (hdb : (x == ("__debug__" : Str)) = false)
    (hall : (backToKw pos (keywordEach kws X.env)).all (·.1.isSome) = true) (hks : (backToKw pos (keywordEach kws X.env)).filterMap (·.1) = ks) (hpl : ((backTo pos (starEach [] X.env)).any (·.1) || (backToKw pos (keywordEach kws X.env)).any (·.1.isNone)) = false) (hlen : ∀ sd xp (Q : List Ar → Sd → Prop), w sd xp Q → w sd xp fun as s => as.length = ks.length ∧ Q as s) :
    JE X P (.Call (.Name x p) [] kws pos) (wCallK fn perm w) := by
  obtain ⟨CX, k, f, fd, sp, hF, hr, hm, hk, hb, hx, hi, _, _, hkw⟩ := hf.ok
  obtain ⟨g, gV, hB, hgV⟩ := hkw _ hq
  refine ⟨⟨fun pins s σ H Q I h => ?_⟩, wCallK_mono hf.mono j.mono⟩
  refine wpAny_Call_Name_kw (ld_glob I hg hm ?_ hdb)
  refine PySem.W.callWith_KW0 (h₀ := X.base) I.ok.mod.kin hk hall ?_ hpl
  obtain ⟨F, sd, pv, pd, ok, R, h⟩ := h
  refine thn (j.pk.run pos pins s σ H (fun zs H2 => sp (gV [] zs) H2 Q P.E) I ⟨F, sd, pv, pd, ok, R, j.mono sd F.xp F.xp _ _ (fun _ q => q) (fun as sd1 h1 vs ws ds H1 al R1 => ?_) (hlen sd F.xp _ h)⟩) fun ws s2 ⟨zs, H2, I2, rz, q2⟩ => ⟨I2.kIn, ?_⟩
  · obtain ⟨hal, es, rfl, hpl2, hlt, q⟩ := h1
    obtain ⟨rfl, rfl⟩ := al.dats
    have hvl := al.len.1
    have hv2 : vs.length = ks.length := by omega
    rw [hgV vs hv2]
    have R2 : F.R X.K σ H1 sd1 ((perm.map fun j : Nat => vs.getD j .non) ++ pv) (permD perm ds ++ pd) := RelP.pend R1 fun Hh r => by
      obtain ⟨r1, r2⟩ := Reps.split al.len.2 r
      exact (reps_perm r1 perm hlt).app r2
    refine hi _ H1 Q (call_go (X := X) ok hf.mono (perm_arL perm) R2 (by rw [slots_dat]; exact List.nodup_nil) (args := (permD perm ds).map Sl.dat) ?_ ?_ ?_ q fun r sd' v H' q2 rel => ?_)
    · rw [List.map_map, List.map_map]; rfl
    · unfold permD; simp [hpl2]
    · intro i o e
      rw [List.getElem?_map] at e
      cases e2 : (permD perm ds)[i]? with
      | none => rw [e2] at e; cases e
      | some z => rw [e2] at e; cases e
    · rw [back_dat _ [] _ sd'] at rel
      exact q2 v H' rel
  · rw [hks]
    exact run_fnk (us := []) hF hr hB hx I2 .nil rz q2

/-! ### what is walked -/
/-- the iterator gives these items, as long as what is pending stands -/
def Wlk (K : PySem.W.Frag) (F : Fm) (J : It) (zv : List V) (zd items : List D) : Prop := ∀ (σ : L2.St) (H : Hp) (sd : Sd) (pv : List V) (pd : List D) (i : Nat), F.R K σ H sd (zv ++ pv) (zd ++ pd) →
  (∀ d, items[i]? = some d → J.go i H ∧ ∀ x H', J.yld i H x H' → F.R K σ H' sd (x :: (zv ++ pv)) (d :: (zd ++ pd))) ∧ (items.length ≤ i → J.stop i H)
abbrev WI := Sd → (Ex → Prop) → (List D → Sd → Prop) → Prop
def MonoI (w : WI) : Prop := ∀ sd (xp xp' : Ex → Prop) (Q Q' : List D → Sd → Prop), (∀ e, xp e → xp' e) → (∀ r s, Q r s → Q' r s) → w sd xp Q → w sd xp' Q'
def tli (K : PySem.W.Frag) (P : Par) (w : WI) : TI := fun σ H R => ∃ (F : Fm) (sd : Sd) (pv : List V) (pd : List D), F.Ok K P ∧ F.R K σ H sd pv pd ∧
  w sd F.xp fun items sd' => ∀ J H' zv zd, zv.length = zd.length → F.R K σ H' sd' (zv ++ pv) (zd ++ pd) → (∀ F' : Fm, Wlk K F' J zv zd items) → R J H'
structure JI (X : Cx) (P : Par) (tg iter : Expr) (w : WI) : Prop where
  pi : PI X tg iter (tli X.K P w)
  mono : MonoI w
theorem _root_.L2.PI.imp {tg e : Expr} {t t' : TI} (h : PI X tg e t) (i : ∀ σ H R, t' σ H R → t σ H R) : PI X tg e t' := ⟨fun pins s σ H R I q => h.run pins s σ H R I (i σ H R q)⟩
theorem _root_.L2.PI.or {tg e : Expr} {t t' u : TI} (h : PI X tg e t) (h' : PI X tg e t') (i : ∀ σ H R, u σ H R → t σ H R ∨ t' σ H R) : PI X tg e u := ⟨fun pins s σ H R I q => by
  rcases i σ H R q with q | q
  · exact h.run pins s σ H R I q
  · exact h'.run pins s σ H R I q⟩
theorem wlk_list {K : PySem.W.Frag} {F : Fm} {a : Addr} {xs : List D} {b : V} (hb : b = .ref a) : Wlk K F (Itl K a) [b] [.list xs] xs := by
  subst hb
  intro σ H sd pv pd i R
  have op : ∃ us, SqL K H a us ∧ us.length = xs.length ∧ F.R K σ H sd (us ++ ([V.ref a] ++ pv)) (xs ++ ([PyData.list xs] ++ pd)) := by
    obtain ⟨ow, W⟩ := R
    have W2 := W.pend
    cases W2 with
    | cons h1 r =>
      obtain ⟨a', us, e, t, k⟩ := rep_lst h1
      cases e
      exact ⟨us, Same.seq (fun c u z => (hid_some.mp z).2.1) t, k.len, ow, W.fr, W.m0, W.inj, W.out, W.pin, W.sl, k.app (.cons h1 r)⟩
  obtain ⟨us, t, hl, R2⟩ := op
  refine ⟨fun d hd => ?_, fun hle => ⟨us, t, by omega⟩⟩
  have hi : i < us.length := by rw [hl]; exact (List.getElem?_eq_some_iff.mp hd).1
  refine ⟨⟨us, us[i], t, List.getElem?_eq_getElem hi⟩, fun x H' hy => ?_⟩
  obtain ⟨rfl, hy⟩ := hy
  have hx := hy us t
  refine RelP.pend R2 fun Hh r => ?_
  obtain ⟨r1, r2⟩ := Reps.split hl r
  obtain ⟨v, ev, rv⟩ := r1.get hd
  rw [hx] at ev
  cases ev
  exact .cons rv r2
theorem wlk_tup {K : PySem.W.Frag} {F : Fm} {a : Addr} {xs : List D} {b : V} (hb : b = .ref a) : Wlk K F (Itt K a) [b] [.tuple xs] xs := by
  subst hb
  intro σ H sd pv pd i R
  have op : ∃ us, H a = some (.tup us) ∧ us.length = xs.length ∧ F.R K σ H sd (us ++ ([V.ref a] ++ pv)) (xs ++ ([PyData.tuple xs] ++ pd)) := by
    obtain ⟨ow, W⟩ := R
    have W2 := W.pend
    cases W2 with
    | cons h1 r =>
      obtain ⟨a', us, e, t, k⟩ := rep_tup h1
      cases e
      exact ⟨us, (hid_some.mp t).2.1, k.len, ow, W.fr, W.m0, W.inj, W.out, W.pin, W.sl, k.app (.cons h1 r)⟩
  obtain ⟨us, t, hl, R2⟩ := op
  refine ⟨fun d hd => ?_, fun hle => ⟨us, SqT.of t, by omega⟩⟩
  have hi : i < us.length := by rw [hl]; exact (List.getElem?_eq_some_iff.mp hd).1
  refine ⟨⟨us, us[i], SqT.of t, List.getElem?_eq_getElem hi⟩, fun x H' hy => ?_⟩
  obtain ⟨rfl, hy⟩ := hy
  have hx := hy us (SqT.of t)
  refine RelP.pend R2 fun Hh r => ?_
  obtain ⟨r1, r2⟩ := Reps.split hl r
  obtain ⟨v, ev, rv⟩ := r1.get hd
  rw [hx] at ev
  cases ev
  exact .cons rv r2
def rangeD (lo : Int) (n : Nat) : List D := (List.range n).map fun k : Nat => PyData.int (lo + (k : Int))
theorem wlk_range {K : PySem.W.Frag} {F : Fm} {lo : Int} {n : Nat} : Wlk K F (Itr lo n) [] [] (rangeD lo n) := by
  intro σ H sd pv pd i R
  refine ⟨fun d hd => ?_, fun hle => ?_⟩
  · unfold rangeD at hd
    rw [List.getElem?_map] at hd
    by_cases hi : i < n
    · rw [List.getElem?_range hi] at hd
      cases hd
      refine ⟨hi, fun x H' hy => ?_⟩
      obtain ⟨rfl, rfl⟩ := hy
      exact RelP.pend R fun Hh r => .cons (.int _) r
    · rw [List.getElem?_eq_none (by simpa using hi)] at hd
      cases hd
  · have : (rangeD lo n).length = n := by unfold rangeD; simp
    show n ≤ i
    omega
/-- a list or a tuple -/
def wItems (w : WT) : WI := fun sd xp Q => sub w sd xp fun d sd1 => match d with
  | .list xs => Q xs sd1
  | .tuple xs => Q xs sd1
  | _ => False
theorem wItems_mono {w : WT} (m : Mono w) : MonoI (wItems w) := fun sd xp xp' Q Q' hx hq h => sub_mono m hx (fun d s q => by
  cases d <;> first
    | exact q.elim
    | exact hq _ _ q) h
/-- which of the two is open until the value is there: the walk of either -/
def iSeq (K : PySem.W.Frag) (tl : TE) : TI := fun σ H R => tl σ H fun x H1 => ∃ a, x = .ref a ∧ (((∃ xs, SqL K H1 a xs) ∧ R (Itl K a) H1) ∨ ((∃ xs, SqT K H1 a xs) ∧ R (Itt K a) H1))
theorem pi_seq {tg l : Expr} {t : TE} (hl : PE X l t) : PI X tg l (iSeq X.K t) := by
  refine ⟨fun pins s σ H R I h => ?_⟩
  refine thn (hl.run pins s σ H _ I h) fun v s1 ⟨x, H1, I1, r1, a, e, q1⟩ => ?_
  subst e
  cases r1
  -- a name that holds the value: the rules of the two walks, from the value on
  rcases q1 with ⟨⟨xs, hq⟩, q⟩ | ⟨⟨xs, hq⟩, q⟩
  · obtain ⟨its, rv, p, hz⟩ := I1.list hq
    refine wpAny_pyIter_list p.isList ?_
    have hnew : s1.heap.objs.size ≤ s1.heap.objs.size := Nat.le_refl _
    refine ⟨s1.heap.objs.size, [s1.heap.objs.size], _, _, H1, rfl, ?_, turn_list a _, ⟨_, Heap.get?_push_size _ rfl, rfl, rfl⟩, fun b hb => ?_, q⟩
    · exact I1.kept (t' := s1.toks) fun b o e => Heap.get?_push_of_some _ e
    · have e : b = s1.heap.objs.size := by simpa using hb
      subst e
      exact I1.fpOk hnew (I1.hok.fresh hnew)
  · obtain ⟨its, rv, p, hz⟩ := I1.tuple hq
    refine wpAny_pyIter_tuple (show s1.heap.IsTuple a its.toArray from p) ?_
    have hnew : s1.heap.objs.size ≤ s1.heap.objs.size := Nat.le_refl _
    refine ⟨s1.heap.objs.size, [s1.heap.objs.size], _, _, H1, rfl, ?_, turn_tuple a _, ⟨_, Heap.get?_push_size _ rfl, rfl, rfl⟩, fun b hb => ?_, q⟩
    · exact I1.kept (t' := s1.toks) fun b o e => Heap.get?_push_of_some _ e
    · have e : b = s1.heap.objs.size := by simpa using hb
      subst e
      exact I1.fpOk hnew (I1.hok.fresh hnew)
theorem ji_items {tg e : Expr} {w : WT} (j : JE X P e w) : JI X P tg e (wItems w) := by
  refine ⟨(pi_seq j.pe).imp fun σ H R h => ?_, wItems_mono j.mono⟩
  obtain ⟨F, sd, pv, pd, ok, R1, h⟩ := h
  refine tl.sub j ok R1 h fun d sd1 v H1 h1 R2 => ?_
  cases d with
  | list xs =>
    obtain ⟨a, us, rfl, t, hl, R3⟩ := openL (X := X) R2
    exact ⟨a, rfl, .inl ⟨⟨us, t⟩, h1 _ H1 [.ref a] [.list xs] rfl R2 fun _ => wlk_list rfl⟩⟩
  | tuple xs =>
    obtain ⟨a, us, rfl, t, hl, R3⟩ := openT (X := X) R2
    exact ⟨a, rfl, .inr ⟨⟨us, SqT.of t⟩, h1 _ H1 [.ref a] [.tuple xs] rfl R2 fun _ => wlk_tup rfl⟩⟩
  | _ => exact False.elim h1
def wRange1 (w : WA) : WI := fun sd xp Q => w sd xp fun as sd1 => ∃ j : Int, as = [.dat (.int j)] ∧ (-(2 ^ 62) ≤ j ∧ j < 2 ^ 62) ∧ Q (rangeD 0 j.toNat) sd1
def wRange2 (w : WA) : WI := fun sd xp Q => w sd xp fun as sd1 => ∃ i j : Int, as = [.dat (.int i), .dat (.int j)] ∧ (-(2 ^ 62) ≤ i ∧ i < 2 ^ 62 ∧ -(2 ^ 62) ≤ j ∧ j < 2 ^ 62) ∧ Q (rangeD i (j - i).toNat) sd1
theorem wRange1_mono {w : WA} (m : MonoA w) : MonoI (wRange1 w) := fun sd xp xp' Q Q' hx hq h => m sd xp xp' _ _ hx (fun as s ⟨j, e, b, q⟩ => ⟨j, e, b, hq _ _ q⟩) h
theorem wRange2_mono {w : WA} (m : MonoA w) : MonoI (wRange2 w) := fun sd xp xp' Q Q' hx hq h => m sd xp xp' _ _ hx (fun as s ⟨i, j, e, b, q⟩ => ⟨i, j, e, b, hq _ _ q⟩) h
theorem ji_range1 {tg a : Expr} {w : WA} {p pos : Pos} (hg : Gl X "range") (hm : X.mg "range" = none) (j : JA X P [a] w) (hs : starEach [a] X.env = [(false, eval a X.env)]) : JI X P tg (.Call (.Name "range" p) [a] [] pos) (wRange1 w) := by
  refine ⟨(pi_range1 hg hm j.pa hs).imp fun σ H R h => ?_, wRange1_mono j.mono⟩
  obtain ⟨F, sd, pv, pd, ok, R1, h⟩ := h
  refine tla.go j ok R1 h fun as sd1 vs ws ds H1 h1 al R2 => ?_
  obtain ⟨k, rfl, ⟨b1, b2⟩, q⟩ := h1
  obtain ⟨v, rfl, R3⟩ := dat1 (X := X) al R2
  obtain ⟨r, R0⟩ := one (X := X) R3
  exact ⟨k, by rw [rep_int r], b1, b2, q _ H1 [] [] rfl R0 fun _ => wlk_range⟩
theorem ji_range2 {tg a b : Expr} {w : WA} {p pos : Pos} (hg : Gl X "range") (hm : X.mg "range" = none) (j : JA X P [a, b] w) (hs : starEach [a, b] X.env = [(false, eval a X.env), (false, eval b X.env)]) (hs2 : starEach [b] X.env = [(false, eval b X.env)]) :
    JI X P tg (.Call (.Name "range" p) [a, b] [] pos) (wRange2 w) := by
  refine ⟨(pi_range2 hg hm j.pa hs hs2).imp fun σ H R h => ?_, wRange2_mono j.mono⟩
  obtain ⟨F, sd, pv, pd, ok, R1, h⟩ := h
  refine tla.go j ok R1 h fun as sd1 vs ws ds H1 h1 al R2 => ?_
  obtain ⟨i, k, rfl, bb, q⟩ := h1
  obtain ⟨v, u, rfl, R3⟩ := dat2 (X := X) al R2
  obtain ⟨r2, r1, R0⟩ := two (X := X) R3
  exact ⟨i, k, by rw [rep_int r1, rep_int r2], bb, q _ H1 [] [] rfl R0 fun _ => wlk_range⟩

/-! ### targets -/
abbrev WG := D → Sd → (Sd → Prop) → Prop
abbrev WGs := List D → Sd → (Sd → Prop) → Prop
def MonoG (w : WG) : Prop := ∀ d sd (Q Q' : Sd → Prop), (∀ s, Q s → Q' s) → w d sd Q → w d sd Q'
def MonoGs (w : WGs) : Prop := ∀ d sd (Q Q' : Sd → Prop), (∀ s, Q s → Q' s) → w d sd Q → w d sd Q'
def tlg (K : PySem.W.Frag) (P : Par) (n : Nat) (ts : List Nat) (w : WG) : TG := fun v σ H Q => ∃ (F : Fm) (sd : Sd) (pv : List V) (pd : List D) (d : D), F.Ok K P ∧ σ.length = n ∧ F.R K σ H sd (v :: pv) (d :: pd) ∧
  w d sd fun sd' => ∀ σ' H', σ'.length = n → (∀ j : Nat, j ∉ ts → σ'[j]? = σ[j]?) → F.R K σ' H' sd' pv pd → Q σ' H'
def tlgs (K : PySem.W.Frag) (P : Par) (n : Nat) (ts : List Nat) (w : WGs) : TGs := fun vs σ H Q => ∃ (F : Fm) (sd : Sd) (pv : List V) (pd ds : List D), F.Ok K P ∧ σ.length = n ∧ vs.length = ds.length ∧ F.R K σ H sd (vs ++ pv) (ds ++ pd) ∧
  w ds sd fun sd' => ∀ σ' H', σ'.length = n → (∀ j : Nat, j ∉ ts → σ'[j]? = σ[j]?) → F.R K σ' H' sd' pv pd → Q σ' H'
structure JG (X : Cx) (P : Par) (e : Expr) (ts : List Nat) (w : WG) : Prop where
  pg : PG X e (tlg X.K P X.N.length ts w)
  mono : MonoG w
structure JGs (X : Cx) (P : Par) (es : List Expr) (ts : List Nat) (w : WGs) : Prop where
  pgs : PGs X es (tlgs X.K P X.N.length ts w)
  mono : MonoGs w
theorem _root_.L2.PG.imp {e : Expr} {t t' : TG} (h : PG X e t) (i : ∀ v σ H Q, t' v σ H Q → t v σ H Q) : PG X e t' := ⟨fun pins s σ H v u Q I r q => h.run pins s σ H v u Q I r (i v σ H Q q)⟩
theorem _root_.L2.PGs.imp {es : List Expr} {t t' : TGs} (h : PGs X es t) (i : ∀ v σ H Q, t' v σ H Q → t v σ H Q) : PGs X es t' := ⟨fun pins s σ H v u Q I r q => h.run pins s σ H v u Q I r (i v σ H Q q)⟩
def wTo (pin : List Nat) (i : Nat) : WG := fun d sd Q => i ∉ pin ∧ Q (sd.set i (some (.dat d)))
theorem wTo_mono {pin : List Nat} {i : Nat} : MonoG (wTo pin i) := fun d sd Q Q' hq h => ⟨h.1, hq _ h.2⟩
theorem pin_none (ok : F.Ok X.K P) {i : Nat} (h : i ∉ P.pin) : F.PA i = none := by
  cases e : F.PA i with
  | none => rfl
  | some v => exact absurd (ok.pin i v e) h
theorem jg_name {i : Nat} {x : Str} {pos : Pos} (hN : X.N.Nodup) (hi : X.N[i]? = some x) (hx : Loc X.env.scope x) (hf : X.fn x = true ∨ X.env.scope.names.lookup x = some .local) : JG X P (.Name x pos) [i] (wTo P.pin i) := by
  refine ⟨(pg_name hN hi hx hf).imp fun v σ H Q h => ?_, wTo_mono⟩
  obtain ⟨F, sd, pv, pd, d, ok, hl, R, hp, q⟩ := h
  have hi' : i < σ.length := by rw [hl]; exact (List.getElem?_eq_some_iff.mp hi).1
  exact q _ H (by rw [List.length_set]; exact hl) (fun j hj => List.getElem?_set_ne fun e => hj (by rw [e]; exact List.mem_singleton_self _)) (RelP.set R hi' (pin_none (X := X) ok hp))
def wG0 : WGs := fun ds sd Q => ds = [] ∧ Q sd
def wG1 (w : WG) (r : WGs) : WGs := fun ds sd Q => ∃ d rest, ds = d :: rest ∧ w d sd fun sd1 => r rest sd1 Q
theorem wG0_mono : MonoGs wG0 := fun d sd Q Q' hq h => ⟨h.1, hq _ h.2⟩
theorem wG1_mono {w : WG} {r : WGs} (mw : MonoG w) (mr : MonoGs r) : MonoGs (wG1 w r) := fun ds sd Q Q' hq ⟨d, rest, e, h⟩ => ⟨d, rest, e, mw d sd _ _ (fun s q => mr rest s _ _ hq q) h⟩
theorem jgs_nil : JGs X P [] [] wG0 := by
  refine ⟨pgs_nil.imp fun v σ H Q h => ?_, wG0_mono⟩
  obtain ⟨F, sd, pv, pd, ds, ok, hl, hv, R, rfl, q⟩ := h
  cases v with
  | nil => exact ⟨rfl, q σ H hl (fun _ _ => rfl) R⟩
  | cons _ _ => simp at hv
theorem jgs_cons {e : Expr} {es : List Expr} {t u : List Nat} {w : WG} {r : WGs} (j : JG X P e t w) (jr : JGs X P es u r) (hs : (assignEach (e :: es) X.env).map (·.2) = assign e X.env :: (assignEach es X.env).map (·.2)) : JGs X P (e :: es) (t ++ u) (wG1 w r) := by
  refine ⟨(pgs_cons j.pg jr.pgs hs).imp fun v σ H Q h => ?_, wG1_mono j.mono jr.mono⟩
  obtain ⟨F, sd, pv, pd, ds, ok, hl, hv, R, d, rest, rfl, q⟩ := h
  cases v with
  | nil => simp at hv
  | cons v vr =>
    refine ⟨v, vr, rfl, F, sd, vr ++ pv, rest ++ pd, d, ok, hl, R, j.mono d sd _ _ (fun s q2 σ' H' hl' hj R' => ?_) q⟩
    refine ⟨F, s, pv, pd, rest, ok, hl', by simpa using hv, R', jr.mono rest s _ _ (fun s3 q3 σ3 H3 hl3 hj3 R3 => q3 σ3 H3 hl3 (fun k hk => ?_) R3) q2⟩
    rw [hj3 k fun z => hk (List.mem_append_right _ z), hj k fun z => hk (List.mem_append_left _ z)]
def wGT (n : Nat) (r : WGs) : WG := fun d sd Q => ∃ ds, d = .tuple ds ∧ ds.length = n ∧ r ds sd Q
theorem wGT_mono {n : Nat} {r : WGs} (mr : MonoGs r) : MonoG (wGT n r) := fun d sd Q Q' hq ⟨ds, e, l, h⟩ => ⟨ds, e, l, mr ds sd _ _ hq h⟩
theorem jg_tup {es : List Expr} {k : Nat} {t : List Nat} {r : WGs} {n : Nat} {pos : Pos} (hc : X.calm = true) (j : JGs X P es t r) (hn : (assignEach es X.env).length = n) (hst : (assignEach es X.env).findIdx? (·.1) = none) : JG X P (.Tuple es k pos) t (wGT n r) := by
  refine ⟨(pg_tup hc j.pgs hn hst).imp fun v σ H Q h => ?_, wGT_mono j.mono⟩
  obtain ⟨F, sd, pv, pd, d, ok, hl, R, ds, rfl, hln, q⟩ := h
  obtain ⟨a, us, rfl, ht, hul, R2⟩ := openT (X := X) R
  refine ⟨a, us, rfl, SqT.of ht, by omega, F, sd, pv, pd, ds, ok, hl, hul, RelP.pend R2 fun Hh r => ?_, q⟩
  obtain ⟨r1, r2⟩ := Reps.split hul r
  cases r2 with | cons _ b => exact r1.app b
end
end Ev

/-! EvG: list comprehensions. -/
namespace Ev
open PySem PySem.Spec PyProof.Rows L2
def noX : Ex → Prop := fun _ => False
def wipeD (own : List Nat) (sd : Sd) : Sd := own.foldr (fun i s => s.set i none) sd
theorem wipeD_get (sd : Sd) (i : Nat) (s : Sl) : ∀ own : List Nat, (wipeD own sd)[i]? = some (some s) → sd[i]? = some (some s) ∧ i ∉ own
  | [], h => ⟨h, by simp⟩
  | k :: own, h => by
    have h : ((wipeD own sd).set k none)[i]? = some (some s) := h
    rcases set_get h with ⟨_, z⟩ | ⟨hne, q⟩
    · cases z
    · obtain ⟨h1, h2⟩ := wipeD_get sd i s own q
      exact ⟨h1, by simp only [List.mem_cons, not_or]; exact ⟨hne, h2⟩⟩
theorem wipe_out (σ : L2.St) (i : Nat) : ∀ vs : List Nat, i ∉ vs → (wipe σ vs)[i]? = σ[i]?
  | [], _ => rfl
  | k :: vs, h => by
    unfold wipe
    rw [List.getElem?_set_ne (fun e => h (by rw [e]; exact List.mem_cons_self)), wipe_out σ i vs fun z => h (List.mem_cons_of_mem _ z)]
theorem wipe_in (σ : L2.St) (i : Nat) : ∀ vs : List Nat, i ∈ vs → i < σ.length → (wipe σ vs)[i]? = some none
  | [], h, _ => by simp at h
  | k :: vs, h, hl => by
    unfold wipe
    by_cases e : k = i
    · subst e
      exact List.getElem?_set_self (by rw [wipe_length]; exact hl)
    · rw [List.getElem?_set_ne e]
      refine wipe_in σ i vs ?_ hl
      rcases List.mem_cons.mp h with z | z
      · exact absurd z.symm e
      · exact z
theorem wipe_eq {σ σ2 : L2.St} {vs : List Nat} (hl : σ2.length = σ.length) (h : ∀ j : Nat, j ∉ vs → σ2[j]? = σ[j]?) : wipe σ2 vs = wipe σ vs := by
  refine List.ext_getElem? fun j => ?_
  by_cases hj : j ∈ vs
  · by_cases hlt : j < σ.length
    · rw [wipe_in σ j vs hj hlt, wipe_in σ2 j vs hj (by omega)]
    · rw [List.getElem?_eq_none (by rw [wipe_length]; omega), List.getElem?_eq_none (by rw [wipe_length]; omega)]
  · rw [wipe_out σ2 j vs hj, wipe_out σ j vs hj, h j hj]
theorem wipe_wipe (σ : L2.St) (vs : List Nat) : wipe (wipe σ vs) vs = wipe σ vs := wipe_eq (wipe_length σ vs) fun j hj => wipe_out σ j vs hj

section
variable {K : PySem.W.Frag} {HF H : Hp} {M0 : Addr → Prop} {PA : Nat → Option V} {σ : L2.St} {sd : Sd} {pv : List V} {pd : List D} {p : Addr} {ho ho' : HO}
/-- an object that is hidden from the body changes -/
theorem RelP.rehid (nt : isTup ho' = false) (R : RelP K (upd HF p ho) (fun a => M0 a ∨ a = p) PA σ H sd pv pd) : RelP K (upd HF p ho') (fun a => M0 a ∨ a = p) PA σ (upd H p ho') sd pv pd := by
  obtain ⟨ow, R⟩ := R
  have nop : ∀ i a, ow i = some a → a ≠ p := fun i a z e => by
    have := (R.out i a z).1
    rw [e, upd_same] at this
    cases this
  have eh : Same (hid (Hd (fun a => M0 a ∨ a = p) ow) H) (hid (Hd (fun a => M0 a ∨ a = p) ow) (upd H p ho')) := hid_same (fun _ _ _ z => z) fun a o hn _ q => by
    have : a ≠ p := fun e => hn (.inl (.inr e))
    rw [upd_ne this]; exact q
  refine ⟨ow, fun a => ?_, fun a z => ?_, R.inj, fun i a z => ?_, R.pin, fun i s q => (R.sl i s q).mono eh fun a o ha _ q => ?_, reps_mono eh R.pend⟩
  · by_cases h : a = p
    · rw [h, upd_same, upd_same]; exact GoT.rfl
    · have := R.fr a
      rw [upd_ne h] at this
      rw [upd_ne h, upd_ne h]; exact this
  · by_cases h : a = p
    · exact ⟨ho', by rw [h]; exact upd_same, nt⟩
    · obtain ⟨u, q1, q2⟩ := R.m0 a z
      rw [upd_ne h] at q1
      exact ⟨u, by rw [upd_ne h]; exact q1, q2⟩
  · have h := nop i a z
    have := R.out i a z
    rw [upd_ne h] at this
    obtain ⟨t, u, q1, q2⟩ := this
    rw [upd_ne h]
    exact ⟨t, u, by rw [upd_ne h]; exact q1, q2⟩
  · rw [upd_ne (nop i a ha)]; exact q
end

def lcGo (own : List Nat) (tg : WG) (test : WC) (elt : WT) : List D → Sd → List D → (List D → Sd → Prop) → Prop
  | [], sd, acc, k => k acc sd
  | x :: xs, sd, acc, k => tg x sd fun sd1 => test sd1 noX fun b sd2 => if b = true then sub elt sd2 noX fun d sd3 => acc.length < sizeLine ∧ lcGo own tg test elt xs (wipeD own sd3) (acc ++ [d]) k
    else lcGo own tg test elt xs (wipeD own sd2) acc k
theorem lcGo_mono {own : List Nat} {tg : WG} {test : WC} {elt : WT} (mg : MonoG tg) (mc : MonoC test) (me : Mono elt) : ∀ (xs : List D) (sd : Sd) (acc : List D) (k k' : List D → Sd → Prop), (∀ a s, k a s → k' a s) → lcGo own tg test elt xs sd acc k → lcGo own tg test elt xs sd acc k'
  | [], sd, acc, k, k', hk, h => hk _ _ h
  | x :: xs, sd, acc, k, k', hk, h => by
    refine mg x sd _ _ (fun s h1 => mc s noX noX _ _ (fun _ q => q) (fun b s2 h2 => ?_) h1) h
    cases b with
    | true => exact sub_mono me (fun _ q => q) (fun d s3 ⟨l, h3⟩ => ⟨l, lcGo_mono mg mc me xs _ _ k k' hk h3⟩) h2
    | false => exact lcGo_mono mg mc me xs _ _ k k' hk h2
def wLc (it : WI) (own : List Nat) (tg : WG) (test : WC) (elt : WT) : WT := fun sd xp Q => it sd xp fun items sd1 => lcGo own tg test elt items (wipeD own sd1) [] fun acc sd2 => Q (.fresh (.L acc)) (wipeD own sd2)
theorem wLc_mono {it : WI} {own : List Nat} {tg : WG} {test : WC} {elt : WT} (mi : MonoI it) (mg : MonoG tg) (mc : MonoC test) (me : Mono elt) : Mono (wLc it own tg test elt) := fun sd xp xp' Q Q' hx hq h =>
  mi sd xp xp' _ _ hx (fun items s q => lcGo_mono mg mc me items _ _ _ _ (fun a s2 q2 => hq _ _ q2) q) h
def P0 (P : Par) : Par := { P with E := E0 }
def wYes : WC := fun sd _ Q => Q true sd
theorem wYes_mono : MonoC wYes := fun _ _ _ _ _ _ hq h => hq _ _ h
structure JT (X : Cx) (P : Par) (ifs : List Expr) (w : WC) : Prop where
  pts : PTs X ifs (tlc X.K P w)
  mono : MonoC w
theorem _root_.L2.PTs.imp {X : Cx} {ifs : List Expr} {t t' : TT} (h : PTs X ifs t) (i : ∀ σ H Q, t' σ H Q → t σ H Q) : PTs X ifs t' := ⟨fun pins s σ H Q I q => h.run pins s σ H Q I (i σ H Q q)⟩
theorem jt_nil {X : Cx} {P : Par} : JT X P [] wYes := ⟨pts_nil.imp fun σ H Q ⟨F, sd, pv, pd, ok, R, h⟩ => h H R, wYes_mono⟩
theorem jt_one {X : Cx} {P : Par} {c : Expr} {w : WC} (j : JC X P c w) : JT X P [c] w := ⟨pts_one j.pt, j.mono⟩

section
variable {X : Cx} {P : Par}
theorem lc_imp {K : PySem.W.Frag} {it : WI} {own ts : List Nat} {tg : WG} {test : WC} {elt : WT} {n : Nat} (mg : MonoG tg) (mc : MonoC test) (me : Mono elt) (mi : MonoI it) (hts : ∀ j ∈ ts, j ∈ own) (hpin : ∀ j ∈ P.pin, j ∉ own) :
    ∀ σ H Q, σ.length = n → tl K P (wLc it own tg test elt) σ H Q → tLc (tli K P it) (tlg K (P0 P) n ts tg) (tlc K (P0 P) test) (tl K (P0 P) elt) own σ H Q := by
  intro σ H Q hn ⟨F, sd, pv, pd, ok, R, h⟩
  refine ⟨F, sd, pv, pd, ok, R, mi sd F.xp F.xp _ _ (fun _ q => q) (fun items sd1 h1 J H1 zv zd hz R1 hw => ?_) h⟩
  intro Dd hD
  have hDF : F.HF Dd = none := by
    obtain ⟨ow, W⟩ := R1
    exact (W.fr Dd).none_of hD
  have hm0 : ∀ a, F.M0 a → NT F.HF a := by obtain ⟨ow, W⟩ := R1; exact W.m0
  -- the frame with the new list in it
  let Fa : List V → Fm := fun av => ⟨upd F.HF Dd (.lst av), fun a => F.M0 a ∨ a = Dd, F.PA, noX⟩
  have oka : ∀ av, (Fa av).Ok K (P0 P) := fun av => ⟨ok.pin, fun ex v d H' _ z => z.elim, fun x a e => by
    obtain ⟨ps, e1, q⟩ := ok.tab x a e
    exact ⟨ps, by rw [show (Fa av).HF = upd F.HF Dd (.lst av) from rfl, upd_ne (ne_of_none e1 hDF)]; exact e1, q⟩⟩
  have pinOut : ∀ (i : Nat) v, F.PA i = some v → i ∉ own := fun i v e => hpin i (ok.pin i v e)
  refine ⟨fun i m H => ∃ sdi acc av, m = items.length - i ∧ i ≤ items.length ∧ av.length = acc.length ∧ (Fa av).R K (wipe σ own) H sdi (zv ++ (av ++ pv)) (zd ++ (acc ++ pd)) ∧
    lcGo own tg test elt (items.drop i) sdi acc (fun acc sd2 => ∀ v H', F.RR K σ H' (wipeD own sd2) v (.fresh (.L acc)) pv pd → Q v H'), ⟨items.length, wipeD own sd1, [], [], by simp, Nat.zero_le _, rfl, ?_, by simpa using h1⟩, ?_⟩
  · -- the start
    have fr0 : FrR K F.HF F.M0 F.PA σ (upd H1 Dd (.lst [])) sd1 (.ref Dd) (.L []) (zv ++ pv) (zd ++ pd) := FrR.mk (ws := []) (es := []) R1 rfl hD fun Hh r => r
    obtain ⟨p, ho, ws, es, e1, _, _, hl, hob, Rp⟩ := fr0
    cases e1
    -- the list is empty
    have R2 : RelP K (upd F.HF Dd (.lst [])) (fun a => F.M0 a ∨ a = Dd) F.PA σ (upd H1 Dd (.lst [])) sd1 (zv ++ pv) (zd ++ pd) := by
      obtain ⟨ow, W⟩ := Rp
      have e : ho = .lst [] := by
        have := (W.fr Dd).at ((hob _ (Reps.split hl W.pend).1).ntb) upd_same
        rw [upd_same] at this
        exact (Option.some.inj this).symm
      subst e
      exact ⟨ow, W.fr, W.m0, W.inj, W.out, W.pin, W.sl, (Reps.split hl W.pend).2⟩
    refine RelP.sub R2 (fun i s e => ?_) fun i v e => ?_
    · obtain ⟨h2, h3⟩ := wipeD_get sd1 i s own e
      exact ⟨h2, wipe_out σ i own h3⟩
    · rw [wipe_out σ i own (pinOut i v e)]
      obtain ⟨ow, W⟩ := R1
      exact W.pin i v e
  · rintro i m H2 ⟨sdi, acc, av, rfl, hi, hav, R2, hgo⟩
    have split : (Fa av).R K (wipe σ own) H2 sdi (av ++ (zv ++ pv)) (acc ++ (zd ++ pd)) := RelP.pend R2 fun Hh r => by
      obtain ⟨r1, r2⟩ := Reps.split hz r
      obtain ⟨r3, r4⟩ := Reps.split hav r2
      exact r3.app (r1.app r4)
    by_cases hlt : i < items.length
    · right
      have hd : items.drop i = items[i] :: items.drop (i + 1) := List.drop_eq_getElem_cons hlt
      rw [hd] at hgo
      obtain ⟨hgo1, hy⟩ := (hw (Fa av) (wipe σ own) H2 sdi (av ++ pv) (acc ++ pd) i R2).1 items[i] (List.getElem?_eq_getElem hlt)
      refine ⟨hgo1, fun H' => ∃ sdj acc' av', av'.length = acc'.length ∧ (Fa av').R K (wipe σ own) H' sdj (zv ++ (av' ++ pv)) (zd ++ (acc' ++ pd)) ∧
        lcGo own tg test elt (items.drop (i + 1)) sdj acc' (fun acc sd2 => ∀ v H', F.RR K σ H' (wipeD own sd2) v (.fresh (.L acc)) pv pd → Q v H'), fun H' ⟨sdj, acc', av', a1, a2, a3⟩ => ⟨items.length - (i + 1), by omega, sdj, acc', av', rfl, hlt, a1, a2, a3⟩, fun x H3 hx => ?_⟩
      have R3 := hy x H3 hx
      refine ⟨Fa av, sdi, zv ++ (av ++ pv), zd ++ (acc ++ pd), items[i], oka av, by rw [wipe_length]; exact hn, R3, mg _ _ _ _ (fun sd2 h2 σ2 H4 hl2 hj2 R4 => ?_) hgo⟩
      have ew : wipe σ2 own = wipe σ own := by
        rw [← wipe_wipe σ own]
        exact wipe_eq (by rw [hl2, wipe_length]; exact hn.symm) fun j hj => hj2 j fun z => hj (hts j z)
      refine ⟨ew, Fa av, sd2, zv ++ (av ++ pv), zd ++ (acc ++ pd), oka av, R4, mc _ _ _ _ _ (fun _ q => q) (fun b sd3 h3 H5 R5 => ?_) h2⟩
      have back : ∀ {av' : List V} {acc' : List D} {sdx : Sd} {Hx : Hp}, (Fa av').R K σ2 Hx sdx (zv ++ (av' ++ pv)) (zd ++ (acc' ++ pd)) → (Fa av').R K (wipe σ own) Hx (wipeD own sdx) (zv ++ (av' ++ pv)) (zd ++ (acc' ++ pd)) := fun {av' acc' sdx Hx} r => by
        refine RelP.sub r (fun k s e => ?_) fun k v e => ?_
        · obtain ⟨h2, h3⟩ := wipeD_get sdx k s own e
          exact ⟨h2, by rw [← ew, wipe_out σ2 k own h3]⟩
        · rw [wipe_out σ k own (pinOut k v e)]
          obtain ⟨ow, W⟩ := R1
          exact W.pin k v e
      cases b with
      | false => exact ⟨wipeD own sd3, acc, av, hav, back R5, h3⟩
      | true =>
        refine ⟨Fa av, sd3, zv ++ (av ++ pv), zd ++ (acc ++ pd), oka av, R5, me _ _ _ _ _ (fun _ q => q) (fun r sd4 h4 v H6 rel => ?_) h3⟩
        have fz : ∃ d, (Fa av).R K σ2 H6 sd4 (v :: (zv ++ (av ++ pv))) (d :: (zd ++ (acc ++ pd))) ∧ (acc.length < sizeLine ∧ lcGo own tg test elt (items.drop (i + 1)) (wipeD own sd4) (acc ++ [d]) (fun acc sd2 => ∀ v H', F.RR K σ H' (wipeD own sd2) v (.fresh (.L acc)) pv pd → Q v H')) := by
          cases r with
          | val d => exact ⟨d, rel, h4⟩
          | fresh o =>
            cases o with
            | L xs => exact ⟨.list xs, FrR.frz rel, h4⟩
            | _ => exact False.elim h4
        obtain ⟨d, R6, hs, hg6⟩ := fz
        have hDl : H6 Dd = some (.lst av) := by
          obtain ⟨ow, W⟩ := R6
          exact (W.fr Dd).at rfl upd_same
        refine ⟨av, hDl, by rw [hav]; exact hs, wipeD own sd4, acc ++ [d], av ++ [v], by simp [hav], ?_, hg6⟩
        refine back (av' := av ++ [v]) (acc' := acc ++ [d]) (RelP.rehid rfl (ho := .lst av) (RelP.pend R6 fun Hh r => ?_))
        cases r with
        | cons r0 r =>
          obtain ⟨r1, r2⟩ := Reps.split hz r
          obtain ⟨r3, r4⟩ := Reps.split hav r2
          exact r1.app ((r3.app (.cons r0 .nil)).app r4)
    · left
      have e : i = items.length := by omega
      subst e
      refine ⟨(hw (Fa av) (wipe σ own) H2 sdi (av ++ pv) (acc ++ pd) items.length R2).2 (Nat.le_refl _), ?_⟩
      rw [List.drop_length] at hgo
      refine hgo (.ref Dd) H2 ⟨Dd, .lst av, av, acc, rfl, hDF, hm0, hav, fun Hh r => r, ?_⟩
      refine RelP.sub (RelP.pend split fun Hh r => ?_) (fun k s e => ?_) fun k v e => ?_
      · obtain ⟨r1, r2⟩ := Reps.split hav r
        exact r1.app (Reps.split hz r2).2
      · obtain ⟨h2, h3⟩ := wipeD_get sdi k s own e
        exact ⟨h2, (wipe_out σ k own h3).symm⟩
      · obtain ⟨ow, W⟩ := R1
        exact W.pin k v e
end
end Ev

/-! EvH: statements. -/
namespace Ev
open PySem PySem.Spec PyProof.Rows L2
theorem _root_.L2.PE.impL {X : Cx} {e : Expr} {t t' : TE} (h : PE X e t) (i : ∀ σ H Q, σ.length = X.N.length → t' σ H Q → t σ H Q) : PE X e t' := ⟨fun pins s σ H Q I q => h.run pins s σ H Q I (i σ H Q I.len q)⟩
theorem _root_.L2.PS.impL {X : Cx} {e : Stmt} {t t' : TS} (h : PS X e t) (i : ∀ D σ H, σ.length = X.N.length → t' D σ H → t D σ H) : PS X e t' := ⟨fun pins s σ H D I q => h.run pins s σ H D I (i D σ H I.len q)⟩
theorem _root_.L2.PSs.impL {X : Cx} {e : List Stmt} {t t' : TS} (h : PSs X e t) (i : ∀ D σ H, σ.length = X.N.length → t' D σ H → t D σ H) : PSs X e t' := ⟨fun pins s σ H D I q => h.run pins s σ H D I (i D σ H I.len q)⟩
theorem _root_.L2.PS.orL {X : Cx} {e : Stmt} {t t' u : TS} (h : PS X e t) (h' : PS X e t') (i : ∀ D σ H, σ.length = X.N.length → u D σ H → t D σ H ∨ t' D σ H) : PS X e u := ⟨fun pins s σ H D I q => by
  rcases i D σ H I.len q with q | q
  · exact h.run pins s σ H D I q
  · exact h'.run pins s σ H D I q⟩
section
variable {X : Cx} {P : Par}
/-- [elt for tg in iter if ..] -/
theorem je_lc {elt tg iter : Expr} {ifs : List Expr} {scope : Scope} {own : List (Str × Nat)} {ts : List Nat} {pos : Pos} {it : WI} {wg : WG} {test : WC} {we : WT} (hc : X.calm = true) (hN : X.N.Nodup) (hi : JI X P tg iter it) (ok : BlkOk X.N X.env.scope scope own)
    (hg : ∀ (s : Shared) (H : Hp) (C : Addr) (cl : List (Str × Addr)) (fp : List Addr), JG (X.blk s H scope (compEnvC scope cl C X.env) fp) (P0 P) tg ts wg) (ht : ∀ (s : Shared) (H : Hp) (C : Addr) (cl : List (Str × Addr)) (fp : List Addr), JT (X.blk s H scope (compEnvC scope cl C X.env) fp) (P0 P) ifs test)
    (he : ∀ (s : Shared) (H : Hp) (C : Addr) (cl : List (Str × Addr)) (fp : List Addr), JE (X.blk s H scope (compEnvC scope cl C X.env) fp) (P0 P) elt we) (hts : ∀ j ∈ ts, j ∈ own.map (·.2)) (hpin : ∀ j ∈ P.pin, j ∉ own.map (·.2))
    (hs : ∀ x, foldedSetIterable iter X.env x = pure x) : JE X P (.ListComp elt [⟨tg, iter, ifs, 0⟩] scope pos) (wLc it (own.map (·.2)) wg test we) := by
  have mg := (hg X.s_0 X.H_0 0 [] []).mono
  have mc := (ht X.s_0 X.H_0 0 [] []).mono
  have me := (he X.s_0 X.H_0 0 [] []).mono
  refine ⟨(pe_lc (te := tl X.K (P0 P) we) (g := tlg X.K (P0 P) X.N.length ts wg) (tt := tlc X.K (P0 P) test) hc hN hi.pi ok (fun s H C cl fp => (hg s H C cl fp).pg) (fun s H C cl fp => (ht s H C cl fp).pts) (fun s H C cl fp => (he s H C cl fp).pe) hs).impL fun σ H Q hl h => ?_, wLc_mono hi.mono mg mc me⟩
  exact lc_imp (K := X.K) mg mc me hi.mono hts hpin σ H Q hl h

/-! ### statements -/
structure DE where
  nx : Sd → Prop
  rt : Rv → Sd → Prop
  bk : Sd → Prop := fun _ => False
  ct : Sd → Prop := fun _ => False
abbrev WS := DE → Sd → (Ex → Prop) → Prop
structure DE.le (a b : DE) : Prop where
  nx : ∀ s, a.nx s → b.nx s
  rt : ∀ r s, a.rt r s → b.rt r s
  bk : ∀ s, a.bk s → b.bk s
  ct : ∀ s, a.ct s → b.ct s
def MonoS (w : WS) : Prop := ∀ (D D' : DE) sd (xp xp' : Ex → Prop), D.le D' → (∀ e, xp e → xp' e) → w D sd xp → w D' sd xp'
/-- the ends, wished for on the machine's side -/
structure EndR (K : PySem.W.Frag) (F : Fm) (n : Nat) (pv : List V) (pd : List D) (A : DE) (B : Ends) : Prop where
  nx : ∀ sd σ H, σ.length = n → F.R K σ H sd pv pd → A.nx sd → B.nx σ H
  rt : ∀ r sd σ v H, F.RR K σ H sd v r pv pd → A.rt r sd → B.rt v H
  bk : ∀ sd σ H, σ.length = n → F.R K σ H sd pv pd → A.bk sd → B.bk σ H
  ct : ∀ sd σ H, σ.length = n → F.R K σ H sd pv pd → A.ct sd → B.ct σ H
def tls (K : PySem.W.Frag) (P : Par) (n : Nat) (w : WS) : TS := fun B σ H => ∃ (F : Fm) (sd : Sd) (pv : List V) (pd : List D) (A : DE), F.Ok K P ∧ F.R K σ H sd pv pd ∧ EndR K F n pv pd A B ∧ w A sd F.xp
structure JS (X : Cx) (P : Par) (st : Stmt) (w : WS) : Prop where
  ps : PS X st (tls X.K P X.N.length w)
  mono : MonoS w
structure JSs (X : Cx) (P : Par) (st : List Stmt) (w : WS) : Prop where
  pss : PSs X st (tls X.K P X.N.length w)
  mono : MonoS w
def wNext : WS := fun D sd _ => D.nx sd
theorem wNext_mono : MonoS wNext := fun D D' sd xp xp' hd hx h => hd.nx _ h
def wSeq (a b : WS) : WS := fun D sd xp => a { D with nx := fun sd1 => b D sd1 xp } sd xp
theorem wSeq_mono {a b : WS} (ma : MonoS a) (mb : MonoS b) : MonoS (wSeq a b) := fun D D' sd xp xp' hd hx h =>
  ma { D with nx := fun sd1 => b D sd1 xp } { D' with nx := fun sd1 => b D' sd1 xp' } sd xp xp' ⟨fun s q => mb D D' s xp xp' hd hx q, hd.rt, hd.bk, hd.ct⟩ hx h
theorem jss_nil : JSs X P [] wNext := ⟨pss_nil.impL fun B σ H hl ⟨F, sd, pv, pd, A, ok, R, e, h⟩ => e.nx sd σ H hl R h, wNext_mono⟩
theorem jss_cons {st : Stmt} {rest : List Stmt} {a b : WS} (ja : JS X P st a) (jb : JSs X P rest b) : JSs X P (st :: rest) (wSeq a b) := by
  refine ⟨(pss_cons ja.ps jb.pss).impL fun B σ H hl h => ?_, wSeq_mono ja.mono jb.mono⟩
  obtain ⟨F, sd, pv, pd, A, ok, R, e, h⟩ := h
  exact ⟨F, sd, pv, pd, { A with nx := fun sd1 => b A sd1 F.xp }, ok, R, ⟨fun sd1 σ1 H1 hl1 R1 q => ⟨F, sd1, pv, pd, A, ok, R1, e, q⟩, e.rt, e.bk, e.ct⟩, h⟩
theorem jss_one {st : Stmt} {a : WS} (ja : JS X P st a) : JSs X P [st] a := ⟨pss_one ja.ps, ja.mono⟩
theorem js_pass {pos : Pos} : JS X P (.Pass pos) wNext := ⟨ps_pass.impL fun B σ H hl ⟨F, sd, pv, pd, A, ok, R, e, h⟩ => e.nx sd σ H hl R h, wNext_mono⟩
def wBrk : WS := fun D sd _ => D.bk sd
def wCnt : WS := fun D sd _ => D.ct sd
theorem js_break {pos : Pos} : JS X P (.Break pos) wBrk := ⟨ps_break.impL fun B σ H hl ⟨F, sd, pv, pd, A, ok, R, e, h⟩ => e.bk sd σ H hl R h, fun D D' sd xp xp' hd hx h => hd.bk _ h⟩
theorem js_cont {pos : Pos} : JS X P (.Continue pos) wCnt := ⟨ps_continue.impL fun B σ H hl ⟨F, sd, pv, pd, A, ok, R, e, h⟩ => e.ct sd σ H hl R h, fun D D' sd xp xp' hd hx h => hd.ct _ h⟩
theorem js_doc {x : Str} {j : Nat} {pos pos' : Pos} : JS X P (.Expr (.Constant (.str x) j pos) pos') wNext := ⟨ps_doc.impL fun B σ H hl ⟨F, sd, pv, pd, A, ok, R, e, h⟩ => e.nx sd σ H hl R h, wNext_mono⟩
/-- return e -/
def wRet (w : WT) : WS := fun D sd xp => w sd xp D.rt
theorem wRet_mono {w : WT} (m : Mono w) : MonoS (wRet w) := fun D D' sd xp xp' hd hx h => m sd xp xp' _ _ hx hd.rt h
theorem js_ret {e : Expr} {w : WT} {pos : Pos} (j : JE X P e w) : JS X P (.Return (some e) pos) (wRet w) := by
  refine ⟨(ps_ret j.pe).impL fun B σ H hl h => ?_, wRet_mono j.mono⟩
  obtain ⟨F, sd, pv, pd, A, ok, R, e, h⟩ := h
  exact tl.go j ok R h fun r sd1 v H1 q rel => e.rt r sd1 σ v H1 rel q
def wRetN : WS := fun D sd _ => D.rt (.val .none) sd
theorem js_retN {pos : Pos} : JS X P (.Return none pos) wRetN :=
  ⟨ps_retN.impL fun B σ H hl ⟨F, sd, pv, pd, A, ok, R, e, h⟩ => e.rt _ sd σ _ H (show F.RR X.K σ H sd .non (.val .none) pv pd from push (X := X) R fun _ => .non) h, fun D D' sd xp xp' hd hx h => hd.rt _ _ h⟩
/-- a name given back: an object that it owns goes out as a new one -/
def wTake (pin : List Nat) (i : Nat) : WT := fun sd xp Q => if i ∈ pin then wVar i sd xp Q else match sd[i]? with
  | some (some (.ob o)) => Q (.fresh o) (sd.set i none)
  | _ => wVar i sd xp Q
theorem wTake_mono {pin : List Nat} {i : Nat} : Mono (wTake pin i) := by
  intro sd xp xp' Q Q' hx hq h
  unfold wTake at h ⊢
  by_cases hp : i ∈ pin
  · rw [if_pos hp] at h ⊢
    exact wVar_mono i sd xp xp' Q Q' hx hq h
  · rw [if_neg hp] at h ⊢
    split
    · rename_i e; rw [e] at h; exact hq _ _ h
    · rename_i e
      split at h
      · rename_i e2; exact absurd e2 (e _)
      · exact wVar_mono i sd xp xp' Q Q' hx hq h
theorem je_take {i : Nat} {x : Str} {pos : Pos} (hN : X.N[i]? = some x) (hv : Vis X.env.scope x) (hd : (x == ("__debug__" : Str)) = false) (hcd : (x == ("__classdict__" : Str)) = false) : JE X P (.Name x pos) (wTake P.pin i) := by
  refine ⟨(pe_var (pos := pos) hN hv hd hcd).or (je_var (X := X) (P := P) (pos := pos) hN hv hd hcd).pe fun σ H Q h => ?_, wTake_mono⟩
  obtain ⟨F, sd, pv, pd, ok, R, h⟩ := h
  unfold wTake at h
  by_cases hp : i ∈ P.pin
  · rw [if_pos hp] at h
    exact .inr ⟨F, sd, pv, pd, ok, R, h⟩
  · rw [if_neg hp] at h
    split at h
    · rename_i o e
      obtain ⟨a, ea, fr⟩ := RelP.take R e (pin_none (X := X) ok hp)
      exact .inl ⟨_, ea, h _ H fr⟩
    · exact .inr ⟨F, sd, pv, pd, ok, R, h⟩
/-- if -/
def wIfS (c : WC) (a b : WS) : WS := fun D sd xp => c sd xp fun k sd1 => if k = true then a D sd1 xp else b D sd1 xp
theorem wIfS_mono {c : WC} {a b : WS} (mc : MonoC c) (ma : MonoS a) (mb : MonoS b) : MonoS (wIfS c a b) := fun D D' sd xp xp' hd hx h => mc sd xp xp' _ _ hx (fun k s q => by
  cases k with
  | true => exact ma D D' s xp xp' hd hx q
  | false => exact mb D D' s xp xp' hd hx q) h
theorem js_if {c : Expr} {a b : List Stmt} {wc : WC} {wa wb : WS} {pos : Pos} (jc : JC X P c wc) (ja : JSs X P a wa) (jb : JSs X P b wb) : JS X P (.If c a b pos) (wIfS wc wa wb) := by
  refine ⟨(ps_if jc.pt ja.pss jb.pss).impL fun B σ H hl h => ?_, wIfS_mono jc.mono ja.mono jb.mono⟩
  obtain ⟨F, sd, pv, pd, A, ok, R, e, h⟩ := h
  refine tlc.go (e := c) jc.mono ok R h fun k sd1 H1 h1 R1 => ?_
  cases k with
  | true => exact ⟨F, sd1, pv, pd, A, ok, R1, e, h1⟩
  | false => exact ⟨F, sd1, pv, pd, A, ok, R1, e, h1⟩
/-- x = e -/
def Rv.sl : Rv → Sl
  | .val d => .dat d
  | .fresh o => .ob o
def wSet (pin : List Nat) (i : Nat) (w : WT) : WS := fun D sd xp => i ∉ pin ∧ w sd xp fun r sd1 => D.nx (sd1.set i (some r.sl))
theorem wSet_mono {pin : List Nat} {i : Nat} {w : WT} (m : Mono w) : MonoS (wSet pin i w) := fun D D' sd xp xp' hd hx h => ⟨h.1, m sd xp xp' _ _ hx (fun r s q => hd.nx _ q) h.2⟩
theorem set_go {F : Fm} {A : DE} {B : Ends} {σ : L2.St} {H : Hp} {sd : Sd} {pv : List V} {pd : List D} {i : Nat} {r : Rv} {v : V} (ok : F.Ok X.K P) (hp : i ∉ P.pin) (hi : i < σ.length) (hl : σ.length = X.N.length) (e : EndR X.K F X.N.length pv pd A B)
    (rel : F.RR X.K σ H sd v r pv pd) (q : A.nx (sd.set i (some r.sl))) : B.nx (σ.set i (some v)) H := by
  have hl2 : (σ.set i (some v)).length = X.N.length := by rw [List.length_set]; exact hl
  cases r with
  | val d => exact e.nx _ _ H hl2 (RelP.set rel hi (pin_none (X := X) ok hp)) q
  | fresh o => exact e.nx _ _ H hl2 (FrR.own rel hi (pin_none (X := X) ok hp)) q
theorem js_set {i : Nat} {x : Str} {e : Expr} {w : WT} {pos' pos : Pos} (hN : X.N.Nodup) (hi : X.N[i]? = some x) (hx : Loc X.env.scope x) (hf : X.fn x = true ∨ X.env.scope.names.lookup x = some .local) (j : JE X P e w) (hs : swapsWith e (some (.Name x pos')) pos.line X.env = pure false) :
    JS X P (.Assign [.Name x pos'] e pos) (wSet P.pin i w) := by
  refine ⟨(ps_set (pos' := pos') hN hi hx j.pe hs hf).impL fun B σ H hl h => ?_, wSet_mono j.mono⟩
  obtain ⟨F, sd, pv, pd, A, ok, R, en, hp, h⟩ := h
  have hi' : i < σ.length := by rw [hl]; exact (List.getElem?_eq_some_iff.mp hi).1
  exact tl.go j ok R h fun r sd1 v H1 q rel => set_go (X := X) ok hp hi' hl en rel q
/-- x = [.. for ..] -/
theorem js_setLc {i : Nat} {y : Str} {py : Pos} {elt tg iter : Expr} {ifs : List Expr} {scope : Scope} {own : List (Str × Nat)} {ts : List Nat} {pos spos : Pos} {it : WI} {wg : WG} {test : WC} {we : WT} (hc : X.calm = true) (hN : X.N.Nodup) (hy : X.N[i]? = some y) (hyl : X.env.scope.names.lookup y = some .local)
    (hsw : swapsWith (.ListComp elt [⟨tg, iter, ifs, 0⟩] scope pos) (some (.Name y py)) spos.line X.env = pure true) (hi : JI X P tg iter it) (ok : BlkOk X.N X.env.scope scope own)
    (hg : ∀ (s : Shared) (H : Hp) (C : Addr) (cl : List (Str × Addr)) (fp : List Addr), JG (X.blk s H scope (compEnvC scope cl C X.env) fp) (P0 P) tg ts wg) (ht : ∀ (s : Shared) (H : Hp) (C : Addr) (cl : List (Str × Addr)) (fp : List Addr), JT (X.blk s H scope (compEnvC scope cl C X.env) fp) (P0 P) ifs test)
    (he : ∀ (s : Shared) (H : Hp) (C : Addr) (cl : List (Str × Addr)) (fp : List Addr), JE (X.blk s H scope (compEnvC scope cl C X.env) fp) (P0 P) elt we) (hts : ∀ j ∈ ts, j ∈ own.map (·.2)) (hpin : ∀ j ∈ P.pin, j ∉ own.map (·.2))
    (hs : ∀ x, foldedSetIterable iter X.env x = pure x) : JS X P (.Assign [.Name y py] (.ListComp elt [⟨tg, iter, ifs, 0⟩] scope pos) spos) (wSet P.pin i (wLc it (own.map (·.2)) wg test we)) := by
  have mg := (hg X.s_0 X.H_0 0 [] []).mono
  have mc := (ht X.s_0 X.H_0 0 [] []).mono
  have me := (he X.s_0 X.H_0 0 [] []).mono
  refine ⟨(ps_setLc (te := tl X.K (P0 P) we) (g := tlg X.K (P0 P) X.N.length ts wg) (tt := tlc X.K (P0 P) test) hc hN hy hyl hsw hi.pi ok (fun s H C cl fp => (hg s H C cl fp).pg) (fun s H C cl fp => (ht s H C cl fp).pts) (fun s H C cl fp => (he s H C cl fp).pe) hs).impL fun B σ H hl h => ?_, wSet_mono (wLc_mono hi.mono mg mc me)⟩
  obtain ⟨F, sd, pv, pd, A, okF, R, en, hp, h⟩ := h
  have hi' : i < σ.length := by rw [hl]; exact (List.getElem?_eq_some_iff.mp hy).1
  refine lc_imp (K := X.K) mg mc me hi.mono hts hpin σ H _ hl ⟨F, sd, pv, pd, okF, R, wLc_mono hi.mono mg mc me sd F.xp F.xp _ _ (fun _ q => q) (fun r sd1 q v H1 rel => ?_) h⟩
  exact set_go (X := X) okF hp hi' hl en rel q
/-- tg = e, tg a tuple of names -/
def wAsg (w : WT) (g : WG) : WS := fun D sd xp => sub w sd xp fun d sd1 => g d sd1 D.nx
theorem wAsg_mono {w : WT} {g : WG} (m : Mono w) (mg : MonoG g) : MonoS (wAsg w g) := fun D D' sd xp xp' hd hx h => sub_mono m hx (fun d s q => mg d s _ _ hd.nx q) h
theorem js_asg {tg e : Expr} {ts : List Nat} {w : WT} {g : WG} {pos : Pos} (j : JE X P e w) (jg : JG X P tg ts g) (hs : swapsWithSole [tg] e pos.line X.env = pure false) (hw : swappedStores [tg] e X.env = pure none) (h1 : (assignEach [tg] X.env).map (·.2) = [assign tg X.env]) : JS X P (.Assign [tg] e pos) (wAsg w g) := by
  refine ⟨(ps_asg j.pe jg.pg hs hw h1).impL fun B σ H hl h => ?_, wAsg_mono j.mono jg.mono⟩
  obtain ⟨F, sd, pv, pd, A, ok, R, en, h⟩ := h
  refine tl.sub j ok R h fun d sd1 v H1 q R1 => ?_
  exact ⟨F, sd1, pv, pd, d, ok, hl, R1, jg.mono d sd1 _ _ (fun s q2 σ2 H2 hl2 _ R2 => en.nx s σ2 H2 hl2 R2 q2) q⟩
/-- a, b = e1, e2 -/
def wPar (pin : List Nat) (i j : Nat) (w : WA) : WS := fun D sd xp => i ∉ pin ∧ j ∉ pin ∧ w sd xp fun as sd1 => ∃ d e, as = [.dat d, .dat e] ∧ D.nx ((sd1.set i (some (.dat d))).set j (some (.dat e)))
theorem wPar_mono {pin : List Nat} {i j : Nat} {w : WA} (m : MonoA w) : MonoS (wPar pin i j w) := fun D D' sd xp xp' hd hx h => ⟨h.1, h.2.1, m sd xp xp' _ _ hx (fun as s ⟨d, e, e1, q⟩ => ⟨d, e, e1, hd.nx _ q⟩) h.2.2⟩
theorem js_par {i j : Nat} {x y : Str} {a b : Expr} {w : WA} {px py pt pos : Pos} {kt k2 : Nat} {pt2 : Pos} (hc : X.calm = true) (hN : X.N.Nodup) (hi : X.N[i]? = some x) (hj : X.N[j]? = some y) (hij : i ≠ j)
    (hx : X.env.scope.names.lookup x = some .local) (hy : X.env.scope.names.lookup y = some .local) (ja : JA X P [a, b] w)
    (hw : swappedStores [.Tuple [.Name x px, .Name y py] kt pt] (.Tuple [a, b] k2 pt2) X.env = pure (some [x, y]))
    (hs : swapsWithSole [.Tuple [.Name x px, .Name y py] kt pt] (.Tuple [a, b] k2 pt2) pos.line X.env = pure false) : JS X P (.Assign [.Tuple [.Name x px, .Name y py] kt pt] (.Tuple [a, b] k2 pt2) pos) (wPar P.pin i j w) := by
  refine ⟨(ps_par hc hN hi hj hij hx hy ja.pa hw hs).impL fun B σ H hl h => ?_, wPar_mono ja.mono⟩
  obtain ⟨F, sd, pv, pd, A, ok, R, en, hp1, hp2, h⟩ := h
  have hi' : i < σ.length := by rw [hl]; exact (List.getElem?_eq_some_iff.mp hi).1
  have hj' : j < σ.length := by rw [hl]; exact (List.getElem?_eq_some_iff.mp hj).1
  refine tla.go ja ok R h fun as sd1 vs ws ds H1 h1 al R1 => ?_
  obtain ⟨d, e, rfl, q⟩ := h1
  obtain ⟨v, u, rfl, R2⟩ := dat2 (X := X) al R1
  refine ⟨v, u, rfl, en.nx _ _ H1 (by rw [List.length_set, List.length_set]; exact hl) ?_ q⟩
  exact RelP.set (RelP.set R2 hi' (pin_none (X := X) ok hp1)) (by rw [List.length_set]; exact hj') (pin_none (X := X) ok hp2)
/-- a, b, c = e1, e2, e3 -/
def wPar3 (pin : List Nat) (i j l : Nat) (w : WA) : WS := fun D sd xp => i ∉ pin ∧ j ∉ pin ∧ l ∉ pin ∧ w sd xp fun as sd1 => ∃ d e f, as = [.dat d, .dat e, .dat f] ∧ D.nx (((sd1.set i (some (.dat d))).set j (some (.dat e))).set l (some (.dat f)))
theorem wPar3_mono {pin : List Nat} {i j l : Nat} {w : WA} (m : MonoA w) : MonoS (wPar3 pin i j l w) := fun D D' sd xp xp' hd hx h => ⟨h.1, h.2.1, h.2.2.1, m sd xp xp' _ _ hx (fun as s ⟨d, e, f, e1, q⟩ => ⟨d, e, f, e1, hd.nx _ q⟩) h.2.2.2⟩
theorem js_par3 {i j l : Nat} {x y z : Str} {a b c : Expr} {w : WA} {px py pz pt pos : Pos} {kt k2 : Nat} {pt2 : Pos} (hc : X.calm = true) (hN : X.N.Nodup) (hi : X.N[i]? = some x) (hj : X.N[j]? = some y) (hl : X.N[l]? = some z) (hij : i ≠ j) (hil : i ≠ l) (hjl : j ≠ l)
    (hx : X.env.scope.names.lookup x = some .local) (hy : X.env.scope.names.lookup y = some .local) (hz : X.env.scope.names.lookup z = some .local) (ja : JA X P [a, b, c] w)
    (hw : swappedStores [.Tuple [.Name x px, .Name y py, .Name z pz] kt pt] (.Tuple [a, b, c] k2 pt2) X.env = pure (some [x, y, z]))
    (hs : swapsWithSole [.Tuple [.Name x px, .Name y py, .Name z pz] kt pt] (.Tuple [a, b, c] k2 pt2) pos.line X.env = pure false) : JS X P (.Assign [.Tuple [.Name x px, .Name y py, .Name z pz] kt pt] (.Tuple [a, b, c] k2 pt2) pos) (wPar3 P.pin i j l w) := by
  refine ⟨(ps_par3 hc hN hi hj hl hij hil hjl hx hy hz ja.pa hw hs).impL fun B σ H hl2 h => ?_, wPar3_mono ja.mono⟩
  obtain ⟨F, sd, pv, pd, A, ok, R, en, hp1, hp2, hp3, h⟩ := h
  have hi' : i < σ.length := by rw [hl2]; exact (List.getElem?_eq_some_iff.mp hi).1
  have hj' : j < σ.length := by rw [hl2]; exact (List.getElem?_eq_some_iff.mp hj).1
  have hl' : l < σ.length := by rw [hl2]; exact (List.getElem?_eq_some_iff.mp hl).1
  refine tla.go ja ok R h fun as sd1 vs ws ds H1 h1 al R1 => ?_
  obtain ⟨d, e, f, rfl, q⟩ := h1
  obtain ⟨v, u, t, rfl, R2⟩ := dat3 (X := X) al R1
  refine ⟨v, u, t, rfl, en.nx _ _ H1 (by rw [List.length_set, List.length_set, List.length_set]; exact hl2) ?_ q⟩
  exact RelP.set (RelP.set (RelP.set R2 hi' (pin_none (X := X) ok hp1)) (by rw [List.length_set]; exact hj') (pin_none (X := X) ok hp2)) (by rw [List.length_set, List.length_set]; exact hl') (pin_none (X := X) ok hp3)
/-- x op= e, ints -/
def wAug (pin : List Nat) (i : Nat) (f : Int → Int → Int) (w : WT) : WS := fun D sd xp => i ∉ pin ∧ ∃ a, sd[i]? = some (some (.dat (.int a))) ∧ sub w sd xp fun d sd1 => ∃ b, d = .int b ∧ D.nx (sd1.set i (some (.dat (.int (f a b)))))
theorem wAug_mono {pin : List Nat} {i : Nat} {f : Int → Int → Int} {w : WT} (m : Mono w) : MonoS (wAug pin i f w) := fun D D' sd xp xp' hd hx ⟨h1, a, e, h⟩ => ⟨h1, a, e, sub_mono m hx (fun d s ⟨b, e2, q⟩ => ⟨b, e2, hd.nx _ q⟩) h⟩
theorem js_aug {i : Nat} {x : Str} {e : Expr} {w : WT} {op : Operator} {f : Int → Int → Int} {pos' pos : Pos} (hN : X.N.Nodup) (hi : X.N[i]? = some x) (hx : Loc X.env.scope x) (hf : X.fn x = true ∨ X.env.scope.names.lookup x = some .local) (j : JE X P e w) (ho : PIp X op (ipI f)) :
    JS X P (.AugAssign (.Name x pos') op e pos) (wAug P.pin i f w) := by
  refine ⟨(ps_aug (pos' := pos') hN hi hx j.pe ho hf).impL fun B σ H hl h => ?_, wAug_mono j.mono⟩
  obtain ⟨F, sd, pv, pd, A, ok, R, en, hp, a, ea, h⟩ := h
  have hi' : i < σ.length := by rw [hl]; exact (List.getElem?_eq_some_iff.mp hi).1
  obtain ⟨v, ev, R1⟩ := RelP.read R ea
  refine ⟨v, ev, tl.sub j ok R h fun d sd1 u H1 h1 R2 => ?_⟩
  obtain ⟨b, rfl, q⟩ := h1
  obtain ⟨r, R3⟩ := one (X := X) R2
  refine ⟨a, b, rep_int (one (X := X) R1).1, rep_int r, en.nx _ _ H1 (by rw [List.length_set]; exact hl) ?_ q⟩
  exact RelP.set (push (X := X) R3 fun _ => .int _) hi' (pin_none (X := X) ok hp)
/-- e dropped -/
def wDrop (w : WT) : WS := fun D sd xp => w sd xp fun _ sd1 => D.nx sd1
theorem wDrop_mono {w : WT} (m : Mono w) : MonoS (wDrop w) := fun D D' sd xp xp' hd hx h => m sd xp xp' _ _ hx (fun _ s q => hd.nx s q) h
theorem dropRR {K : PySem.W.Frag} {F : Fm} {σ : L2.St} {H : Hp} {sd : Sd} {v : V} {r : Rv} {pv : List V} {pd : List D} (h : F.RR K σ H sd v r pv pd) : F.R K σ H sd pv pd := by
  cases r with
  | val d => exact RelP.drop h
  | fresh o =>
    obtain ⟨p, ho, ws, es, _, hpF, hm, hl, hob, ow, W⟩ := h
    have nop : ∀ i a, ow i = some a → a ≠ p := fun i a z e => by
      have := (W.out i a z).1
      rw [e, upd_same] at this
      cases this
    have eh : Same (hid (Hd (fun a => F.M0 a ∨ a = p) ow) H) (hid (Hd F.M0 ow) H) := hid_same (fun b u _ z => by
      rcases z with z | z
      · exact .inl (.inl z)
      · exact .inr z) fun _ _ _ _ q => q
    refine ⟨ow, fr_drop W.fr hpF, hm, W.inj, fun i a z => ?_, W.pin, fun i s q => (W.sl i s q).mono eh fun _ _ _ _ q => q, reps_mono eh (Reps.split hl W.pend).2⟩
    have := W.out i a z
    rw [upd_ne (nop i a z)] at this
    exact this
theorem js_expr {e : Expr} {w : WT} {pos : Pos} (j : JE X P e w) (hs : swapsWith e none pos.line X.env = pure false) : JS X P (.Expr e pos) (wDrop w) := by
  refine ⟨(ps_expr j.pe hs).impL fun B σ H hl h => ?_, wDrop_mono j.mono⟩
  obtain ⟨F, sd, pv, pd, A, ok, R, en, h⟩ := h
  exact tl.go j ok R h fun r sd1 v H1 q rel => en.nx sd1 σ H1 hl (dropRR rel) q
/-- x.append(e), x owning its list -/
def wApp (i : Nat) (w : WT) : WT := fun sd xp Q => (∃ xs0, sd[i]? = some (some (.ob (.L xs0)))) ∧ sub w sd xp fun d sd1 => ∃ xs, sd1[i]? = some (some (.ob (.L xs))) ∧ xs.length < sizeLine ∧ Q (.val .none) (sd1.set i (some (.ob (.L (xs ++ [d])))))
theorem wApp_mono {i : Nat} {w : WT} (m : Mono w) : Mono (wApp i w) := fun sd xp xp' Q Q' hx hq ⟨h1, h⟩ => ⟨h1, sub_mono m hx (fun d s ⟨xs, e, l, q⟩ => ⟨xs, e, l, hq _ _ q⟩) h⟩
theorem je_app {i : Nat} {x : Str} {e : Expr} {w : WT} {p apos pos : Pos} (hN : X.N[i]? = some x) (hv : Vis X.env.scope x) (hd : (x == ("__debug__" : Str)) = false) (hcd : (x == ("__classdict__" : Str)) = false) (j : JE X P e w)
    (hline : (apos.endLine == pos.line) = true) (hs : starEach [e] X.env = (false, eval e X.env) :: starEach [] X.env) : JE X P (.Call (.Attribute (.Name x p) "append" apos) [e] [] pos) (wApp i w) := by
  refine ⟨(pe_bm PySem.F.plainAttrs_list PySem.F.slot_list_append PySem.F.type_list_append mt_append (pe_var (pos := p) hN hv hd hcd) (pa_cons j.pe pa_nil hs) rfl (by rw [hs]; rfl) hline hs rfl).imp fun σ H Q h => ?_, wApp_mono j.mono⟩
  obtain ⟨F, sd, pv, pd, ok, R, ⟨o, ho⟩, h⟩ := h
  obtain ⟨a, us0, e1, e2, _, _⟩ := RelP.peekL R ho
  refine ⟨.ref a, e1, .inl ⟨rfl, us0, SqL.of e2⟩, ?_⟩
  · refine tl.sub j ok R h fun d sd1 v H1 h1 R1 => ?_
    obtain ⟨xs, e5, hz, q⟩ := h1
    obtain ⟨a', us, f1, f2, hl, R2⟩ := RelP.peekL R1 e5
    rw [e1] at f1
    have : a = a' := by injection f1 with f1; injection f1 with f1; injection f1
    subst this
    refine ⟨a, us, v, rfl, rfl, f2, by omega, q .non _ (push (X := X) (RelP.mut (ws := us ++ [v]) (es := xs ++ [d]) (RelP.pend R2 fun Hh r => ?_) (by simp [hl]) e5 e1 fun Hh r => r) fun _ => .non)⟩
    obtain ⟨r1, r2⟩ := Reps.split hl r
    cases r2 with | cons r0 r3 => exact (r1.app (.cons r0 .nil)).app r3
end
end Ev

/-! EvI: loops, stores into lists and dicts, a def's promise. -/
namespace Ev
open PySem PySem.Spec PyProof.Rows L2
def forGo (g : WG) (b : WS) (A : DE) (xp : Ex → Prop) : List D → Sd → Prop
  | [], sd => A.nx sd
  | x :: xs, sd => g x sd fun sd1 => b { A with nx := fun s => forGo g b A xp xs s, ct := fun s => forGo g b A xp xs s, bk := A.nx } sd1 xp
theorem forGo_mono {g : WG} {b : WS} (mg : MonoG g) (mb : MonoS b) {A A' : DE} {xp xp' : Ex → Prop} (hd : A.le A') (hx : ∀ e, xp e → xp' e) : ∀ (xs : List D) (sd : Sd), forGo g b A xp xs sd → forGo g b A' xp' xs sd
  | [], sd, h => hd.nx sd h
  | x :: xs, sd, h => mg x sd _ _ (fun s q => mb { A with nx := fun s => forGo g b A xp xs s, ct := fun s => forGo g b A xp xs s, bk := A.nx } { A' with nx := fun s => forGo g b A' xp' xs s, ct := fun s => forGo g b A' xp' xs s, bk := A'.nx } s xp xp'
      ⟨fun s q => forGo_mono mg mb hd hx xs s q, hd.rt, hd.nx, fun s q => forGo_mono mg mb hd hx xs s q⟩ hx q) h
def wFor (it : WI) (g : WG) (b : WS) : WS := fun A sd xp => it sd xp fun items sd1 => forGo g b A xp items sd1
theorem wFor_mono {it : WI} {g : WG} {b : WS} (mi : MonoI it) (mg : MonoG g) (mb : MonoS b) : MonoS (wFor it g b) := fun A A' sd xp xp' hd hx h => mi sd xp xp' _ _ hx (fun items s q => forGo_mono mg mb hd hx items s q) h
def whileN (c : WC) (b : WS) (A : DE) (xp : Ex → Prop) : Nat → Sd → Prop
  | 0, _ => False
  | n + 1, sd => c sd xp fun k sd1 => if k = true then b { A with nx := fun s => whileN c b A xp n s, ct := fun s => whileN c b A xp n s, bk := A.nx } sd1 xp else A.nx sd1
theorem whileN_mono {c : WC} {b : WS} (mc : MonoC c) (mb : MonoS b) {A A' : DE} {xp xp' : Ex → Prop} (hd : A.le A') (hx : ∀ e, xp e → xp' e) : ∀ (n : Nat) (sd : Sd), whileN c b A xp n sd → whileN c b A' xp' n sd := by
  intro n
  induction n with
  | zero => exact fun sd h => h
  | succ n ih =>
    intro sd h
    refine mc sd xp xp' _ _ hx (fun k s q => ?_) h
    cases k with
    | false => exact hd.nx s q
    | true => exact mb { A with nx := fun s => whileN c b A xp n s, ct := fun s => whileN c b A xp n s, bk := A.nx } { A' with nx := fun s => whileN c b A' xp' n s, ct := fun s => whileN c b A' xp' n s, bk := A'.nx } s xp xp' ⟨ih, hd.rt, hd.nx, ih⟩ hx q
def wWhile (c : WC) (b : WS) : WS := fun A sd xp => ∃ n, whileN c b A xp n sd
theorem wWhile_mono {c : WC} {b : WS} (mc : MonoC c) (mb : MonoS b) : MonoS (wWhile c b) := fun A A' sd xp xp' hd hx ⟨n, h⟩ => ⟨n, whileN_mono mc mb hd hx n sd h⟩
theorem dropZ {K : PySem.W.Frag} {F : Fm} {σ : L2.St} {H : Hp} {sd : Sd} {v : V} {r : Rv} {zv pv : List V} {zd pd : List D} (hz : zv.length = zd.length) (h : F.RR K σ H sd v r (zv ++ pv) (zd ++ pd)) : F.RR K σ H sd v r pv pd := by
  cases r with
  | val d =>
    refine RelP.pend h fun Hh r => ?_
    cases r with
    | cons a b => exact .cons a (Reps.split hz b).2
  | fresh o => exact FrR.pend h fun Hh r => (Reps.split hz r).2
section
variable {X : Cx} {P : Par}
theorem js_for {tg iter : Expr} {body : List Stmt} {ts : List Nat} {it : WI} {g : WG} {b : WS} {pos : Pos} (hp : PassesOwn (model X.prog X.w) X.A X.env X.xe) (hc : X.calm = true) (ji : JI X P tg iter it) (jg : JG X P tg ts g) (jb : JSs X P body b)
    (hs : ∀ x, foldedSetIterable iter X.env x = pure x) : JS X P (.For tg iter body [] pos) (wFor it g b) := by
  refine ⟨(ps_for hp hc ji.pi jg.pg jb.pss hs).impL fun B σ H hl h => ?_, wFor_mono ji.mono jg.mono jb.mono⟩
  obtain ⟨F, sd, pv, pd, A, ok, R, en, h⟩ := h
  refine ⟨F, sd, pv, pd, ok, R, ji.mono sd F.xp F.xp _ _ (fun _ q => q) (fun items sd1 h1 J H1 zv zd hz R1 hw => ?_) h⟩
  refine ⟨fun i m σ H => ∃ sdi, m = items.length - i ∧ i ≤ items.length ∧ σ.length = X.N.length ∧ F.R X.K σ H sdi (zv ++ pv) (zd ++ pd) ∧ forGo g b A F.xp (items.drop i) sdi, ⟨items.length, sd1, by simp, Nat.zero_le _, hl, R1, by simpa using h1⟩, ?_⟩
  rintro i m σ2 H2 ⟨sdi, rfl, hi, hl2, R2, hgo⟩
  by_cases hlt : i < items.length
  · right
    have hd : items.drop i = items[i] :: items.drop (i + 1) := List.drop_eq_getElem_cons hlt
    rw [hd] at hgo
    obtain ⟨hgo1, hy⟩ := (hw F σ2 H2 sdi pv pd i R2).1 items[i] (List.getElem?_eq_getElem hlt)
    refine ⟨hgo1, fun σ' H' => ∃ sdj, σ'.length = X.N.length ∧ F.R X.K σ' H' sdj (zv ++ pv) (zd ++ pd) ∧ forGo g b A F.xp (items.drop (i + 1)) sdj, fun σ' H' ⟨sdj, a1, a2, a3⟩ => ⟨items.length - (i + 1), by omega, sdj, rfl, hlt, a1, a2, a3⟩, fun x H3 hx => ?_⟩
    refine ⟨F, sdi, zv ++ pv, zd ++ pd, items[i], ok, hl2, hy x H3 hx, jg.mono _ _ _ _ (fun sd2 h2 σ4 H4 hl4 _ R4 => ?_) hgo⟩
    refine ⟨F, sd2, zv ++ pv, zd ++ pd, { A with nx := fun s => forGo g b A F.xp (items.drop (i + 1)) s, ct := fun s => forGo g b A F.xp (items.drop (i + 1)) s, bk := A.nx }, ok, R4, ?_, h2⟩
    exact ⟨fun sd5 σ5 H5 hl5 R5 q => ⟨sd5, hl5, R5, q⟩, fun r sd5 σ5 v H5 R5 q => en.rt r sd5 σ5 v H5 (dropZ hz R5) q,
      fun sd5 σ5 H5 hl5 R5 q => en.nx sd5 σ5 H5 hl5 (RelP.pend R5 fun Hh r => (Reps.split hz r).2) q, fun sd5 σ5 H5 hl5 R5 q => ⟨sd5, hl5, R5, q⟩⟩
  · left
    have e : i = items.length := by omega
    subst e
    refine ⟨(hw F σ2 H2 sdi pv pd items.length R2).2 (Nat.le_refl _), ?_⟩
    rw [List.drop_length] at hgo
    exact en.nx sdi σ2 H2 hl2 (RelP.pend R2 fun Hh r => (Reps.split hz r).2) hgo
theorem js_while {c : Expr} {body : List Stmt} {wc : WC} {b : WS} {pos : Pos} (hp : PassesOwn (model X.prog X.w) X.A X.env X.xe) (jc : JC X P c wc) (jb : JSs X P body b) : JS X P (.While c body [] pos) (wWhile wc b) := by
  refine ⟨(ps_while hp jc.pt jb.pss).impL fun B σ H hl h => ?_, wWhile_mono jc.mono jb.mono⟩
  obtain ⟨F, sd, pv, pd, A, ok, R, en, n, h⟩ := h
  refine ⟨fun m σ H => ∃ sdi, σ.length = X.N.length ∧ F.R X.K σ H sdi pv pd ∧ whileN wc b A F.xp m sdi, ⟨n, sd, hl, R, h⟩, ?_⟩
  rintro m σ2 H2 ⟨sdi, hl2, R2, h2⟩
  cases m with
  | zero => exact False.elim h2
  | succ m =>
    refine tlc.go (e := c) jc.mono ok R2 h2 fun k sd3 H3 h3 R3 => ?_
    cases k with
    | false => exact en.nx sd3 σ2 H3 hl2 R3 h3
    | true =>
      refine ⟨fun σ' H' => ∃ sdj, σ'.length = X.N.length ∧ F.R X.K σ' H' sdj pv pd ∧ whileN wc b A F.xp m sdj, fun σ' H' q => ⟨m, Nat.lt_succ_self m, q⟩, F, sd3, pv, pd, { A with nx := fun s => whileN wc b A F.xp m s, ct := fun s => whileN wc b A F.xp m s, bk := A.nx }, ok, R3, ?_, h3⟩
      exact ⟨fun sd5 σ5 H5 hl5 R5 q => ⟨sd5, hl5, R5, q⟩, en.rt, en.nx, fun sd5 σ5 H5 hl5 R5 q => ⟨sd5, hl5, R5, q⟩⟩

/-! ### tables -/
section
variable {κ α : Type} [DecidableEq κ]
def valG (kvs : List (κ × α)) (k : κ) : Option α := (kvs.find? fun kv => decide (kv.1 = k)).map (·.2)
def putG (kvs : List (κ × α)) (k : κ) (v : α) : List (κ × α) := if (kvs.any fun kv => decide (kv.1 = k)) = true then kvs.map (fun kv => if kv.1 = k then (kv.1, v) else kv) else kvs ++ [(k, v)]
end
section
variable {κ : Type} [DecidableEq κ] {K : PySem.W.Frag} {Hh : Hp}
theorem tab_val : ∀ {kvs : List (κ × V)} {kds : List (κ × D)} (k : κ), kvs.map (·.1) = kds.map (·.1) → Reps K Hh (kvs.map (·.2)) (kds.map (·.2)) →
    (valV kvs k = none ∧ valG kds k = none) ∨ ∃ v d, valV kvs k = some v ∧ valG kds k = some d ∧ Rep K Hh v d
  | [], [], k, _, _ => .inl ⟨rfl, rfl⟩
  | (a, v) :: kvs, (b, d) :: kds, k, e, r => by
    have e1 : a = b := by simpa using (List.cons.inj e).1
    subst e1
    have e2 : kvs.map (·.1) = kds.map (·.1) := (List.cons.inj e).2
    cases r with
    | cons r1 r2 =>
      by_cases h : a = k
      · refine .inr ⟨v, d, ?_, ?_, r1⟩
        · unfold valV; rw [List.find?_cons_of_pos (by simpa using h)]; rfl
        · unfold valG; rw [List.find?_cons_of_pos (by simpa using h)]; rfl
      · have ev : valV ((a, v) :: kvs) k = valV kvs k := by unfold valV; rw [List.find?_cons_of_neg (by simpa using h)]
        have ed : valG ((a, d) :: kds) k = valG kds k := by unfold valG; rw [List.find?_cons_of_neg (by simpa using h)]
        rw [ev, ed]
        exact tab_val k e2 r2
  | [], _ :: _, _, e, _ => by simp at e
  | _ :: _, [], _, e, _ => by simp at e
theorem tab_any : ∀ {kvs : List (κ × V)} {kds : List (κ × D)} (k : κ), kvs.map (·.1) = kds.map (·.1) → (kvs.any fun kv => decide (kv.1 = k)) = kds.any fun kv => decide (kv.1 = k)
  | [], [], _, _ => rfl
  | (a, v) :: kvs, (b, d) :: kds, k, e => by
    have e1 : a = b := by simpa using (List.cons.inj e).1
    subst e1
    rw [List.any_cons, List.any_cons, tab_any k (List.cons.inj e).2]
  | [], _ :: _, _, e => by simp at e
  | _ :: _, [], _, e => by simp at e
theorem tab_map {v : V} {d : D} (rv : Rep K Hh v d) (k : κ) : ∀ {kvs : List (κ × V)} {kds : List (κ × D)}, kvs.map (·.1) = kds.map (·.1) → Reps K Hh (kvs.map (·.2)) (kds.map (·.2)) →
    ((kvs.map fun kv => if kv.1 = k then (kv.1, v) else kv).map (·.1) = (kds.map fun kv => if kv.1 = k then (kv.1, d) else kv).map (·.1)) ∧ Reps K Hh ((kvs.map fun kv => if kv.1 = k then (kv.1, v) else kv).map (·.2)) ((kds.map fun kv => if kv.1 = k then (kv.1, d) else kv).map (·.2))
  | [], [], _, _ => ⟨rfl, .nil⟩
  | (a, x) :: kvs, (b, y) :: kds, e, r => by
    have e1 : a = b := by simpa using (List.cons.inj e).1
    subst e1
    cases r with
    | cons r1 r2 =>
      obtain ⟨i1, i2⟩ := tab_map rv k (List.cons.inj e).2 r2
      by_cases h : a = k
      · simp only [List.map_cons, if_pos h]
        exact ⟨by rw [i1], .cons rv i2⟩
      · simp only [List.map_cons, if_neg h]
        exact ⟨by rw [i1], .cons r1 i2⟩
  | [], _ :: _, e, _ => by simp at e
  | _ :: _, [], e, _ => by simp at e
theorem tab_put {v : V} {d : D} {kvs : List (κ × V)} {kds : List (κ × D)} (k : κ) (e : kvs.map (·.1) = kds.map (·.1)) (r : Reps K Hh (kvs.map (·.2)) (kds.map (·.2))) (rv : Rep K Hh v d) :
    (putK kvs k v).map (·.1) = (putG kds k d).map (·.1) ∧ Reps K Hh ((putK kvs k v).map (·.2)) ((putG kds k d).map (·.2)) := by
  unfold putK putG
  rw [tab_any k e]
  by_cases h : (kds.any fun kv => decide (kv.1 = k)) = true
  · rw [if_pos h, if_pos h]
    exact tab_map rv k e r
  · rw [if_neg h, if_neg h, List.map_append, List.map_append, List.map_append, List.map_append, e]
    exact ⟨rfl, r.app (.cons rv .nil)⟩
end
def keyD : Key → D
  | .inl i => .int i
  | .inr x => .str x
theorem rep_key {K : PySem.W.Frag} {Hh : Hp} {v : V} {k : Key} (r : Rep K Hh v (keyD k)) : v = kV k := by
  cases k with
  | inl i => exact rep_int r
  | inr x => exact rep_str r
theorem reps_key {K : PySem.W.Frag} {Hh : Hp} : ∀ {vs : List V} {ks : List Key}, Reps K Hh vs (ks.map keyD) → vs = ks.map kV
  | _, [], .nil => rfl
  | _, k :: ks, .cons r rs => by rw [rep_key r, reps_key rs]; rfl
def tkD (k : List Key) : D := .tuple (k.map keyD)
theorem len_map {α β γ : Type} {xs : List (α × β)} {ys : List (α × γ)} (e : xs.map (·.1) = ys.map (·.1)) : xs.length = ys.length := by have := congrArg List.length e; simpa using this

/-! ### x[i] = e -/
def wPut (i : Nat) (we wi : WT) : WS := fun D sd xp => sub we sd xp fun d sd1 => (∃ o, sd1[i]? = some (some (.ob o))) ∧ sub wi sd1 xp fun k sd2 => match sd2[i]? with
  | some (some (.ob (.L xs))) => ∃ j n, k = .int j ∧ ixN xs.length j = some n ∧ D.nx (sd2.set i (some (.ob (.L (xs.set n d)))))
  | some (some (.ob (.K kds))) => ∃ key, k = keyD key ∧ kds.length < sizeLine ∧ D.nx (sd2.set i (some (.ob (.K (putG kds key d)))))
  | some (some (.ob (.T kds))) => ∃ key, k = tkD key ∧ kds.length < sizeLine ∧ D.nx (sd2.set i (some (.ob (.T (putG kds key d)))))
  | _ => False
theorem wPut_mono {i : Nat} {we wi : WT} (me : Mono we) (mi : Mono wi) : MonoS (wPut i we wi) := fun D D' sd xp xp' hd hx h => sub_mono me hx (fun d s ⟨h0, h1⟩ => ⟨h0, sub_mono mi hx (fun k s2 h2 => by
  split at h2
  · obtain ⟨j, n, e1, e2, q⟩ := h2; exact ⟨j, n, e1, e2, hd.nx _ q⟩
  · obtain ⟨j, e1, e2, q⟩ := h2; exact ⟨j, e1, e2, hd.nx _ q⟩
  · obtain ⟨j, e1, e2, q⟩ := h2; exact ⟨j, e1, e2, hd.nx _ q⟩
  · exact h2) h1⟩) h
/-- o[i] = v by values: a list, a dict -/
def rSetD : V → V → V → Hp → (Hp → Prop) → Prop := fun o i v H Q => rSetL o i v H Q ∨ ∃ a H4, o = .ref a ∧ DPut H a i v H4 ∧ Q H4
theorem set_D (hu : X.A.units + 1 < cLine) : PSet X rSetD := by
  intro pins s σ H o i v ov iv u Q I r1 r2 r3 h
  rcases h with h | ⟨a, H4, rfl, g, q⟩
  · exact set_list pins s σ H o i v ov iv u Q I r1 r2 r3 h
  · obtain rfl : ov = Value.ref a := r1
    exact d_setItem hu I g r2 r3 fun s4 I4 => ⟨H4, I4, q⟩
/-- a store, from the value on -/
theorem put_go {F : Fm} {A : DE} {B : Ends} {σ : L2.St} {H : Hp} {sd : Sd} {pv : List V} {pd : List D} {i : Nat} {v iv : V} {d k : D} {a : Addr} (hl : σ.length = X.N.length) (en : EndR X.K F X.N.length pv pd A B) (ha : σ[i]? = some (some (.ref a)))
    (R : F.R X.K σ H sd (iv :: v :: pv) (k :: d :: pd)) (h : match sd[i]? with
      | some (some (.ob (.L xs))) => ∃ j n, k = .int j ∧ ixN xs.length j = some n ∧ A.nx (sd.set i (some (.ob (.L (xs.set n d)))))
      | some (some (.ob (.K kds))) => ∃ key, k = keyD key ∧ kds.length < sizeLine ∧ A.nx (sd.set i (some (.ob (.K (putG kds key d)))))
      | some (some (.ob (.T kds))) => ∃ key, k = tkD key ∧ kds.length < sizeLine ∧ A.nx (sd.set i (some (.ob (.T (putG kds key d)))))
      | _ => False) : rSetD (.ref a) iv v H fun H3 => B.nx σ H3 := by
  split at h
  · rename_i xs e
    obtain ⟨j, n, rfl, hn, q⟩ := h
    obtain ⟨a', us, f1, f2, hul, R2⟩ := RelP.peekL R e
    rw [ha] at f1
    have : a = a' := by injection f1 with f1; injection f1 with f1; injection f1
    subst this
    refine .inl ⟨a, us, j, n, rfl, rep_int (one (X := X) R).1, f2, by rw [hul]; exact hn, en.nx _ _ _ hl ?_ q⟩
    refine RelP.mut (ws := us.set n v) (es := xs.set n d) (RelP.pend R2 fun Hh r => ?_) (by simp [hul]) e ha fun Hh r => r
    obtain ⟨r1, r2⟩ := Reps.split hul r
    cases r2 with | cons _ r3 => cases r3 with | cons r4 r5 => exact (r1.set n r4).app r5
  · rename_i kds e
    obtain ⟨key, rfl, hn, q⟩ := h
    obtain ⟨a', kvs, f1, f2, f3, R2⟩ := RelP.peekK R e
    rw [ha] at f1
    have : a = a' := by injection f1 with f1; injection f1 with f1; injection f1
    subst this
    have ll := len_map f3
    have sl : (kvs.map (·.2)).length = (kds.map (·.2)).length := by simp [ll]
    refine .inr ⟨a, _, rfl, .inl ⟨kvs, key, f2, rep_key (one (X := X) R).1, by omega, rfl⟩, en.nx _ _ _ hl ?_ q⟩
    refine RelP.mut (ws := (putK kvs key v).map (·.2)) (es := (putG kds key d).map (·.2)) (RelP.pend R2 fun Hh r => ?_) ?_ e ha fun Hh r => ⟨?_, r⟩
    · obtain ⟨r1, r2⟩ := Reps.split sl r
      cases r2 with | cons _ r3 => cases r3 with | cons r4 r5 => exact (tab_put key f3 r1 r4).2.app r5
    · obtain ⟨r1, r2⟩ := Reps.split sl R2.at
      cases r2 with | cons _ r3 => cases r3 with | cons r4 r5 => exact (tab_put key f3 r1 r4).2.len
    · obtain ⟨r1, r2⟩ := Reps.split sl R2.at
      cases r2 with | cons _ r3 => cases r3 with | cons r4 r5 => exact (tab_put key f3 r1 r4).1
  · rename_i kds e
    obtain ⟨key, rfl, hn, q⟩ := h
    obtain ⟨a', kvs, f1, f2, f3, R2⟩ := RelP.peekT R e
    rw [ha] at f1
    have : a = a' := by injection f1 with f1; injection f1 with f1; injection f1
    subst this
    have ll := len_map f3
    have sl : (kvs.map (·.2)).length = (kds.map (·.2)).length := by simp [ll]
    obtain ⟨b, us, rfl, hb, rk⟩ := rep_tup (one (X := X) R).1
    have eu := reps_key rk
    subst eu
    refine .inr ⟨a, _, rfl, .inr ⟨kvs, key, b, f2, rfl, hb, by omega, rfl⟩, en.nx _ _ _ hl ?_ q⟩
    refine RelP.mut (ws := (putK kvs key v).map (·.2)) (es := (putG kds key d).map (·.2)) (RelP.pend R2 fun Hh r => ?_) ?_ e ha fun Hh r => ⟨?_, r⟩
    · obtain ⟨r1, r2⟩ := Reps.split sl r
      cases r2 with | cons _ r3 => cases r3 with | cons r4 r5 => exact (tab_put key f3 r1 r4).2.app r5
    · obtain ⟨r1, r2⟩ := Reps.split sl R2.at
      cases r2 with | cons _ r3 => cases r3 with | cons r4 r5 => exact (tab_put key f3 r1 r4).2.len
    · obtain ⟨r1, r2⟩ := Reps.split sl R2.at
      cases r2 with | cons _ r3 => cases r3 with | cons r4 r5 => exact (tab_put key f3 r1 r4).1
  · exact h.elim
theorem js_put {i : Nat} {x : Str} {e k : Expr} {we wi : WT} {p pos' pos : Pos} (hu : X.A.units + 1 < cLine) (hN : X.N[i]? = some x) (hv : Vis X.env.scope x) (hd : (x == ("__debug__" : Str)) = false) (hcd : (x == ("__classdict__" : Str)) = false) (je : JE X P e we) (jk : JE X P k wi)
    (hs : swapsWithSole [.Subscript (.Name x p) k pos'] e pos.line X.env = pure false) (hw : swappedStores [.Subscript (.Name x p) k pos'] e X.env = pure none) (h1 : (assignEach [.Subscript (.Name x p) k pos'] X.env).map (·.2) = [assign (.Subscript (.Name x p) k pos') X.env])
    (ha : ∀ v, assign (.Subscript (.Name x p) k pos') X.env v = (do
      let ov ← holding [v] (eval (.Name x p) X.env)
      let iv ← holding [v, ov] (eval k X.env)
      standAt pos'
      holding [v, ov, iv] (setItem ov iv v)
      release [v, ov, iv] [])) : JS X P (.Assign [.Subscript (.Name x p) k pos'] e pos) (wPut i we wi) := by
  refine ⟨(ps_asg je.pe (pg_sub (pe_var (pos := p) hN hv hd hcd) jk.pe (set_D hu) ha) hs hw h1).impL fun B σ H hl h => ?_, wPut_mono je.mono jk.mono⟩
  obtain ⟨F, sd, pv, pd, A, ok, R, en, h⟩ := h
  refine tl.sub je ok R h fun d sd1 v H1 h1 R1 => ?_
  obtain ⟨⟨o, eo⟩, h1⟩ := h1
  have here : ∃ a, σ[i]? = some (some (.ref a)) := by
    obtain ⟨ow, W⟩ := R1
    obtain ⟨a, ho, e1, _⟩ := W.sl i _ eo
    exact ⟨a, e1⟩
  obtain ⟨a, ea⟩ := here
  refine ⟨.ref a, ea, ?_⟩
  exact tl.sub jk ok R1 h1 fun kd sd2 iv H2 h2 R2 => put_go (X := X) hl en ea R2 h2
/-! ### x[i] op= e -/
/-- o[i] by values: a list, a dict -/
def rGetD (K : PySem.W.Frag) : V → V → Hp → VK → Prop := fun o i H Q => rIxL K o i H Q ∨ ∃ a v, o = .ref a ∧ DGet H a i (some v) ∧ Q v H
theorem get_D (hu : X.A.units + 1 < cLine) : PGet X (rGetD X.K) := by
  intro pins s σ H o i ov iv Q I r1 r2 h
  rcases h with ⟨p, xs, k, z, rfl, rfl, hq, he, q⟩ | ⟨a, v, rfl, g, q⟩
  · obtain rfl : ov = Value.ref p := r1
    obtain ⟨t, rfl⟩ := r2
    obtain ⟨its, r, pl, hz⟩ := I.list hq
    obtain ⟨j, h1, h2, h3, h4, h5⟩ := atI_get he
    obtain ⟨w, ew, rw'⟩ := r.get h2
    have hl := r.length
    have hn := line63
    have fin : EP X pins σ Q w s := ⟨z, H, I, rw', q⟩
    by_cases h0 : 0 ≤ k
    · have hj : k.toNat = j := by
        have e := seqIndex_of h0 h5
        rw [h1] at e
        exact (Option.some.inj e).symm
      exact wpAny_getItem_list pl.isList h0 (by omega) (by rw [hj]; simpa using ew) fin
    · have hj : (k + (its.toArray.size : Int)).toNat = j := by
        have e := seqIndex_neg (by omega : k < 0) h4
        rw [h1] at e
        rw [List.size_toArray, ← hl]
        exact (Option.some.inj e).symm
      exact wpAny_getItem_list_neg pl.isList (by omega) (by rw [List.size_toArray]; omega) (by omega) (by rw [hj]; simpa using ew) fin
  · obtain rfl : ov = Value.ref a := r1
    exact d_getItem hu I g r2 fun w s1 I1 rv => ⟨v, H, I1, rv, q⟩
/-- x[i] op= e, ints; x's list, a list of ints at i -/
def wAugS (i : Nat) (f : Int → Int → Int) (wi we : WT) : WS := fun A sd xp => (∃ xs, sd[i]? = some (some (.ob (.L xs)))) ∧ sub wi sd xp fun k sd1 => ∃ xs j n a, sd1[i]? = some (some (.ob (.L xs))) ∧ k = .int j ∧ ixN xs.length j = some n ∧ xs[n]? = some (.int a) ∧
  sub we sd1 xp fun d sd2 => ∃ ys b, sd2[i]? = some (some (.ob (.L ys))) ∧ d = .int b ∧ ys.length = xs.length ∧ A.nx (sd2.set i (some (.ob (.L (ys.set n (.int (f a b)))))))
theorem wAugS_mono {i : Nat} {f : Int → Int → Int} {wi we : WT} (mi : Mono wi) (me : Mono we) : MonoS (wAugS i f wi we) := fun A A' sd xp xp' hd hx ⟨h0, h⟩ => ⟨h0, sub_mono mi hx (fun k s ⟨xs, j, n, a, e1, e2, e3, e4, q⟩ =>
  ⟨xs, j, n, a, e1, e2, e3, e4, sub_mono me hx (fun d s2 ⟨ys, b, g1, g2, g3, q2⟩ => ⟨ys, b, g1, g2, g3, hd.nx _ q2⟩) q⟩) h⟩
theorem js_augS {i : Nat} {x : Str} {e k : Expr} {we wi : WT} {op : Operator} {f : Int → Int → Int} {p pos' pos : Pos} (hu : X.A.units + 1 < cLine) (hN : X.N[i]? = some x) (hv : Vis X.env.scope x) (hd : (x == ("__debug__" : Str)) = false) (hcd : (x == ("__classdict__" : Str)) = false) (je : JE X P e we) (jk : JE X P k wi)
    (ho : PIp X op (ipI f)) (ha : ∀ ov iv new, augStore k ov iv new = (do holding [new, ov, iv] (setItem ov iv new); release [new, ov, iv] []; pure .next)) : JS X P (.AugAssign (.Subscript (.Name x p) k pos') op e pos) (wAugS i f wi we) := by
  refine ⟨(ps_augS (pe_var (pos := p) hN hv hd hcd) jk.pe (get_D hu) je.pe ho (set_D hu) ha).impL fun B σ H hl h => ?_, wAugS_mono jk.mono je.mono⟩
  obtain ⟨F, sd, pv, pd, A, ok, R, en, ⟨xs0, e0⟩, h⟩ := h
  obtain ⟨a, us0, ea, _, _, _⟩ := RelP.peekL R e0
  refine ⟨.ref a, ea, tl.sub jk ok R h fun kd sd1 iv H1 h1 R1 => ?_⟩
  obtain ⟨xs, j, n, z, e1, rfl, en1, ez, q⟩ := h1
  obtain ⟨a', us, f1, f2, hul, R2⟩ := RelP.peekL R1 e1
  rw [ea] at f1
  have : a = a' := by injection f1 with f1; injection f1 with f1; injection f1
  subst this
  obtain ⟨v, ev, R3⟩ := pickR (X := X) R2 hul ez
  have er := rep_int (one (X := X) R3).1
  subst er
  have ei := rep_int (one (X := X) R1).1
  refine .inl ⟨a, us, j, .int z, rfl, ei, SqL.of f2, atI_of (by rw [hul]; exact en1) ev, ?_⟩
  refine tl.sub je ok R1 q fun d sd2 u H2 h2 R4 => ?_
  obtain ⟨ys, b, g1, rfl, g3, q2⟩ := h2
  refine ⟨z, b, rfl, rep_int (one (X := X) R4).1, ?_⟩
  obtain ⟨a', ws, k1, k2, hwl, R5⟩ := RelP.peekL R4 g1
  rw [ea] at k1
  have : a = a' := by injection k1 with k1; injection k1 with k1; injection k1
  subst this
  refine .inl ⟨a, ws, j, n, rfl, ei, k2, by rw [hwl, g3]; exact en1, en.nx _ _ _ hl ?_ q2⟩
  refine RelP.mut (ws := ws.set n (.int (f z b))) (es := ys.set n (.int (f z b))) (RelP.pend R5 fun Hh r => ?_) (by simp [hwl]) g1 ea fun Hh r => r
  obtain ⟨r1, r2⟩ := Reps.split hwl r
  cases r2 with | cons _ r3 => cases r3 with | cons _ r5 => exact (r1.set n (.int _)).app r5
end
/-! ### a def keeps its promise -/
section
variable {Pg : Program} {w : World} {K : PySem.W.Frag} {mg : Str → Option Value} {base : Heap}
/-- the slots at the entry -/
def startD (n : Nat) (args : List Sl) : Sd := args.map some ++ List.replicate (n - args.length) none
theorem start_rel {F : Fm} {H : Hp} {N : List Str} {vs : List V} {args : List Sl} (hl : args.length = vs.length) (R : F.R K (vs.map some) H (args.map some) [] []) (hp : ∀ (i : Nat) v, F.PA i = some v → i < vs.length) : F.R K (L2.start N vs) H (startD N.length args) [] [] := by
  have pre : ∀ (i : Nat), i < vs.length → (L2.start N vs)[i]? = (vs.map some)[i]? := fun i hi => by
    unfold L2.start
    rw [List.getElem?_append_left (by simpa using hi)]
  refine RelP.sub R (fun i s e => ?_) fun i v e => ?_
  · unfold startD at e
    by_cases hi : i < args.length
    · rw [List.getElem?_append_left (by simpa using hi)] at e
      exact ⟨e, pre i (by omega)⟩
    · rw [List.getElem?_append_right (by simpa using hi), List.getElem?_replicate] at e
      split at e <;> cases e
  · rw [pre i (hp i v e)]
    obtain ⟨ow, W⟩ := R
    exact W.pin i v e
theorem RelP.repin {HF : Hp} {M0 : Addr → Prop} {PA PA' : Nat → Option V} {σ σ2 : L2.St} {H : Hp} {sd sd2 : Sd} {pv : List V} {pd : List D} (R : RelP K HF M0 PA σ H sd pv pd) (hs : ∀ (i : Nat) s, sd2[i]? = some (some s) → sd[i]? = some (some s) ∧ σ2[i]? = σ[i]?) (hp : ∀ (i : Nat) v, PA' i = some v → σ2[i]? = some (some v)) : RelP K HF M0 PA' σ2 H sd2 pv pd := by
  obtain ⟨ow, R⟩ := R
  refine ⟨ow, R.fr, R.m0, R.inj, R.out, hp, fun i s q => ?_, R.pend⟩
  obtain ⟨e1, e2⟩ := hs i s q
  rw [e2]
  exact R.sl i s e1
theorem RelR.repin {HF : Hp} {M0 : Addr → Prop} {PA PA' : Nat → Option V} {σ σ2 : L2.St} {H : Hp} {sd sd2 : Sd} {pv : List V} {pd : List D} {v : V} {r : Rv} (R : RelR K HF M0 PA σ H sd v r pv pd) (hs : ∀ (i : Nat) s, sd2[i]? = some (some s) → sd[i]? = some (some s) ∧ σ2[i]? = σ[i]?) (hp : ∀ (i : Nat) v, PA' i = some v → σ2[i]? = some (some v)) : RelR K HF M0 PA' σ2 H sd2 v r pv pd := by
  cases r with
  | val d => exact RelP.repin R hs hp
  | fresh o =>
    obtain ⟨p, ho, ws, es, e, hpF, hm, hl, hob, R⟩ := R
    exact ⟨p, ho, ws, es, e, hpF, hm, hl, hob, RelP.repin R hs hp⟩
/-- what the caller sees of the slots behind the call -/
def retD (pin : List Nat) (np : Nat) (sd : Sd) : Sd := (List.range np).map fun i : Nat => if i ∈ pin then (sd[i]?).join else none
theorem retD_get {pin : List Nat} {np : Nat} {sd : Sd} {i : Nat} {s : Sl} (h : (retD pin np sd)[i]? = some (some s)) : i < np ∧ i ∈ pin ∧ sd[i]? = some (some s) := by
  unfold retD at h
  rw [List.getElem?_map] at h
  by_cases hi : i < np
  · rw [List.getElem?_range hi] at h
    have h2 : (if i ∈ pin then (sd[i]?).join else none) = some s := Option.some.inj h
    by_cases hp : i ∈ pin
    · rw [if_pos hp] at h2
      refine ⟨hi, hp, ?_⟩
      cases e : sd[i]? with
      | none => rw [e] at h2; cases h2
      | some y => rw [e] at h2; cases y with
        | none => cases h2
        | some z => exact congrArg (fun z => some (some z)) (Option.some.inj h2)
    · rw [if_neg hp] at h2; cases h2
  · rw [List.getElem?_eq_none (by simpa using hi)] at h; cases h
/-- a body's reading at a promise -/
theorem body_go {F : Fm} {P : Par} {N : List Str} {vs : List V} {H : Hp} {Q : VK} {fn : Fn} {args : List Sl} {b : WS} (ok : F.Ok K P) (hP : P.pin = fn.pin) (hvl : vs.length = fn.ps.length) (hal : args.length = fn.ps.length) (hN : fn.ps.length ≤ N.length) (R : F.R K (vs.map some) H (args.map some) [] [])
    (h : b { nx := fun sd => ∀ v H', F.RR K (vs.map some) H' (retD fn.pin fn.ps.length sd) v (.val .none) [] [] → Q v H', rt := fun r sd => ∀ v H', F.RR K (vs.map some) H' (retD fn.pin fn.ps.length sd) v r [] [] → Q v H' } (startD N.length args) F.xp) :
    tls K P N.length b { nx := fun _ H' => Q .non H', rt := Q } (L2.start N vs) H := by
  have slen : (L2.start N vs).length = N.length := by unfold L2.start; simp; omega
  have pre : ∀ (i : Nat), i < vs.length → (L2.start N vs)[i]? = (vs.map some)[i]? := fun i hi => by
    unfold L2.start
    rw [List.getElem?_append_left (by simpa using hi)]
  have Fpin : ∀ (i : Nat) v, F.PA i = some v → (vs.map some)[i]? = some (some v) := fun i v e => by
    obtain ⟨ow, W⟩ := R
    exact W.pin i v e
  have R0 := start_rel (N := N) (by omega) R fun i v e => by simpa using (List.getElem?_eq_some_iff.mp (Fpin i v e)).1
  let PA2 : Nat → Option V := fun i => if i ∈ P.pin then vs[i]? else none
  have PA2E : ∀ (i : Nat) v, PA2 i = some v → i ∈ P.pin ∧ vs[i]? = some v := fun i v e => by
    have e' : (if i ∈ P.pin then vs[i]? else none) = some v := e
    by_cases hp : i ∈ P.pin
    · rw [if_pos hp] at e'; exact ⟨hp, e'⟩
    · rw [if_neg hp] at e'; cases e'
  let F2 : Fm := { F with PA := PA2 }
  have ok2 : F2.Ok K P := ⟨fun i v e => (PA2E i v e).1, ok.ex, ok.tab⟩
  have R2 : F2.R K (L2.start N vs) H (startD N.length args) [] [] := RelP.repin R0 (fun i s e => ⟨e, rfl⟩) fun i v e => by
    obtain ⟨_, e2⟩ := PA2E i v e
    rw [pre i (List.getElem?_eq_some_iff.mp e2).1, List.getElem?_map, e2]
    rfl
  have out : ∀ {σ : L2.St} {H' : Hp} {sd : Sd} {v : V} {r : Rv}, F2.RR K σ H' sd v r [] [] → F.RR K (vs.map some) H' (retD fn.pin fn.ps.length sd) v r [] [] := fun {σ H' sd v r} rel => by
    have pinned : ∀ (i : Nat) u, PA2 i = some u → σ[i]? = some (some u) := by
      cases r with
      | val d => obtain ⟨ow, W⟩ := rel; exact W.pin
      | fresh o => obtain ⟨p, ho, ws, es, _, _, _, _, _, ow, W⟩ := rel; exact W.pin
    refine RelR.repin rel (fun i s e => ?_) Fpin
    obtain ⟨h1, h2, h3⟩ := retD_get e
    refine ⟨h3, ?_⟩
    have hi : i < vs.length := by omega
    have e1 : PA2 i = some vs[i] := by
      show (if i ∈ P.pin then vs[i]? else none) = _
      rw [if_pos (by rw [hP]; exact h2), List.getElem?_eq_getElem hi]
    rw [pinned i _ e1, List.getElem?_map, List.getElem?_eq_getElem hi]
    rfl
  refine ⟨F2, startD N.length args, [], [], { nx := fun sd => ∀ v H', F.RR K (vs.map some) H' (retD fn.pin fn.ps.length sd) v (.val .none) [] [] → Q v H', rt := fun r sd => ∀ v H', F.RR K (vs.map some) H' (retD fn.pin fn.ps.length sd) v r [] [] → Q v H' }, ok2, R2, ?_, h⟩
  refine ⟨fun sd σ H' hl rel q => q .non H' (out (r := .val .none) (RelP.pend rel fun Hh r => .cons .non r)), fun r sd σ v H' rel q => q v H' (out rel), fun _ _ _ _ _ q => q.elim, fun _ _ _ _ _ q => q.elim⟩
/-- a def without exceptions, by its body's reading -/
theorem fn_ok0 {x qual : Str} {st : Stmt} {f : Addr} {fd : FuncData} {N : List Str} {k : Nat} {fn : Fn} {cl : Glo} {b : WS} (F : L2.Fun K x qual st f fd) (S : FnScope N fn.ps (defScope st))
    (hb : ∀ (cdv : Value) (A : Around) (outer : List Env) (s : Shared) (H : Hp) (E : XK), fd.code = cdv → Room k (A.deeper (envOfC qual (defScope st) s.heap.objs.size f cdv)) → JSs (cxOf CX0 Pg w K mg base N qual (defScope st) f cdv A outer s H E).nox ⟨cl, fn.pin, E0⟩ (defBody st) b)
    (hs : ∀ args xp Q, args.length = fn.ps.length → fn.sp args xp Q → b { nx := fun sd => Q (.val .none) (retD fn.pin fn.ps.length sd), rt := fun r sd => Q r (retD fn.pin fn.ps.length sd) } (startD N.length args) xp) :
    FnOk Pg w K mg base CX0 (k + 1) f fd fn.ps (fun vs H Q _ => spOf K cl fn vs H Q E0) := by
  obtain ⟨oc, od, kV, doc, pm, an, cdv, ct, osl, rfl, lk, hcd⟩ := F.ex
  refine fn_of lk hcd S (fun vs H Q E h => ?_) (fun A outer s H vs Q E hr h => ?_)
  · obtain ⟨F, args, _, hl, _⟩ := h
    exact hl
  · obtain ⟨F', args, ok, hl, hal, R, h⟩ := h
    have j := hb cdv A outer s H E rfl hr
    have hpl : fn.ps.length ≤ N.length := by have := congrArg List.length S.pre; rw [List.length_take] at this; omega
    exact ⟨_, j.pss.nox, body_go (P := ⟨cl, fn.pin, E0⟩) ok rfl hl hal hpl R (hs args F'.xp _ hal h)⟩
end
end Ev

/-! EvX: generator expressions: what their tests and elements tell, in plain data. -/
namespace Ev
open PySem PySem.Spec PyProof.Rows L2

/-! ### values that are plain data, at a heap -/
mutual
inductive DatV (h : Heap) : Value → D → Prop
  | non : DatV h .none .none
  | bl (b : Bool) : DatV h (.bool b) (.bool b)
  | int (i : Int) (t : Tok) : DatV h (.int i t) (.int i)
  | str (x : Str) (t : Tok) : DatV h (.str x t) (.str x)
  | tup {a : Addr} {vs : List Value} {ds : List D} : IsTup h a vs.toArray → vs.length ≤ sizeLine → DatVs h vs ds → DatV h (.ref a) (.tuple ds)
  | lst {a : Addr} {vs : List Value} {ds : List D} : h.IsList a vs.toArray → vs.length ≤ sizeLine → DatVs h vs ds → DatV h (.ref a) (.list ds)
inductive DatVs (h : Heap) : List Value → List D → Prop
  | nil : DatVs h [] []
  | cons {v : Value} {vs : List Value} {d : D} {ds : List D} : DatV h v d → DatVs h vs ds → DatVs h (v :: vs) (d :: ds)
end
/-- sequences stay -/
structure KeepQ (h h' : Heap) : Prop where
  t : ∀ a vs, IsTup h a vs → IsTup h' a vs
  l : ∀ a vs, h.IsList a vs → h'.IsList a vs
theorem KeepQ.of {h h' : Heap} (k : ∀ b o, h.get? b = some o → h'.get? b = some o) : KeepQ h h' := ⟨fun a vs ⟨o, e, r⟩ => ⟨o, k a o e, r⟩, fun a vs ⟨o, e, r⟩ => ⟨o, k a o e, r⟩⟩
section
variable {h h' : Heap}
mutual
theorem DatV.mono (k : KeepQ h h') : ∀ {v : Value} {d : D}, DatV h v d → DatV h' v d
  | _, _, .non => .non
  | _, _, .bl b => .bl b
  | _, _, .int i t => .int i t
  | _, _, .str x t => .str x t
  | _, _, .tup e l r => .tup (k.t _ _ e) l (r.mono k)
  | _, _, .lst e l r => .lst (k.l _ _ e) l (r.mono k)
theorem DatVs.mono (k : KeepQ h h') : ∀ {vs : List Value} {ds : List D}, DatVs h vs ds → DatVs h' vs ds
  | _, _, .nil => .nil
  | _, _, .cons a r => .cons (a.mono k) (r.mono k)
end
theorem DatVs.len : ∀ {vs : List Value} {ds : List D}, DatVs h vs ds → vs.length = ds.length
  | _, _, .nil => rfl
  | _, _, .cons _ r => by rw [List.length_cons, List.length_cons, r.len]
theorem DatVs.get : ∀ {vs : List Value} {ds : List D} {i : Nat} {d : D}, DatVs h vs ds → ds[i]? = some d → ∃ v, vs[i]? = some v ∧ DatV h v d
  | _, _, _, _, .nil, e => by simp at e
  | _, _, 0, _, .cons a _, e => by simp at e; subst e; exact ⟨_, rfl, a⟩
  | _, _, i + 1, _, .cons _ r, e => by
    obtain ⟨v, e1, q⟩ := DatVs.get (i := i) r (by simpa using e)
    exact ⟨v, by simpa using e1, q⟩
theorem DatVs.getV : ∀ {vs : List Value} {ds : List D} {i : Nat} {v : Value}, DatVs h vs ds → vs[i]? = some v → ∃ d, ds[i]? = some d ∧ DatV h v d
  | _, _, _, _, .nil, e => by simp at e
  | _, _, 0, _, .cons a _, e => by simp at e; subst e; exact ⟨_, rfl, a⟩
  | _, _, i + 1, _, .cons _ r, e => by
    obtain ⟨v, e1, q⟩ := DatVs.getV (i := i) r (by simpa using e)
    exact ⟨v, by simpa using e1, q⟩
end
section
variable {X : Cx} {pins : List (Addr × Obj)} {σ : L2.St} {H : Hp} {s : Shared}
mutual
theorem rep_datv (I : Inv X pins σ H s) : ∀ {v : V} {d : D} {u : Value}, Rep X.K H v d → RelV v u → DatV s.heap u d
  | _, _, _, .non, r => by cases r; exact .non
  | _, _, _, .bl b, r => by cases r; exact .bl b
  | _, _, _, .int i, r => by obtain ⟨t, rfl⟩ := r; exact .int i t
  | _, _, _, .str x, r => by obtain ⟨t, rfl⟩ := r; exact .str x t
  | _, _, _, .lst q rs, r => by
    cases r
    obtain ⟨its, vr, pl, hz⟩ := I.list q
    exact .lst pl.isList (by rw [← vr.length]; exact hz) (reps_datv I rs vr)
  | _, _, _, .tup q rs, r => by
    cases r
    obtain ⟨its, vr, pl, hz⟩ := I.tuple (SqT.of q)
    exact .tup pl (by rw [← vr.length]; exact hz) (reps_datv I rs vr)
theorem reps_datv (I : Inv X pins σ H s) : ∀ {vs : List V} {ds : List D} {us : List Value}, Reps X.K H vs ds → Vals vs us → DatVs s.heap us ds
  | _, _, _, .nil, .nil => .nil
  | _, _, _, .cons a r, .cons b t => .cons (rep_datv I a b) (reps_datv I r t)
end
end

/-! ### a plain evaluation -/
def isI : D → Option Int
  | .int i => some i
  | _ => none
def isB : D → Option Bool
  | .bool b => some b
  | _ => none
def qBin (op : Operator) (a b : D) : Option D :=
  match op, a, b with
  | .Add, .int i, .int j => some (.int (i + j))
  | .Sub, .int i, .int j => some (.int (i - j))
  | .Mult, .int i, .int j => if -(2 ^ 64) < i ∧ i < 2 ^ 64 then some (.int (i * j)) else none
  | _, _, _ => none
def qCmp (op : CmpOp) (a b : D) : Option Bool :=
  match op, a, b with
  | .Lt, .int i, .int j => some (decide (i < j))
  | .LtE, .int i, .int j => some (decide (i ≤ j))
  | .Gt, .int i, .int j => some (decide (j < i))
  | .GtE, .int i, .int j => some (decide (j ≤ i))
  | .Eq, .int i, .int j => some (decide (i = j))
  | .NotEq, .int i, .int j => some (!decide (i = j))
  | _, _, _ => none
def qIx (a b : D) : Option D :=
  match a, b with
  | .tuple xs, .int i => atI xs i
  | .list xs, .int i => atI xs i
  | _, _ => none
def qBin2 (op : Operator) (a b : Option D) : Option D := a.bind fun x => b.bind fun y => qBin op x y
def qCmpT (op : CmpOp) (a b : Option D) : Option Bool := a.bind fun x => b.bind fun y => qCmp op x y
def qCmp2 (op : CmpOp) (a b : Option D) : Option D := (qCmpT op a b).map .bool
def qIx2 (a b : Option D) : Option D := a.bind fun x => b.bind fun y => qIx x y
def qIf3 (c : Option Bool) (a b : Option D) : Option D := c.bind fun k => if k = true then a else b
def qNot (a : Option Bool) : Option Bool := a.map (!·)
def qAnd2 (a b : Option Bool) : Option Bool := a.bind fun k => if k = true then b else some false
def qOr2 (a b : Option Bool) : Option Bool := a.bind fun k => if k = true then some true else b
def qOkN (y : Str) : Bool := !(y == ("__debug__" : Str)) && !(y == ("__classdict__" : Str))
mutual
def qE (ρ : Str → Option D) : Nat → Expr → Option D
  | 0, _ => none
  | n + 1, e => match e with
    | .Name y _ => if qOkN y = true then ρ y else none
    | .Constant (.int i) _ _ => some (.int i)
    | .Constant (.bool b) _ _ => some (.bool b)
    | .Constant .none _ _ => some .none
    | .BinOp a op b _ => qBin2 op (qE ρ n a) (qE ρ n b)
    | .Compare a [op] [b] _ => if behindInMarks op b = false then qCmp2 op (qE ρ n a) (qE ρ n b) else none
    | .Subscript a (.Slice _ _ _ _) _ => none
    | .Subscript a b _ => qIx2 (qE ρ n a) (qE ρ n b)
    | .IfExp c a b _ => qIf3 (qT ρ n c) (qE ρ n a) (qE ρ n b)
    | _ => none
def qT (ρ : Str → Option D) : Nat → Expr → Option Bool
  | 0, _ => none
  | n + 1, e => match e with
    | .UnaryOp .Not a _ => qNot (qT ρ n a)
    | .BoolOp .And es _ => qAnd ρ n es
    | .BoolOp .Or es _ => qOr ρ n es
    | .Compare a [op] [b] _ => if behindInMarks op b = false then qCmpT op (qE ρ n a) (qE ρ n b) else none
    | _ => none
def qAnd (ρ : Str → Option D) : Nat → List Expr → Option Bool
  | 0, _ => none
  | n + 1, es => match es with
    | [] => some true
    | a :: r => qAnd2 (qT ρ n a) (qAnd ρ n r)
def qOr (ρ : Str → Option D) : Nat → List Expr → Option Bool
  | 0, _ => none
  | n + 1, es => match es with
    | [] => some false
    | a :: r => qOr2 (qT ρ n a) (qOr ρ n r)
end
theorem bind2 {α β γ : Type} {a : Option α} {b : Option β} {f : α → β → Option γ} {z : γ} (h : (a.bind fun x => b.bind fun y => f x y) = some z) : ∃ x y, a = some x ∧ b = some y ∧ f x y = some z := by
  cases a with
  | none => cases h
  | some x => cases b with
    | none => cases h
    | some y => exact ⟨x, y, rfl, rfl, h⟩

/-- what the names of a generator's frame hold -/
structure QEnv (env : Env) (h : Heap) (m : Str → Option Value) (ρ : Str → Option D) : Prop where
  kind : env.scope.kind = .function
  var : ∀ y d, ρ y = some d → (env.scope.names.lookup y = some .local ∧ ∃ v, m y = some v ∧ DatV h v d) ∨ (env.kindOf y = some .free ∧ ∃ c v, env.cells.lookup y = some c ∧ h.IsCell c (some v) ∧ DatV h v d)
theorem QEnv.mono {env : Env} {h h' : Heap} {m : Str → Option Value} {ρ : Str → Option D} (q : QEnv env h m ρ) (k : ∀ b o, h.get? b = some o → h'.get? b = some o) : QEnv env h' m ρ := by
  refine ⟨q.kind, fun y d e => ?_⟩
  rcases q.var y d e with ⟨h1, v, h2, h3⟩ | ⟨h1, c, v, h2, h3, h4⟩
  · exact .inl ⟨h1, v, h2, h3.mono (.of k)⟩
  · exact .inr ⟨h1, c, v, h2, h3.keeps k, h4.mono (.of k)⟩
theorem keeps_trans {s s1 s2 : Shared} (a : Keeps s s1) (b : Keeps s1 s2) : Keeps s s2 := by
  obtain ⟨h1, k1, rfl, p1⟩ := a
  obtain ⟨h2, k2, rfl, p2⟩ := b
  exact ⟨h2, k2, rfl, fun c o e => p2 c o (p1 c o e)⟩
theorem keeps_heap {s s1 : Shared} (a : Keeps s s1) : ∀ b o, s.heap.get? b = some o → s1.heap.get? b = some o := by
  obtain ⟨h1, k1, rfl, p1⟩ := a
  exact p1
/-- an expression's plain value -/
def QS (prog : Program) (w : World) (env : Env) (e : Expr) (m : Str → Option Value) (ρ : Str → Option D) (d : D) : Prop :=
  ∀ (s : Shared) (A : Around) (E : Value → Shared → Prop) (Q : Value → Shared → Prop), QEnv env s.heap m ρ → s.heap.Ns env.locals m → (∀ v s', DatV s'.heap v d → Keeps s s' → Q v s') → wpAny (model prog w) A (eval e env) Q E s
def QTt (prog : Program) (w : World) (env : Env) (e : Expr) (whole : Sem Value) (m : Str → Option Value) (ρ : Str → Option D) (b : Bool) : Prop :=
  ∀ (s : Shared) (A : Around) (E : Value → Shared → Prop) (Q : Bool → Shared → Prop), QEnv env s.heap m ρ → s.heap.Ns env.locals m → (∀ s', Keeps s s' → Q b s') → wpAny (model prog w) A (isTrue e env whole) Q E s
section
variable {prog : Program} {w : World} {env : Env} {m : Str → Option Value} {ρ : Str → Option D} {A : Around} {E : Value → Shared → Prop} {s : Shared}
theorem qbin_go {op : Operator} {x y d : D} {u v : Value} {Q : Value → Shared → Prop} (h : qBin op x y = some d) (hu : DatV s.heap u x) (hv : DatV s.heap v y) (hQ : ∀ v s', DatV s'.heap v d → Keeps s s' → Q v s') : wpAny (model prog w) A (binaryOp op u v) Q E s := by
  unfold qBin at h
  split at h
  · cases h; cases hu; cases hv
    exact add_int (hQ _ _ (.int _ _) (GxR.keeps_tok _ _))
  · cases h; cases hu; cases hv
    exact sub_int (hQ _ _ (.int _ _) (GxR.keeps_tok _ _))
  · split at h
    · rename_i c
      cases h; cases hu; cases hv
      exact mul_int (hQ _ _ (.int _ _) (GxR.keeps_tok _ _)) (CMul.ok (.inl c))
    · cases h
  · cases h
theorem qcmp_go {op : CmpOp} {x y : D} {b : Bool} {u v : Value} {Q : Value → Shared → Prop} (h : qCmp op x y = some b) (hu : DatV s.heap u x) (hv : DatV s.heap v y) (hQ : Q (.bool b) s) : wpAny (model prog w) A (compareOp op u v) Q E s := by
  unfold qCmp at h
  split at h
  · cases h; cases hu; cases hv
    exact lt_int hQ
  · cases h; cases hu; cases hv
    exact le_int hQ
  · cases h; cases hu; cases hv
    exact gt_int hQ
  · cases h; cases hu; cases hv
    exact ge_int hQ
  · cases h; cases hu; cases hv
    exact eq_int hQ
  · cases h; cases hu; cases hv
    exact ne_int hQ
  · cases h
theorem qix_go {x y d : D} {u v : Value} {value slice : Expr} {Q : Value → Shared → Prop} (h : qIx x y = some d) (hu : DatV s.heap u x) (hv : DatV s.heap v y) (hs : subscripted slice false u v = operate [u, v] (getItem u v)) (hQ : ∀ r, DatV s.heap r d → Q r s) : wpAny (model prog w) A (subscriptTail value slice u v) Q E s := by
  have hn := line63
  unfold qIx at h
  split at h
  · cases hu with
    | tup pl hz r =>
      cases hv with
      | int i t =>
        obtain ⟨j, h1, h2, h3, h4, h5⟩ := atI_get h
        obtain ⟨wv, ew, rw'⟩ := r.get h2
        have hl := r.len
        exact subscriptTail_builtinR (x := wv) pl.typeIs slot_tuple_getitem.lookup
          (getItem_tuple (j := j) (Q := fun r s' => r = wv ∧ Q r s') pl (by omega) (by omega) (by rw [List.size_toArray, hl]; exact h1) (by simpa using ew) ⟨rfl, hQ _ rw'⟩) hs
  · rename_i xs i
    cases hu with
    | @lst _ vs _ pl hz r =>
      cases hv with
      | int _ t =>
        obtain ⟨j, h1, h2, h3, h4, h5⟩ := atI_get h
        obtain ⟨wv, ew, rw'⟩ := r.get h2
        have hl := r.len
        by_cases h0 : 0 ≤ i
        · have hj : i.toNat = j := by
            rw [seqIndex_of h0 h5] at h1
            exact Option.some.inj h1
          exact item_listR pl h0 (by omega) (by rw [hj]; simpa using ew) (hQ _ rw') hs
        · have hj : (i + (vs.toArray.size : Int)).toNat = j := by
            rw [seqIndex_neg (by omega) h4] at h1
            rw [List.size_toArray, hl]
            exact Option.some.inj h1
          exact subscriptTail_builtinR (x := wv) pl.typeIs slot_list_getitem.lookup
            (wpAny_getItem_list_neg (Q := fun r s' => r = wv ∧ Q r s') pl (by omega) (by rw [List.size_toArray] <;> omega) (by omega) (by rw [hj]; simpa using ew) ⟨rfl, hQ _ rw'⟩) hs
  · cases h
theorem plain_ix {b : Expr} (h : ∀ lo hi st p, b = .Slice lo hi st p → False) : PlainIx b := by
  cases b <;> first
    | exact fun _ _ => rfl
    | exact fun _ _ => by with_unfolding_all rfl
    | exact absurd rfl (fun z => h _ _ _ _ z)
theorem q_go : ∀ n : Nat, (∀ (e : Expr) (d : D), qE ρ n e = some d → QS prog w env e m ρ d) ∧ (∀ (e : Expr) (b : Bool), qT ρ n e = some b → QTt prog w env e (eval e env) m ρ b) ∧
    (∀ (es : List Expr) (b : Bool), qAnd ρ n es = some b → ∀ pos whole, QTt prog w env (.BoolOp .And es pos) whole m ρ b) ∧ (∀ (es : List Expr) (b : Bool), qOr ρ n es = some b → ∀ pos whole, QTt prog w env (.BoolOp .Or es pos) whole m ρ b)
  | 0 => ⟨fun e d h => by simp [qE] at h, fun e b h => by simp [qT] at h, fun es b h => by simp [qAnd] at h, fun es b h => by simp [qOr] at h⟩
  | n + 1 => by
    obtain ⟨ihE, ihT, ihA, ihO⟩ := q_go n
    refine ⟨fun e d h => ?_, fun e b h => ?_, fun es b h => ?_, fun es b h => ?_⟩
    · unfold qE at h
      split at h
      · -- Name
        rename_i y pos
        split at h
        · rename_i hc
          unfold qOkN at hc
          simp only [Bool.and_eq_true, Bool.not_eq_true'] at hc
          intro s A E Q q hn hQ
          rcases q.var y d h with ⟨h1, v, h2, h3⟩ | ⟨h1, c, v, h2, h3, h4⟩
          · exact wpAny_Name (wpAny_loadName_local q.kind h1 hn h2 (hQ _ _ h3 (GxR.keeps_refl _))) hc.1
          · exact wpAny_Name (wpAny_loadName_free q.kind h1 h2 h3 (hQ _ _ h4 (GxR.keeps_refl _)) hc.2) hc.1
        · cases h
      · cases h
        exact fun s A E Q q hn hQ => wpAny_Constant_int (hQ _ _ (.int _ _) (GxR.keeps_tok _ _))
      · cases h
        exact fun s A E Q q hn hQ => wpAny_Constant_bool (hQ _ _ (.bl _) (GxR.keeps_refl _))
      · cases h
        exact fun s A E Q q hn hQ => wpAny_Constant_none (hQ _ _ .non (GxR.keeps_refl _))
      · -- BinOp
        obtain ⟨x, y, hx, hy, h⟩ := bind2 h
        intro s A E Q q hn hQ
        refine wpAny_BinOp (ihE _ _ hx s A E _ q hn fun u s1 du k1 => ?_)
        refine ihE _ _ hy s1 A E _ (q.mono (keeps_heap k1)) (hn.keeps (keeps_heap k1)) fun v s2 dv k2 => ?_
        exact qbin_go h (du.mono (.of (keeps_heap k2))) dv fun r s3 dr k3 => hQ r s3 dr (keeps_trans k1 (keeps_trans k2 k3))
      · -- Compare
        split at h
        · rename_i hb
          obtain ⟨c, h9, rfl⟩ := Option.map_eq_some_iff.mp (show (qCmpT _ _ _).map PyData.bool = some d from h)
          obtain ⟨x, y, hx, hy, hc⟩ := bind2 h9
          intro s A E Q q hn hQ
          refine wpAny_Compare1 (ihE _ _ hx s A E _ q hn fun u s1 du k1 => ?_) hb
          refine ihE _ _ hy s1 A E _ (q.mono (keeps_heap k1)) (hn.keeps (keeps_heap k1)) fun v s2 dv k2 => ?_
          exact qcmp_go hc (du.mono (.of (keeps_heap k2))) dv (hQ _ _ (.bl _) (keeps_trans k1 k2))
        · cases h
      · cases h
      · -- Subscript
        rename_i hsl
        obtain ⟨x, y, hx, hy, h⟩ := bind2 h
        intro s A E Q q hn hQ
        refine Subscript_ (ihE _ _ hx s A E _ q hn fun u s1 du k1 => ?_)
        refine ihE _ _ hy s1 A E _ (q.mono (keeps_heap k1)) (hn.keeps (keeps_heap k1)) fun v s2 dv k2 => ?_
        exact qix_go h (du.mono (.of (keeps_heap k2))) dv (plain_ix hsl _ _) fun r dr => hQ r s2 dr (keeps_trans k1 k2)
      · -- IfExp
        obtain ⟨k, hc, h⟩ := Option.bind_eq_some_iff.mp h
        intro s A E Q q hn hQ
        refine wpAny_IfExp (ihT _ _ hc s A E _ q hn fun s1 k1 => ?_)
        cases k
        · exact ihE _ _ h s1 A E _ (q.mono (keeps_heap k1)) (hn.keeps (keeps_heap k1)) fun v s2 dv k2 => hQ v s2 dv (keeps_trans k1 k2)
        · exact ihE _ _ h s1 A E _ (q.mono (keeps_heap k1)) (hn.keeps (keeps_heap k1)) fun v s2 dv k2 => hQ v s2 dv (keeps_trans k1 k2)
      · cases h
    · unfold qT at h
      split at h
      · obtain ⟨c, hc, rfl⟩ := Option.map_eq_some_iff.mp h
        exact fun s A E Q q hn hQ => isTrue_not (ihT _ _ hc s A E _ q hn hQ)
      · exact ihA _ _ h _ _
      · exact ihO _ _ h _ _
      · split at h
        · rename_i hb
          obtain ⟨x, y, hx, hy, h⟩ := bind2 h
          intro s A E Q q hn hQ
          refine wpAny_isTrue_Compare1 (ihE _ _ hx s A E _ q hn fun u s1 du k1 => ?_) hb
          refine ihE _ _ hy s1 A E _ (q.mono (keeps_heap k1)) (hn.keeps (keeps_heap k1)) fun v s2 dv k2 => ?_
          exact qcmp_go h (du.mono (.of (keeps_heap k2))) dv (wpAny_truthy_bool (hQ _ (keeps_trans k1 k2)))
        · cases h
      · cases h
    · intro pos whole
      unfold qAnd at h
      split at h
      · cases h
        exact fun s A E Q q hn hQ => isTrue_and_nil (hQ _ (GxR.keeps_refl _))
      · obtain ⟨k, hc, h⟩ := Option.bind_eq_some_iff.mp h
        intro s A E Q q hn hQ
        refine isTrue_and (ihT _ _ hc s A E _ q hn fun s1 k1 => ?_)
        cases k
        · cases h; exact hQ s1 k1
        · exact ihA _ _ h _ _ s1 A E _ (q.mono (keeps_heap k1)) (hn.keeps (keeps_heap k1)) fun s2 k2 => hQ s2 (keeps_trans k1 k2)
    · intro pos whole
      unfold qOr at h
      split at h
      · cases h
        exact fun s A E Q q hn hQ => isTrue_or_nil (hQ _ (GxR.keeps_refl _))
      · obtain ⟨k, hc, h⟩ := Option.bind_eq_some_iff.mp h
        intro s A E Q q hn hQ
        refine isTrue_or (ihT _ _ hc s A E _ q hn fun s1 k1 => ?_)
        cases k
        · exact ihO _ _ h _ _ s1 A E _ (q.mono (keeps_heap k1)) (hn.keeps (keeps_heap k1)) fun s2 k2 => hQ s2 (keeps_trans k1 k2)
        · cases h; exact hQ s1 k1
end
end Ev

/-! EvY: generator expressions over a sequence, drained at once. -/
namespace Ev
open PySem PySem.Spec PyProof.Rows L2
/-- what comes out -/
def gxAll (f : D → Option (Option D)) : List D → Option (List D)
  | [] => some []
  | x :: r => (f x).bind fun o => match o with
    | none => gxAll f r
    | some d => (gxAll f r).map (d :: ·)
def gxP (f : D → Option (Option D)) (xs : List D) (i : Nat) : Bool := match xs[i]? with
  | some x => (match f x with | some (some _) => true | _ => false)
  | none => false
theorem gx_pass {f : D → Option (Option D)} {xs : List D} : ∀ (k i : Nat) (ys : List D), xs.length - i = k → i ≤ xs.length → gxAll f (xs.drop i) = some ys →
    (passing (gxP f xs) xs.length i).length = ys.length ∧ (∀ (j m : Nat), (passing (gxP f xs) xs.length i)[j]? = some m → ∃ x d, xs[m]? = some x ∧ f x = some (some d) ∧ ys[j]? = some d) ∧ ∀ (m : Nat) x, i ≤ m → xs[m]? = some x → ∃ o, f x = some o
  | 0, i, ys, hk, hi, h => by
    have e : i = xs.length := by omega
    subst e
    rw [List.drop_length] at h
    cases h
    rw [passing_end]
    exact ⟨rfl, fun j m e => by simp at e, fun m x hm e => by have := (List.getElem?_eq_some_iff.mp e).1; omega⟩
  | k + 1, i, ys, hk, hi, h => by
    have hlt : i < xs.length := by omega
    have hx : xs[i]? = some xs[i] := List.getElem?_eq_getElem hlt
    rw [List.drop_eq_getElem_cons hlt] at h
    obtain ⟨o, ho, h⟩ := Option.bind_eq_some_iff.mp (show (f xs[i]).bind _ = some ys from h)
    cases o with
    | none =>
      have hp : gxP f xs i = false := by unfold gxP; rw [hx]; show (match f xs[i] with | some (some _) => true | _ => false) = false; rw [ho]
      obtain ⟨h1, h2, h3⟩ := gx_pass k (i + 1) ys (by omega) hlt h
      rw [passing_false hlt hp]
      refine ⟨h1, h2, fun m x hm e => ?_⟩
      by_cases q : m = i
      · subst q
        rw [hx] at e
        cases e
        exact ⟨_, ho⟩
      · exact h3 m x (by omega) e
    | some d =>
      have hp : gxP f xs i = true := by unfold gxP; rw [hx]; show (match f xs[i] with | some (some _) => true | _ => false) = true; rw [ho]
      obtain ⟨zs, hz, rfl⟩ := Option.map_eq_some_iff.mp h
      obtain ⟨h1, h2, h3⟩ := gx_pass k (i + 1) zs (by omega) hlt hz
      rw [PySem.passing_true hlt hp]
      refine ⟨by rw [List.length_cons, List.length_cons, h1], fun j m e => ?_, fun m x hm e => ?_⟩
      · cases j with
        | zero =>
          have e : i = m := by simpa using e
          subst e
          exact ⟨_, d, hx, ho, rfl⟩
        | succ j =>
          obtain ⟨x, d', q1, q2, q3⟩ := h2 j m (by simpa using e)
          exact ⟨x, d', q1, q2, by simpa using q3⟩
      · by_cases q : m = i
        · subst q
          rw [hx] at e
          cases e
          exact ⟨_, ho⟩
        · exact h3 m x (by omega) e
def scalD : D → Bool
  | .int _ => true
  | .bool _ => true
  | .str _ => true
  | .none => true
  | _ => false
/-- a plain value without parts -/
def ScalV (v : Value) (d : D) : Prop := ∃ h, DatV h v d
def vOf : D → V
  | .int i => .int i
  | .bool b => .bl b
  | .str x => .str x
  | _ => .non
theorem scal_rel {v : Value} {d : D} (h : ScalV v d) (s : scalD d = true) : RelV (vOf d) v ∧ ∀ K Hh, Rep K Hh (vOf d) d := by
  obtain ⟨hp, h⟩ := h
  cases h with
  | non => exact ⟨rfl, fun K Hh => .non⟩
  | bl b => exact ⟨rfl, fun K Hh => .bl b⟩
  | int i t => exact ⟨⟨t, rfl⟩, fun K Hh => .int i⟩
  | str x t => exact ⟨⟨t, rfl⟩, fun K Hh => .str x⟩
  | tup => cases s
  | lst => cases s
/-- the tests of a generator expression -/
def gxTests (ρ : Str → Option D) (n : Nat) : List Expr → Option Bool
  | [] => some true
  | [c] => qT ρ n c
  | _ => none
def gxOne (ρ : Str → Option D) (n : Nat) (ifs : List Expr) (elt : Expr) : Option (Option D) := (gxTests ρ n ifs).bind fun b => if b = true then (qE ρ n elt).map some else some none
/-- the scope of a generator expression -/
structure GenF (X : Cx) (scope : Scope) (x : Str) (cv : Str → Option Nat) : Prop where
  kind : scope.kind = .function
  co : scope.isCoroutine = false
  cell : ∀ y ∈ scope.names, y.2 ≠ .cell
  dot : scope.names.lookup (".0" : Str) = some NameKind.local
  loc : scope.names.lookup x = some .local
  free : ∀ y ∈ scope.names, y.2 = .free → X.env.kindOf y.1 = some .cell ∨ X.env.kindOf y.1 = some .free
  fr : ∀ y i, cv y = some i → (y, NameKind.free) ∈ scope.names ∧ scope.names.lookup y = some .free ∧ X.N[i]? = some y ∧ Vis X.env.scope y ∧ X.env.scope.names.lookup y ≠ some .local ∧ y ≠ x

/-- the generator is ready: ys will come out -/
def ReadyG (X : Cx) (pins : List (Addr × Obj)) (σ : L2.St) (H1 : Hp) (P : Addr) (ys : List D) (g : Addr) (s5 : Shared) : Prop :=
  ∃ (fp wr : List Addr) (G : Array GenState → Array GenState → Prop) (F : Nat → Value → Prop) (St : Nat → Shared → Prop),
    WalksS X.prog X.w X.A.in4 g fp wr G ys.length F St ∧ St 0 s5 ∧ (∀ b ∈ fp, b < s5.heap.objs.size) ∧ g ∈ fp ∧ (∀ i s, St i s → s.TypeIs (.ref g) "generator") ∧
    (∀ j y, F j y → ∃ d, ys[j]? = some d ∧ ScalV y d) ∧
    ∀ s', Moved wr G s5 s' → ∃ H2, GxR.Tabbed P H1 H2 ∧ Inv X pins σ H2 s'

section
variable {X : Cx} {pins : List (Addr × Obj)} {σ : L2.St} {H : Hp} {s : Shared}
/-- what the captured names hold -/
def rhoC (cv : Str → Option Nat) (g : Nat → Option D) (x : Str) (d : D) : Str → Option D := fun y => if y = x then some d else (cv y).bind g

theorem gen_seq {c P : Addr} {elt iter : Expr} {x : Str} {px gpos : Pos} {scope : Scope} {ifs : List Expr} {te : TE} {cv : Str → Option Nat} {n : Nat} {Q' : Value → Shared → Prop} {R : List D → Hp → Prop}
    (hh : X.A.handled = none) (hroom : X.A.depth < recursionLimit) (TB : GxR.TabB X.base X.mg c P) (hcode : X.env.code = .ref c) (S : GenF X scope x cv) (hi : PE X iter te)
    (hs : ∀ v, genFold iter X.env v = pure v) (I : Inv X pins σ H s)
    (h : te σ H fun v H1 => ∃ (a : Addr) (us : List V) (xs ys : List D) (g : Nat → Option D), v = .ref a ∧ (SqL X.K H1 a us ∨ SqT X.K H1 a us) ∧ Reps X.K H1 us xs ∧ GxR.TabG H1 P ∧
      (∀ i d, g i = some d → ∃ v, σ[i]? = some (some v) ∧ Rep X.K H1 v d) ∧ gxAll (fun d => gxOne (rhoC cv g x d) n ifs elt) xs = some ys ∧ R ys H1)
    (hQ : ∀ ys H1 g s5, R ys H1 → ReadyG X pins σ H1 P ys g s5 → Q' (.ref g) s5) :
    wpAny (model X.prog X.w) X.A (eval (.GeneratorExp elt [⟨.Name x px, iter, ifs, 0⟩] scope gpos) X.env) Q' X.xe s := by
  have SS : GxR.GenS X.env scope x := ⟨S.kind, S.co, S.cell, S.dot, S.loc, fun y hy e => I.ok.has y.1 (S.free y hy e)⟩
  refine wpAny_GeneratorExp_walksQ hh SS.co (closure_ok SS.free) SS.cell SS.dot SS.loc SS.kind hroom ?_ hs
  refine thn (hi.run pins s σ H _ I h) fun xv s1 ⟨v, H1, I1, r1, q1⟩ => ?_
  obtain ⟨a, us, xs, ys, gv, rfl, hsq, hrep, ⟨ps, hP, ht⟩, hg, hall, q1⟩ := q1
  cases r1
  have hPs : s1.heap.get? P = some { cls := .none, data := .fields ps } := I1.hok P _ hP
  have hPlt : P < s1.heap.objs.size := Heap.lt_size hPs
  obtain ⟨hlen, hget, htot⟩ := gx_pass (f := fun d => gxOne (rhoC cv gv x d) n ifs elt) (xs := xs) xs.length 0 ys (by omega) (Nat.zero_le _) (by simpa using hall)
  -- the items
  obtain ⟨its, hvals, hsel⟩ : ∃ its : List Value, Vals us its ∧ ((s1.heap.IsList a its.toArray) ∨ (s1.heap.IsTuple a its.toArray)) := by
    rcases hsq with q | q
    · obtain ⟨its, r, pl, hz⟩ := I1.list q
      exact ⟨its, r, .inl pl.isList⟩
    · obtain ⟨its, r, pl, hz⟩ := I1.tuple q
      exact ⟨its, r, .inr pl⟩
  have dats : DatVs s1.heap its xs := reps_datv I1 hrep hvals
  have haP : a ≠ P := fun z => by
    rcases hsel with q | q
    · obtain ⟨_, e, hc1, _⟩ := q
      rw [z, hPs] at e
      cases e
      cases hc1
    · obtain ⟨_, e, hc1, _⟩ := q
      rw [z, hPs] at e
      cases e
      cases hc1
  have halt : a < s1.heap.objs.size := by
    rcases hsel with q | q
    · obtain ⟨_, e, _⟩ := q
      exact Heap.lt_size e
    · obtain ⟨_, e, _⟩ := q
      exact Heap.lt_size e
  -- its iterator
  obtain ⟨o, hfr, hpy, Wk, hWk⟩ : ∃ (o : Obj), o.isFreed = false ∧ (∀ Q : Value → Shared → Prop, Q (.ref s1.heap.objs.size) { s1 with heap := s1.heap.push o } → wpAny (model X.prog X.w) X.A (pyIter (.ref a)) Q X.xe s1) ∧
      ∃ (St₀ : Nat → Heap → Prop), (∀ A' : Around, A'.handled = none → Walks X.prog X.w A' s1.heap.objs.size [s1.heap.objs.size, a] [s1.heap.objs.size] its.toArray.size (fun i v => its.toArray[i]? = some v) St₀) ∧
        ∀ h3 : Heap, h3.get? s1.heap.objs.size = some o → (∀ u, s1.heap.get? a = some u → h3.get? a = some u) → St₀ 0 h3 := by
    rcases hsel with q | q
    · refine ⟨_, rfl, fun Q hQ => wpAny_pyIter_list q hQ, fun i h => h.IsListIter s1.heap.objs.size a i ∧ h.IsList a its.toArray, fun A' hA => Walks.list hA _ _ (Nat.ne_of_lt halt) _, fun h3 e1 e2 => ⟨⟨_, e1, rfl, rfl⟩, ?_⟩⟩
      obtain ⟨ob, e, r⟩ := q
      exact ⟨ob, e2 _ e, r⟩
    · refine ⟨_, rfl, fun Q hQ => wpAny_pyIter_tuple q hQ, fun i h => h.IsTupleIter s1.heap.objs.size a i ∧ h.IsTuple a its.toArray, fun A' hA => Walks.tuple hA _ _ (Nat.ne_of_lt halt) _, fun h3 e1 e2 => ⟨⟨_, e1, rfl, rfl⟩, ?_⟩⟩
      obtain ⟨ob, e, r⟩ := q
      exact ⟨ob, e2 _ e, r⟩
  refine hpy _ ?_
  have hP2 : (s1.heap.push o).get? P = some { cls := .none, data := .fields ps } := Heap.get?_push_of_some _ hPs
  have cd : PySem.W.CodeHd (s1.heap.push o) c P := TB.code.keeps fun b u e => Heap.get?_push_of_some _ (I1.bk b u e)
  have lim2 : (s1.heap.push o).NoLimit := I1.nolimit.push o
  have cont : ∀ (code : Value) (h3 : Heap) (tk : Nat) (ps' : Array Value), Heap.ExtBut P (s1.heap.push o) h3 → (s1.heap.push o).objs.size ≤ h3.objs.size → h3.get? P = some { cls := .none, data := .fields ps' } → (∃ more, ps' = ps ++ more) → TriplesOk ps'.toList →
      wpAny (model X.prog X.w) X.A (builtinsFor X.env.globals X.env.builtins) (fun bi s₄ =>
        ∃ Ia fp wr n₀ Pf St₀ pz F, Value.ref s1.heap.objs.size = .ref Ia ∧ (∀ A' : Around, A'.handled = none → Walks X.prog X.w A' Ia fp wr n₀ Pf St₀) ∧ St₀ 0 s₄.heap ∧ (∀ b ∈ fp, b < s₄.heap.objs.size) ∧ s₄.heap.NoLimit ∧ cStatics ∉ wr ∧
          (∀ href : Heap, (∀ b o, s₄.heap.get? b = some o → href.get? b = some o) →
            QuietGen X.prog X.w (genEnv scope (cloFrom X.env.cells scope.names []) s₄.heap.objs.size code bi X.env) x ifs elt (List.range s₄.heap.objs.size) wr Pf pz F href) ∧
          (∀ a h₅ tk gs, gs.bare = true → s₄.heap.objs.size < a → h₅.objs.size = a + 1 → (∀ b o, s₄.heap.get? b = some o → h₅.get? b = some o) →
            WalksS X.prog X.w X.A.in4 a (a :: s₄.heap.objs.size :: List.range s₄.heap.objs.size) (s₄.heap.objs.size :: wr) (GenOnlyQ s₄.gens.size) (passing pz n₀ 0).length
              (fun j y => ∃ i, (passing pz n₀ 0)[j]? = some i ∧ F i y) (GenAt X.prog X.w X.A.in4 a s₄.gens.size s₄.heap.objs.size (List.range s₄.heap.objs.size) wr pz n₀ F) →
            GenAt X.prog X.w X.A.in4 a s₄.gens.size s₄.heap.objs.size (List.range s₄.heap.objs.size) wr pz n₀ F 0 { s₄ with gens := s₄.gens.push gs, toks := tk, heap := h₅ } →
            Q' (.ref a) { s₄ with gens := s₄.gens.push gs, toks := tk, heap := h₅ })) X.xe { s1 with heap := h3, toks := tk } := by
    intro code h3 tk ps' hx hsz hP3 hmore ht3
    obtain ⟨bm, ob, e1, e2, e3, e4, e5, e6, e7, e8⟩ := TB.bm
    have hcP : cStatics ≠ P := fun e => by
      obtain ⟨_, hns, _⟩ := I1.nolimit
      obtain ⟨o', es, ep, ho, hd, _⟩ := hns
      rw [e, hPs] at ho
      cases ho
      cases hd
    have hcl : cStatics < s1.heap.objs.size := let ⟨_, hns, _⟩ := I1.nolimit; hns.lt
    have sz2 : (s1.heap.push o).objs.size = s1.heap.objs.size + 1 := Heap.size_push ..
    have keep3 : ∀ b u, b ≠ P → s1.heap.get? b = some u → h3.get? b = some u := fun b u hb e => hx b u hb (Heap.get?_push_of_some _ e)
    refine wpAny_builtinsFor (m := X.mg) (by rw [I1.ok.glob]; exact ((I1.mod.glob.keeps I1.bk).push o).extBut hx TB.gP) e1 e2 (keep3 _ _ e4 (I1.bk _ _ e5)) e6 e7 e8 ?_
    have hO3 : h3.get? s1.heap.objs.size = some o := hx _ _ (Nat.ne_of_gt hPlt) (Heap.get?_push_size _ hfr)
    have hn0 : its.toArray.size = xs.length := by rw [List.size_toArray, dats.len]
    refine ⟨s1.heap.objs.size, [s1.heap.objs.size, a], [s1.heap.objs.size], its.toArray.size, (fun i v => its.toArray[i]? = some v), Wk, gxP (fun d => gxOne (rhoC cv gv x d) n ifs elt) xs,
      (fun i y => ∃ x0 d, xs[i]? = some x0 ∧ gxOne (rhoC cv gv x x0) n ifs elt = some (some d) ∧ ScalV y d), rfl, hWk.1, hWk.2 h3 hO3 fun u e => keep3 _ _ haP e, ?_, lim2.extBut hx hcP, ?_, ?_, ?_⟩
    · intro b hb
      have e9 : s1.heap.objs.size < h3.objs.size := by omega
      rcases List.mem_cons.mp hb with z | z
      · rw [z]
        exact e9
      · rw [List.mem_singleton.mp z]
        exact Nat.lt_trans halt e9
    · intro z
      exact Nat.ne_of_lt hcl (List.mem_singleton.mp z)
    · intro href hhref
      -- what a generator's frame sees
      have see : ∀ (s₂ : Shared) (m₂ : Str → Option Value) (i : Nat) (v : Value) (x0 : D), xs[i]? = some x0 → its.toArray[i]? = some v → m₂ x = some v → (∀ b ∈ List.range h3.objs.size, b ∉ [s1.heap.objs.size] → ∀ o, href.get? b = some o → s₂.heap.get? b = some o) →
          QEnv (genEnv scope (cloFrom X.env.cells scope.names []) h3.objs.size code builtinsNs X.env) s₂.heap m₂ (rhoC cv gv x x0) := by
        intro s₂ m₂ i v x0 hx0 hv hm hk
        have kp : ∀ b u, b ≠ P → s1.heap.get? b = some u → s₂.heap.get? b = some u := fun b u hb e => by
          have hl := Heap.lt_size e
          refine hk b (List.mem_range.mpr (Nat.lt_trans hl (by omega : s1.heap.objs.size < h3.objs.size))) (fun z => ?_) u (hhref b u (keep3 b u hb e))
          rw [List.mem_singleton.mp z] at hl
          exact Nat.lt_irrefl _ hl
        have kq : KeepQ s1.heap s₂.heap := ⟨fun b vs ⟨o', e, r⟩ => ⟨o', kp b o' (fun z => by rw [z, hPs] at e; cases e; cases r.1) e, r⟩, fun b vs ⟨o', e, r⟩ => ⟨o', kp b o' (fun z => by rw [z, hPs] at e; cases e; cases r.1) e, r⟩⟩
        refine ⟨SS.kind, fun y d e => ?_⟩
        unfold rhoC at e
        by_cases hy : y = x
        · rw [if_pos hy] at e
          cases e
          refine .inl ⟨by rw [hy]; exact SS.loc, v, by rw [hy]; exact hm, ?_⟩
          obtain ⟨v', e1, dv⟩ := dats.get hx0
          have : v' = v := by
            have e2 : its[i]? = some v := by simpa using hv
            rw [e1] at e2
            exact Option.some.inj e2
          subst this
          exact dv.mono kq
        · rw [if_neg hy] at e
          obtain ⟨j, hj, e⟩ := Option.bind_eq_some_iff.mp e
          obtain ⟨f1, f2, f3, f4, f5, f6⟩ := S.fr y j hj
          obtain ⟨u, hu, ru⟩ := hg j d e
          obtain ⟨ml, hns, hloc⟩ := I1.loc
          obtain ⟨uv, rv, lk⟩ := hloc j y u f3 hu f4
          rcases lk with ⟨k1, _⟩ | ⟨_, cc, k2, k3⟩
          · exact absurd k1 f5
          · refine .inr ⟨f2, cc, uv, NdefX.clo_has SS.free f1 k2, ?_, (rep_datv I1 ru rv).mono kq⟩
            obtain ⟨oc, e3, e4⟩ := k3
            exact ⟨oc, kp _ _ (fun z => by rw [z, hPs] at e3; cases e3; cases e4) e3, e4⟩
      have item : ∀ i v, its.toArray[i]? = some v → ∃ x0 ob, xs[i]? = some x0 ∧ gxOne (rhoC cv gv x x0) n ifs elt = some ob ∧ gxP (fun d => gxOne (rhoC cv gv x d) n ifs elt) xs i = ob.isSome := by
        intro i v hv
        obtain ⟨x0, hx0, _⟩ := dats.getV (i := i) (by simpa using hv)
        obtain ⟨ob, hob⟩ := htot i x0 (Nat.zero_le _) hx0
        refine ⟨x0, ob, hx0, hob, ?_⟩
        unfold gxP
        rw [hx0]
        show (match gxOne (rhoC cv gv x x0) n ifs elt with | some (some _) => true | _ => false) = ob.isSome
        rw [hob]
        cases ob <;> rfl
      refine ⟨fun A' E' i v s₂ m₂ hA hPv hn hm hk => ?_, fun A' E' i v s₂ m₂ hA hPv hp hn hm hk => ?_⟩
      · obtain ⟨x0, ob, hx0, hob, hpz⟩ := item i v hPv
        have qe := see s₂ m₂ i v x0 hx0 hPv hm hk
        obtain ⟨b, hb, hob⟩ := Option.bind_eq_some_iff.mp (show (gxTests (rhoC cv gv x x0) n ifs).bind _ = some ob from hob)
        have hbo : b = ob.isSome := by
          cases b
          · rw [if_neg Bool.false_ne_true] at hob
            cases hob
            rfl
          · rw [if_pos rfl] at hob
            obtain ⟨d, _, rfl⟩ := Option.map_eq_some_iff.mp hob
            rfl
        rw [hpz, ← hbo]
        match ifs, hb with
        | [], hb =>
          cases hb
          simp only [List.forIn_nil]
          exact wpAny_pure ⟨rfl, GxR.keeps_refl _⟩
        | [cnd], hb =>
          simp only [List.forIn_cons, List.forIn_nil, if_true]
          refine wpAny_bind (wpAny_bind ((q_go n).2.1 cnd b hb s₂ A' E' _ qe hn fun s3 k3 => ?_))
          exact wpAny_pure (wpAny_pure ⟨rfl, k3⟩)
      · obtain ⟨x0, ob, hx0, hob, hpz⟩ := item i v hPv
        have qe := see s₂ m₂ i v x0 hx0 hPv hm hk
        rw [hpz] at hp
        obtain ⟨b, hb, hob2⟩ := Option.bind_eq_some_iff.mp (show (gxTests (rhoC cv gv x x0) n ifs).bind _ = some ob from hob)
        cases b
        · rw [if_neg Bool.false_ne_true] at hob2
          cases hob2
          cases hp
        · rw [if_pos rfl] at hob2
          obtain ⟨d, hd, rfl⟩ := Option.map_eq_some_iff.mp hob2
          exact (q_go n).1 elt d hd s₂ A' E' _ qe hn fun y s3 dy k3 => ⟨⟨x0, d, hx0, hob, _, dy⟩, k3⟩
    · intro g h5 tk5 gs hgb hag hsz5 hk5 W5 hgat
      rw [hn0] at W5 hgat
      rw [hlen] at W5
      refine hQ ys H1 g _ q1 ⟨_, _, _, _, _, W5, hgat, ?_, List.mem_cons_self, fun i s9 h9 => ?_, ?_, fun s' hm => ?_⟩
      · intro b hb
        show b < h5.objs.size
        have e5 : h5.objs.size = g + 1 := hsz5
        have h8 : h3.objs.size < g := hag
        rw [e5]
        rcases List.mem_cons.mp hb with z | z
        · rw [z]
          exact Nat.lt_succ_self g
        · rcases List.mem_cons.mp z with z | z
          · rw [z]
            exact Nat.lt_succ_of_lt h8
          · have z2 := List.mem_range.mp z
            have h7 : b < h3.objs.size := z2
            exact Nat.lt_succ_of_lt (Nat.lt_trans h7 h8)
      · obtain ⟨hg9, _⟩ := h9
        exact hg9.typeIs
      · intro j y hy
        obtain ⟨i, hij, x0, d, hx0, hd, sc⟩ := hy
        obtain ⟨x1, d1, f1, f2, f3⟩ := hget j i hij
        rw [hx0] at f1
        cases f1
        rw [hd] at f2
        cases f2
        exact ⟨d, f3, sc⟩
      · obtain ⟨more, em⟩ := hmore
        have nwr : ∀ b u, s1.heap.get? b = some u → b ∉ h3.objs.size :: [s1.heap.objs.size] := fun b u e hb => by
          have hl := Heap.lt_size e
          rcases List.mem_cons.mp hb with z | z
          · rw [z] at hl
            have h9 : (h3.objs.size : Nat) < s1.heap.objs.size := hl
            omega
          · rw [List.mem_singleton.mp z] at hl
            exact Nat.lt_irrefl _ hl
        have J := GxR.inv_tab (more := more) (h' := s'.heap) (g' := s'.gens) (d' := s'.drawn) (t' := s'.toks) I1 hP (fun b u hb e => hm.heap b u (nwr b u e) (hk5 b u (keep3 b u hb e)))
          (by rw [← em]; exact hm.heap P _ (nwr P _ hPs) (hk5 P _ hP3)) (AllBare.movedS (I1.bare.push hgb) hm)
        rw [GxR.sh_eta s1 s' hm.os] at J
        exact ⟨upd H1 P (.tbl (ps ++ more)), ⟨⟨ps ++ more, upd_same, by rw [← em]; exact ht3⟩, fun b hb => upd_ne hb⟩, J⟩
  refine ⟨lim2, ?_⟩
  cases hf : codeAmong gpos ps.toList with
  | none =>
    refine wpAny_genexprCodeX hcode (cd.code hP2 ht) (cd.tab hP2) hf fun c' h' tk hx hge hlt hco' _ htab' _ => ?_
    obtain ⟨o1, vs, f1, tf, fl, tg, inF, tx, tt, op, _, _, _, _, _, _, _, _, _, htr, _⟩ := hco'
    exact cont _ h' tk _ hx (Nat.le_trans hge (Nat.le_of_lt hlt)) htab'.2 ⟨_, rfl⟩ htr
  | some cv =>
    refine wpAny_genexprCode_hit hcode (cd.code hP2 ht) hf ?_
    exact cont cv (s1.heap.push o) s1.toks ps (Heap.ExtBut.refl _ _) (Nat.le_refl _) hP2 ⟨#[], by simp⟩ ht
end
end Ev

/-! EvZ: sum, tuple, all, any of a generator expression: readings. -/
namespace Ev
open PySem PySem.Spec PyProof.Rows L2
abbrev GK := List D → (Rv → Prop) → Prop
def MonoK (k : GK) : Prop := ∀ ys (Q Q' : Rv → Prop), (∀ r, Q r → Q' r) → k ys Q → k ys Q'
def kSum : GK := fun ys Q => ∃ ns : List Int, ys = ns.map PyData.int ∧ PyProof.Rows.SumFits ns ∧ Q (.val (.int ns.sum))
def kTup : GK := fun ys Q => ys.all scalD = true ∧ ys.length ≤ sizeLine ∧ Q (.val (.tuple ys))
def kAll : GK := fun ys Q => ∃ bs : List Bool, ys = bs.map PyData.bool ∧ Q (.val (.bool (bs.all id)))
def kAny : GK := fun ys Q => ∃ bs : List Bool, ys = bs.map PyData.bool ∧ Q (.val (.bool (bs.any id)))
theorem kSum_mono : MonoK kSum := fun ys Q Q' h ⟨ns, e, f, q⟩ => ⟨ns, e, f, h _ q⟩
theorem kTup_mono : MonoK kTup := fun ys Q Q' h ⟨e, f, q⟩ => ⟨e, f, h _ q⟩
theorem kAll_mono : MonoK kAll := fun ys Q Q' h ⟨bs, e, q⟩ => ⟨bs, e, h _ q⟩
theorem kAny_mono : MonoK kAny := fun ys Q Q' h ⟨bs, e, q⟩ => ⟨bs, e, h _ q⟩
/-- a callee that drains a generator -/
def Drains (X : Cx) (f : Value) (k : GK) : Prop := ∀ (pins : List (Addr × Obj)) (σ : L2.St) (H1 : Hp) (P : Addr) (ys : List D) (g : Addr) (s5 : Shared) (Q : VK) (R : Rv → Prop), ReadyG X pins σ H1 P ys g s5 → k ys R →
  (∀ d, R (.val d) → ∀ v H', (∃ H2, GxR.Tabbed P H1 H2 ∧ ((H' = H2 ∧ ∀ Hh, Rep X.K Hh v d) ∨ ∃ p us ds, H2 p = none ∧ H' = upd H2 p (.tup us) ∧ v = .ref p ∧ d = .tuple ds ∧ ∀ Hh, Reps X.K Hh us ds)) → Q v H') →
  wpAny (model X.prog X.w) X.A (call f [.ref g]) (EP X pins σ Q) X.xe s5
section
variable {X : Cx}
theorem range_getD {α : Type} (l : List α) (a : α) : (List.range l.length).map (fun i => l.getD i a) = l := by
  refine List.ext_getElem? fun i => ?_
  rw [List.getElem?_map]
  by_cases h : i < l.length
  · rw [List.getElem?_range h, List.getElem?_eq_getElem h]
    show some (l.getD i a) = _
    rw [List.getD_eq_getElem?_getD, List.getElem?_eq_getElem h]
    rfl
  · rw [List.getElem?_eq_none (by simpa using h), List.getElem?_eq_none (by simpa using h)]
    rfl
theorem drains_sum : Drains X (.builtin "sum") kSum := by
  intro pins σ H1 P ys g s5 Q R ⟨fp, wr, G, F, St0, W, hst, hfp, hgf, hT, hF, hI⟩ ⟨ns, e, fits, hr⟩ hq
  subst e
  rw [List.length_map] at W
  have hF2 : ∀ i v, F i v → ∃ t, v = .int (ns.getD i 0) t := fun i v h => by
    obtain ⟨d, e1, hp, dv⟩ := hF i v h
    rw [List.getElem?_map] at e1
    cases e2 : ns[i]? with
    | none => rw [e2] at e1; cases e1
    | some m =>
      rw [e2] at e1
      cases e1
      rw [List.getD_eq_getElem?_getD, e2]
      cases dv
      exact ⟨_, rfl⟩
  refine call_sum_walkS (W.in4_1.self 0 _ _ _ hst ⟨g, fp, wr, G, _, F, St0, fun i => ns.getD i 0, rfl, W.in4_1, hst, hfp, hF2, fun j hj => ?_, fun s' t' hm => ?_⟩)
  · obtain ⟨h1, h2⟩ := fits j hj
    exact ⟨h1, by rw [preSum_getD]; exact h2⟩
  · obtain ⟨H2, tb, J⟩ := hI s' hm
    refine ⟨.int ns.sum, H2, J, ⟨t', ?_⟩, hq _ hr _ _ ⟨H2, tb, .inl ⟨rfl, fun _ => .int _⟩⟩⟩
    rw [preSum_getD, List.take_length]
theorem truth_of {F : Nat → Value → Prop} {bs : List Bool} (hF : ∀ j y, F j y → ∃ d, (bs.map PyData.bool)[j]? = some d ∧ ScalV y d) : TruthOf X.prog X.w X.A.in1 F fun i => bs.getD i false := by
  intro j y sj Qj Ej hy hQj
  obtain ⟨d, e1, hp, dv⟩ := hF j y hy
  rw [List.getElem?_map] at e1
  cases e2 : bs[j]? with
  | none => rw [e2] at e1; cases e1
  | some b =>
    rw [e2] at e1
    cases e1
    have hQ2 : Qj (bs.getD j false) sj := hQj
    rw [List.getD_eq_getElem?_getD, e2] at hQ2
    cases dv
    exact wpAny_truthy_bool hQ2
theorem drains_all : Drains X (.builtin "all") kAll := by
  intro pins σ H1 P ys g s5 Q R ⟨fp, wr, G, F, St0, W, hst, hfp, hgf, hT, hF, hI⟩ ⟨bs, e, hr⟩ hq
  subst e
  rw [List.length_map] at W
  refine call_all_walkS (W.in4_1.self 0 _ _ _ hst ⟨g, fp, wr, G, _, F, St0, fun i => bs.getD i false, rfl, W.in4_1, hst, truth_of hF, fun s' hm => ?_⟩)
  obtain ⟨H2, tb, J⟩ := hI s' hm
  have ea : ((List.range bs.length).all fun i => bs.getD i false) = bs.all id := by
    conv => rhs; rw [← range_getD bs false]
    rw [List.all_map]
    rfl
  refine ⟨.bl (bs.all id), H2, J, ?_, hq _ hr _ _ ⟨H2, tb, .inl ⟨rfl, fun _ => .bl _⟩⟩⟩
  rw [ea]
  rfl
theorem drains_any : Drains X (.builtin "any") kAny := by
  intro pins σ H1 P ys g s5 Q R ⟨fp, wr, G, F, St0, W, hst, hfp, hgf, hT, hF, hI⟩ ⟨bs, e, hr⟩ hq
  subst e
  rw [List.length_map] at W
  refine call_any_walkS (W.in4_1.self 0 _ _ _ hst ⟨g, fp, wr, G, _, F, St0, fun i => bs.getD i false, rfl, W.in4_1, hst, truth_of hF, fun s' hm => ?_⟩)
  obtain ⟨H2, tb, J⟩ := hI s' hm
  have ea : ((List.range bs.length).any fun i => bs.getD i false) = bs.any id := by
    conv => rhs; rw [← range_getD bs false]
    rw [List.any_map]
    rfl
  refine ⟨.bl (bs.any id), H2, J, ?_, hq _ hr _ _ ⟨H2, tb, .inl ⟨rfl, fun _ => .bl _⟩⟩⟩
  rw [ea]
  rfl
theorem drains_tup : Drains X (.type "tuple") kTup := by
  intro pins σ H1 P ys g s5 Q R ⟨fp, wr, G, F, St0, W, hst, hfp, hgf, hT, hF, hI⟩ ⟨hsc, hz, hr⟩ hq
  refine call_tuple_gen W.in4_3 hT hst hfp hgf (fun s' acc hm hacc => ?_) hz
  obtain ⟨H2, tb, J⟩ := hI s' hm
  have hal : acc.toList.length = ys.length := by rw [Array.length_toList]; exact hacc.1
  have hv : Vals (ys.map vOf) acc.toList := by
    have gen : ∀ (l : List Value) (zs : List D), l.length = zs.length → (∀ (j : Nat) v, l[j]? = some v → ∃ d, zs[j]? = some d ∧ ScalV v d) → zs.all scalD = true → Vals (zs.map vOf) l := by
      intro l
      induction l with
      | nil => intro zs hl _ _; cases zs with
        | nil => exact .nil
        | cons _ _ => cases hl
      | cons v r ih =>
        intro zs hl h hs
        cases zs with
        | nil => cases hl
        | cons d t =>
          rw [List.all_cons, Bool.and_eq_true] at hs
          obtain ⟨d', e, sc⟩ := h 0 v rfl
          cases e
          exact .cons (scal_rel sc hs.1).1 (ih t (by simpa using hl) (fun j v' e => by simpa using h (j + 1) v' (by simpa using e)) hs.2)
    exact gen _ _ hal (fun j v e => hF j v (hacc.2 j v (by simpa using e))) hsc
  have hzl : (ys.map vOf).length ≤ sizeLine := by rw [List.length_map]; exact hz
  have hp : H2 s'.heap.objs.size = none := J.fresh
  refine ⟨.ref s'.heap.objs.size, upd H2 s'.heap.objs.size (.tup (ys.map vOf)), ?_, rfl, hq _ hr _ _ ⟨H2, tb, .inr ⟨_, ys.map vOf, ys, hp, rfl, rfl, rfl, fun Hh => ?_⟩⟩⟩
  · refine J.laid (t' := s'.toks) (fun _ _ q => Heap.get?_push_of_some _ q) (Nat.le_refl _) ⟨hzl, acc.toList, hv, ?_⟩
    refine ⟨_, Heap.get?_push_size _ rfl, rfl, 0, ?_⟩
    simp
  · have : ∀ (zs : List D), zs.all scalD = true → Reps X.K Hh (zs.map vOf) zs := by
      intro zs
      induction zs with
      | nil => exact fun _ => .nil
      | cons d r ih =>
        intro h
        rw [List.all_cons, Bool.and_eq_true] at h
        refine .cons ?_ (ih h.2)
        cases d <;> first
          | exact .int _
          | exact .bl _
          | exact .str _
          | exact .non
          | cases h.1
    exact this ys hsc
end
/-! ### the reading -/
def seqD : D → Option (List D)
  | .list xs => some xs
  | .tuple xs => some xs
  | _ => none
def gAt (sd : Sd) (i : Nat) : Option D := match sd[i]? with
  | some (some (.dat d)) => some d
  | _ => none
def wGx (w : WT) (f : Sd → D → Option (Option D)) (k : GK) : WT := fun sd xp Q => sub w sd xp fun d sd1 => ∃ xs ys, seqD d = some xs ∧ gxAll (f sd1) xs = some ys ∧ k ys fun r => Q r sd1
theorem wGx_mono {w : WT} {f : Sd → D → Option (Option D)} {k : GK} (m : Mono w) (mk : MonoK k) : Mono (wGx w f k) := fun sd xp xp' Q Q' hx hq h =>
  sub_mono m hx (fun d s ⟨xs, ys, e1, e2, q⟩ => ⟨xs, ys, e1, e2, mk ys _ _ (fun r => hq r s) q⟩) h
section
variable {X : Cx} {P : Par}
theorem tabbed_same {Pt : Addr} {H1 H2 : Hp} (t : GxR.TabG H1 Pt) (h : GxR.Tabbed Pt H1 H2) : SameT H1 H2 := fun a => by
  by_cases e : a = Pt
  · obtain ⟨ps, e1, _⟩ := t
    obtain ⟨⟨qs, e2, g⟩, _⟩ := h
    intro o q
    rw [e, e1] at q
    cases q
    refine ⟨fun z => (by cases z), fun ps' z => ⟨qs, by rw [e]; exact e2, fun _ => g⟩⟩
  · rw [h.2 a e]; exact GoT.rfl
theorem je_gx {c Pt : Addr} {fv : Value} {fn : Str} {elt iter : Expr} {x z : Str} {px p pos gpos : Pos} {scope : Scope} {ifs : List Expr} {w : WT} {cv : Str → Option Nat} {n : Nat} {k : GK}
    (hh : X.A.handled = none) (hroom : X.A.depth < recursionLimit) (TB : GxR.TabB X.base X.mg c Pt) (hcode : X.env.code = .ref c) (hcl : P.cl.t z = some Pt) (S : GenF X scope x cv) (hi : JE X P iter w)
    (hs : ∀ v, genFold iter X.env v = pure v) (hd : Drains X fv k) (mk : MonoK k)
    (hcall : ∀ (pins : List (Addr × Obj)) (s : Shared) (σ : L2.St) (H : Hp) (Q : Value → Shared → Prop), Inv X pins σ H s → wpAny (model X.prog X.w) X.A (eval (.GeneratorExp elt [⟨.Name x px, iter, ifs, 0⟩] scope gpos) X.env) (fun v s1 => wpAny (model X.prog X.w) X.A (call fv [v]) Q X.xe s1) X.xe s →
      wpAny (model X.prog X.w) X.A (eval (.Call (.Name fn p) [.GeneratorExp elt [⟨.Name x px, iter, ifs, 0⟩] scope gpos] [] pos) X.env) Q X.xe s) :
    JE X P (.Call (.Name fn p) [.GeneratorExp elt [⟨.Name x px, iter, ifs, 0⟩] scope gpos] [] pos) (wGx w (fun sd d => gxOne (rhoC cv (gAt sd) x d) n ifs elt) k) := by
  refine ⟨⟨fun pins s σ H Q I h => ?_⟩, wGx_mono hi.mono mk⟩
  obtain ⟨F, sd, pv, pd, ok, R, h⟩ := h
  refine hcall pins s σ H _ I (gen_seq (n := n) (R := fun ys H1 => GxR.TabG H1 Pt ∧ ∃ R' : Rv → Prop, k ys R' ∧ ∀ r, R' r → ∃ sd1, F.R X.K σ H1 sd1 pv pd ∧ ∀ v H', F.RR X.K σ H' sd1 v r pv pd → Q v H') hh hroom TB hcode S hi.pe hs I ?_ fun ys H1 g s5 hR hG => ?_)
  · refine tl.sub hi ok R h fun d sd1 v H1 ⟨xs, ys, e1, e2, q⟩ R1 => ?_
    have tG : GxR.TabG H1 Pt := by
      obtain ⟨ow, W⟩ := R1
      exact tabG_go (W.fr Pt) (ok.tab z Pt hcl)
    have hg : ∀ i d0, gAt sd1 i = some d0 → ∃ v0, σ[i]? = some (some v0) ∧ Rep X.K H1 v0 d0 := fun i d0 e => by
      unfold gAt at e
      split at e
      · cases e
        rename_i e9
        obtain ⟨ow, W⟩ := R1
        obtain ⟨v0, h1, h2⟩ := W.sl i _ e9
        exact ⟨v0, h1, rep_mono (fun a o q => (hid_some.mp q).2.1) h2⟩
      · cases e
    have rp : Reps X.K H1 (v :: pv) (d :: pd) := R1.at
    cases rp with
    | cons rv _ =>
      have fin : ∀ (a : Addr) (us : List V), v = .ref a → (SqL X.K H1 a us ∨ SqT X.K H1 a us) → Reps X.K H1 us xs → _ := fun a us ev hsq hr => (⟨a, us, xs, ys, gAt sd1, ev, hsq, hr, tG, hg, e2, tG, _, q, fun r hr => ⟨sd1, R1.drop, hr⟩⟩ :
        ∃ (a : Addr) (us : List V) (xs ys : List D) (g : Nat → Option D), v = .ref a ∧ (SqL X.K H1 a us ∨ SqT X.K H1 a us) ∧ Reps X.K H1 us xs ∧ GxR.TabG H1 Pt ∧
          (∀ i d, g i = some d → ∃ v, σ[i]? = some (some v) ∧ Rep X.K H1 v d) ∧ gxAll (fun d => gxOne (rhoC cv g x d) n ifs elt) xs = some ys ∧ (GxR.TabG H1 Pt ∧ ∃ R' : Rv → Prop, k ys R' ∧ ∀ r, R' r → ∃ sd1, F.R X.K σ H1 sd1 pv pd ∧ ∀ v H', F.RR X.K σ H' sd1 v r pv pd → Q v H'))
      cases rv with
      | lst q rs => cases e1; exact fin _ _ rfl (.inl q) rs
      | tup q rs => cases e1; exact fin _ _ rfl (.inr (SqT.of q)) rs
      | _ => cases e1
  · obtain ⟨tG, R', kq, hR'⟩ := hR
    refine hd pins σ H1 Pt ys g s5 Q R' hG kq fun d hr v H' hv => ?_
    obtain ⟨sd1, R1, hQ⟩ := hR' _ hr
    obtain ⟨H2, tb, hv⟩ := hv
    have R2 := R1.stepT (tabbed_same tG tb)
    rcases hv with ⟨rfl, hrep⟩ | ⟨p, us, ds, hp, rfl, rfl, rfl, hrep⟩
    · exact hQ v _ (push R2 hrep)
    · refine hQ _ _ (RelP.new (vs := us) (ds := ds) (RelP.pend R2 fun Hh r => (hrep Hh).app r) (Reps.len (hrep (fun _ => none))) hp fun Hh e r => .tup e r)
end
end Ev

/-! EvJ: the reading of any body, off its text; it is sound. -/
namespace Ev
open PySem PySem.Spec PyProof.Rows L2

structure Tab where
  N : List Str
  sc : Scope
  pin : List Nat
  bi : List Str
  fn : Str → Option Fn
  gl : Str → Option D
  oc : Str → Bool
  tb : Option Str
def ixF (x : Str) : List Str → Nat → Option Nat
  | [], _ => none
  | y :: r, k => if y = x then some k else ixF x r (k + 1)
theorem ixF_get {x : Str} : ∀ {l : List Str} {k i : Nat}, ixF x l k = some i → k ≤ i ∧ l[i - k]? = some x
  | [], _, _, h => by cases h
  | y :: r, k, i, h => by
    unfold ixF at h
    by_cases e : y = x
    · rw [if_pos e] at h
      cases h
      exact ⟨Nat.le_refl _, by rw [Nat.sub_self, e]; rfl⟩
    · rw [if_neg e] at h
      obtain ⟨h1, h2⟩ := ixF_get h
      refine ⟨by omega, ?_⟩
      have e2 : i - k = (i - (k + 1)) + 1 := by omega
      rw [e2]
      exact h2
def ix (x : Str) (N : List Str) : Option Nat := ixF x N 0
theorem ix_get {x : Str} {N : List Str} {i : Nat} (h : ix x N = some i) : N[i]? = some x := by
  have := (ixF_get h).2
  simpa using this
def okName (x : Str) : Bool := !(x == ("__debug__" : Str)) && !(x == ("__classdict__" : Str)) && decide (x ≠ "__name__")
def Tab.var (T : Tab) (x : Str) : Option Nat := if okName x = true then (match T.sc.names.lookup x with
  | some .local => ix x T.N
  | some .cell => ix x T.N
  | some .free => ix x T.N
  | _ => none) else none
def Tab.loc (T : Tab) (x : Str) : Option Nat := if okName x = true then (match T.sc.names.lookup x with
  | some .local => ix x T.N
  | some .cell => if T.oc x = true then ix x T.N else none
  | _ => none) else none
/-- the block of a comprehension -/
def Tab.blk (T : Tab) (sc : Scope) : Tab := { T with sc := relS sc T.sc, oc := fun x => sc.names.lookup x == some .cell }
def Tab.glob (T : Tab) (x : Str) : Bool := okName x && (match T.sc.names.lookup x with | some .globalImplicit => true | _ => false)
/-- a built-in's name, as it stands in the module -/
def Tab.free (T : Tab) (x : Str) : Bool := T.glob x && decide (x ∈ T.bi)

def badT : WT := fun _ _ _ => False
def badC : WC := fun _ _ _ => False
def badA : WA := fun _ _ _ => False
def badI : WI := fun _ _ _ => False
def badG : WG := fun _ _ _ => False
def badGs : WGs := fun _ _ _ => False
def badS : WS := fun _ _ _ => False

def notStar : Expr → Bool
  | .Starred _ _ => false
  | _ => true
def notSet : Expr → Bool
  | .Set _ _ _ => false
  | _ => true
def notSlice : Expr → Bool
  | .Slice _ _ _ _ => false
  | _ => true
def plainTest : Expr → Bool
  | .UnaryOp _ _ _ => false
  | .BoolOp _ _ _ => false
  | .IfExp _ _ _ _ => false
  | .Compare _ _ _ _ => false
  | _ => true
def notComp : Expr → Bool
  | .ListComp _ _ _ _ => false
  | .SetComp _ _ _ _ => false
  | .DictComp _ _ _ _ _ => false
  | _ => true
def notTup : Expr → Bool
  | .Tuple _ _ _ => false
  | _ => true

def gOp : Operator → Option O2
  | .Add => some gAdd
  | .Sub => some (gI (fun _ _ => True) fun i j => i - j)
  | .Mult => some (gI CMul fun i j => i * j)
  | .FloorDiv => some (gI CDivW fun i j => i / j)
  | .Mod => some (gI (fun _ j => 0 < j) fun i j => i % j)
  | .Pow => some (gI CPow fun i j => i ^ j.toNat)
  | _ => none
def gCmp : CmpOp → Option O2
  | .Eq => some gEq
  | .NotEq => some gNe
  | .Lt => some (gB fun i j => decide (i < j))
  | .LtE => some (gB fun i j => decide (i ≤ j))
  | .Gt => some (gB fun i j => decide (j < i))
  | .GtE => some (gB fun i j => decide (j ≤ i))
  | .Is => some (gIs false)
  | .IsNot => some (gIs true)
  | .In => some (gIn false)
  | .NotIn => some (gIn true)
def gChn : CmpOp → Option (Int → Int → Bool)
  | .Lt => some fun i j => decide (i < j)
  | .LtE => some fun i j => decide (i ≤ j)
  | .Gt => some fun i j => decide (j < i)
  | .GtE => some fun i j => decide (j ≤ i)
  | _ => none

/-! ### the reading of a text -/
def biOf (x : Str) (n : Nat) : Option GB :=
  if x = "len" then (if n = 1 then some bLen else none)
  else if x = "abs" then (if n = 1 then some bAbs else none)
  else if x = "max" then (if n = 2 then some bMax2 else none)
  else if x = "min" then (if n = 2 then some bMin2 else none)
  else if x = "sorted" then (if n = 1 then some bSort else none)
  else none
def tyOf (x : Str) (n : Nat) : Option GB :=
  if x = "int" then (if n = 1 then some bInt else none)
  else if x = "tuple" then (if n = 1 then some bTup else none)
  else if x = "list" then (if n = 1 then some bLst else none)
  else none
def kindOf' (x : Str) : Option String :=
  if x = "int" then some "int" else if x = "bool" then some "bool" else if x = "str" then some "str" else if x = "tuple" then some "tuple" else if x = "list" then some "list" else none
/-- the targets' slots -/
def tsOf (T : Tab) : Nat → Expr → List Nat
  | 0, _ => []
  | n + 1, .Name x _ => match T.loc x with
    | some i => [i]
    | none => []
  | n + 1, .Tuple es _ _ => es.flatMap fun e => tsOf T n e
  | _ + 1, _ => []
def wGsL (f : Expr → WG) : List Expr → WGs
  | [] => wG0
  | e :: r => wG1 (f e) (wGsL f r)
def wTg (T : Tab) : Nat → Expr → WG
  | 0, _ => badG
  | n + 1, e => match e with
    | .Name x _ => match T.loc x with
      | some i => wTo T.pin i
      | none => badG
    | .Tuple es _ _ => if es.all notStar = true then wGT es.length (wGsL (fun e => wTg T n e) es) else badG
    | _ => badG
/-- a comprehension's own names and their slots -/
def ownOf (N : List Str) (sc : Scope) : List (Str × Nat) := sc.names.filterMap fun y => match y.2 with
  | .local => (ix y.1 N).map fun i => (y.1, i)
  | .cell => (ix y.1 N).map fun i => (y.1, i)
  | _ => none
def isFunK : ScopeKind → Bool
  | .function => true
  | _ => false
/-- a comprehension's block is in form -/
def lcOk (T : Tab) (n : Nat) (sc : Scope) (tg it : Expr) : Bool :=
  blkC T.N T.sc sc (ownOf T.N sc) && isFunK sc.kind && notSet it && (T.pin.all fun j => decide (j ∉ (ownOf T.N sc).map (·.2))) && ((tsOf (T.blk sc) n tg).all fun j => decide (j ∈ (ownOf T.N sc).map (·.2)))
/-- one plain clause -/
def lcParts : List Comprehension → Option (Expr × Expr × List Expr)
  | [g] => if g.is_async = 0 then some (g.target, g.iter, g.ifs) else none
  | _ => none
theorem lcParts_eq {gs : List Comprehension} {tg it : Expr} {ifs : List Expr} (h : lcParts gs = some (tg, it, ifs)) : gs = [⟨tg, it, ifs, 0⟩] := by
  match gs, h with
  | [⟨a, b, c, k⟩], h =>
    have h : (if k = 0 then some (a, b, c) else none) = some (tg, it, ifs) := h
    by_cases e : k = 0
    · rw [if_pos e] at h
      cases h
      rw [e]
    · rw [if_neg e] at h; cases h
  | [], h => cases h
  | _ :: _ :: _, h => cases h
def wSubF (T : Tab) (a b : Expr) (wa wb : WT) : WT := if notSlice b = true then (match a with
  | .Name x _ => match T.var x with
    | some i => wIxN i wb
    | none => wOp gIx wa wb
  | _ => wOp gIx wa wb) else badT
/-- o.m(e) of a name's list -/
def appParts : Expr → List Expr → List Keyword → Pos → Option (Str × Expr)
  | .Attribute (.Name x _) m ap, [a], [], cp => if (decide (m = "append") && (ap.endLine == cp.line) && notStar a) = true then some (x, a) else none
  | _, _, _, _ => none
/-! generator expressions that a call drains -/
def gxArg : List Expr → Option (Expr × Str × Expr × List Expr × Scope)
  | [.GeneratorExp elt [⟨.Name tg _, it, ifs, 0⟩] sc _] => some (elt, tg, it, ifs, sc)
  | _ => none
theorem gxArg_eq {args : List Expr} {elt : Expr} {tg : Str} {it : Expr} {ifs : List Expr} {sc : Scope} (h : gxArg args = some (elt, tg, it, ifs, sc)) : ∃ px gpos, args = [.GeneratorExp elt [⟨.Name tg px, it, ifs, 0⟩] sc gpos] := by
  unfold gxArg at h
  split at h
  · cases h; exact ⟨_, _, rfl⟩
  · cases h
def gxFn (x : Str) : Option GK := if x = "sum" then some kSum else if x = "tuple" then some kTup else if x = "all" then some kAll else if x = "any" then some kAny else none
def plainIt : Expr → Bool
  | .Set _ _ _ => false
  | .List _ _ => false
  | _ => true
def gxOk (T : Tab) (x : Str) (sc : Scope) (tg : Str) (it : Expr) : Bool :=
  T.free x && T.tb.isSome && isFunK sc.kind && !sc.isCoroutine && sc.names.all (fun y => !(y.2 == .cell)) && (sc.names.lookup (".0" : Str) == some .local) && (sc.names.lookup tg == some .local) &&
    sc.names.all (fun y => !(y.2 == .free) || (T.sc.names.lookup y.1 == some .cell || T.sc.names.lookup y.1 == some .free)) && plainIt it
def cvOf (T : Tab) (sc : Scope) (tg y : Str) : Option Nat := if y = tg then none else if (sc.names.lookup y == some .free) = true then (match T.sc.names.lookup y with
  | some .cell => ix y T.N
  | some .free => ix y T.N
  | _ => none) else none
mutual
def wE (T : Tab) : Nat → Expr → WT
  | 0, _ => badT
  | n + 1, e => match e with
    | .Name x _ => match T.var x with
      | some i => wVar i
      | none => if T.glob x = true then (match T.gl x with
        | some d => wC d
        | none => badT) else badT
    | .Constant (.int i) _ _ => wC (.int i)
    | .Constant (.bool b) _ _ => wC (.bool b)
    | .Constant .none _ _ => wC .none
    | .Constant (.str x) _ _ => wC (.str x)
    | .BinOp a op b _ => match gOp op with
      | some g => wOp g (wE T n a) (wE T n b)
      | none => badT
    | .UnaryOp .Not a _ => wNotV (wE T n a)
    | .UnaryOp .USub a _ => wNeg (wE T n a)
    | .BoolOp op es _ => wBV T n op es
    | .Compare a [op] [b] _ => if behindInMarks op b = false then (match gCmp op with
      | some g => wOp g (wE T n a) (wE T n b)
      | none => badT) else badT
    | .Compare a [op, op'] [b, c] _ => if lastMarks [op, op'] [b, c] = false then (match gChn op, gChn op' with
      | some f, some f' => wCh (gB f) (gB f') (wE T n a) (wE T n b) (wE T n c)
      | _, _ => badT) else badT
    | .IfExp c a b _ => wIf (wCd T n c) (wE T n a) (wE T n b)
    | .Tuple es _ _ => if es.all notStar = true then wTup (wAs T n false es) else badT
    | .List es _ => if es.all notStar = true then wLst (wAs T n false es) else badT
    | .Dict [] [] _ => wDic
    | .Subscript a (.Slice lo hi none _) _ => wSl (wE T n a) (wPt T n lo) (wPt T n hi)
    | .Subscript a b _ => wSubF T a b (wE T n a) (wE T n b)
    | .ListComp elt gs sc _ => match lcParts gs with
      | some (tg, it, ifs) => wLcE T n elt tg it ifs sc
      | none => badT
    | .Call (.Name x _) args [] _ => match gxArg args with
      | some (elt, tg, it, ifs, sc) => (match gxFn x with
        | some k => if gxOk T x sc tg it = true then wGx (wE T n it) (fun sd d => gxOne (rhoC (cvOf T sc tg) (gAt sd) tg d) n ifs elt) k else badT
        | none => badT)
      | none => if args.all notStar = true then (
        if T.free x = true then (
          if x = "isinstance" then (match args with
            | [a, .Name t _] => if T.free t = true then (match kindOf' t with
              | some k => wIsi k (wE T n a)
              | none => badT) else badT
            | _ => badT)
          else match biOf x args.length, tyOf x args.length with
            | some g, _ => wBi g (wAs T n true args)
            | none, some g => wBi g (wAs T n true args)
            | none, none => badT)
        else if T.glob x = true then (match T.fn x with
          | some f => if args.isEmpty = true then badT else wCall f (wAs T n true args)
          | none => badT)
        else badT) else badT
    | .Call (.Name x _) [] (kw :: kws) _ => if T.glob x = true then (match T.fn x with
        | some f => match f.kw.find? (fun q => decide (q.1 = (kw :: kws).filterMap (·.arg))) with
          | some q => if (kw :: kws).all (fun k => k.arg.isSome) = true then wCallK f q.2 (wKs T n (kw :: kws)) else badT
          | none => badT
        | none => badT) else badT
    | .Call (.Attribute o m ap) args kws cp => match appParts (.Attribute o m ap) args kws cp with
      | some (x, a) => match T.var x with
        | some i => wApp i (wE T n a)
        | none => badT
      | none => badT
    | _ => badT
def wLcE (T : Tab) : Nat → Expr → Expr → Expr → List Expr → Scope → WT
  | 0, _, _, _, _, _ => badT
  | n + 1, elt, tg, it, ifs, sc =>
    if lcOk T n sc tg it = true then wLc (wIt T n it) ((ownOf T.N sc).map (·.2)) (wTg (T.blk sc) n tg) (wTs (T.blk sc) n ifs) (wE (T.blk sc) n elt) else badT
def wTs (T : Tab) : Nat → List Expr → WC
  | 0, _ => badC
  | n + 1, es => match es with
    | [] => wYes
    | [c] => wCd T n c
    | _ => badC
def wPt (T : Tab) : Nat → Option Expr → WO
  | 0, _ => fun _ _ _ => False
  | n + 1, e => match e with
    | none => noPart
    | some a => part (wE T n a)
def wBV (T : Tab) : Nat → BoolOp → List Expr → WT
  | 0, _, _ => badT
  | n + 1, op, es => match op, es with
    | _, [a] => wE T n a
    | .And, a :: b :: r => wAndV (wE T n a) (wBV T n .And (b :: r))
    | .Or, a :: b :: r => wOrV (wE T n a) (wBV T n .Or (b :: r))
    | _, [] => badT
def wCd (T : Tab) : Nat → Expr → WC
  | 0, _ => badC
  | n + 1, e => match e with
    | .UnaryOp .Not a _ => wNotC (wCd T n a)
    | .BoolOp op es _ => wBC T n op es
    | .Compare _ _ _ _ => wBl (wE T n e)
    | .IfExp _ _ _ _ => badC
    | .UnaryOp _ _ _ => badC
    | _ => wTru (wE T n e)
def wBC (T : Tab) : Nat → BoolOp → List Expr → WC
  | 0, _, _ => badC
  | n + 1, op, es => match op, es with
    | _, [a] => wCd T n a
    | .And, a :: b :: r => wAndC (wCd T n a) (wBC T n .And (b :: r))
    | .Or, a :: b :: r => wOrC (wCd T n a) (wBC T n .Or (b :: r))
    | _, [] => badC
def wAs (T : Tab) : Nat → Bool → List Expr → WA
  | 0, _, _ => badA
  | n + 1, h, es => match es with
    | [] => wNil
    | .Name x p :: r => match h, T.var x with
      | true, some i => wHand i (wAs T n h r)
      | _, _ => wDat (wE T n (.Name x p)) (wAs T n h r)
    | e :: r => wDat (wE T n e) (wAs T n h r)
def wKs (T : Tab) : Nat → List Keyword → WA
  | 0, _ => badA
  | n + 1, ks => match ks with
    | [] => wNil
    | k :: r => wDat (wE T n k.value) (wKs T n r)
def wIt (T : Tab) : Nat → Expr → WI
  | 0, _ => badI
  | n + 1, e => match e with
    | .Call (.Name x _) args [] _ => if x = "range" then (if T.free x = true then (if args.all notStar = true then (match args with
        | [_] => wRange1 (wAs T n true args)
        | [_, _] => wRange2 (wAs T n true args)
        | _ => badI) else badI) else badI) else wItems (wE T n e)
    | _ => wItems (wE T n e)
end
def ipOf : Operator → Option (Int → Int → Int)
  | .Add => some fun i j => i + j
  | .Sub => some fun i j => i - j
  | _ => none
/-- a, b = e1, e2 with plain local names, neither side of which is folded -/
def parOk (T : Tab) (ts vs : List Expr) : Option (List Str) :=
  match ts, vs with
  | [.Name x px, .Name y py], [a, b] =>
    if (notStar a && notStar b && decide (T.sc.names.lookup x = some .local) && decide (T.sc.names.lookup y = some .local) && px.line == py.line && decide (x ≠ y) && !([a, b].all (foldedForSure 8)) && !([a, b].all (constantsAlone 8))) = true then some [x, y] else none
  | _, _ => none
/-- the same with three names -/
def par3Ok (T : Tab) (ts vs : List Expr) : Option (List Str) :=
  match ts, vs with
  | [.Name x px, .Name y py, .Name z pz], [a, b, c] =>
    if (notStar a && notStar b && notStar c && decide (T.sc.names.lookup x = some .local) && decide (T.sc.names.lookup y = some .local) && decide (T.sc.names.lookup z = some .local) && px.line == py.line && px.line == pz.line && decide (x ≠ y) && decide (x ≠ z) && decide (y ≠ z) && !([a, b, c].all (foldedForSure 8)) && !([a, b, c].all (constantsAlone 8))) = true then some [x, y, z] else none
  | _, _ => none
/-- a tuple's display stored as any tuple is -/
def noSw (T : Tab) (ts vs : List Expr) : Bool := !(ts.length == 2 || ts.length == 3) || vs.length != ts.length || (ts.any fun t => match t with
  | .Name x _ => !(T.sc.names.lookup x == some .local)
  | _ => true) || vs.all (foldedForSure 8)
mutual
def wSt (T : Tab) : Nat → Stmt → WS
  | 0, _ => badS
  | n + 1, s => match s with
    | .Pass _ => wNext
    | .Break _ => wBrk
    | .Continue _ => wCnt
    | .Return none _ => wRetN
    | .Return (some (.Name x p)) _ => match T.var x with
      | some i => wRet (wTake T.pin i)
      | none => wRet (wE T n (.Name x p))
    | .Return (some e) _ => wRet (wE T n e)
    | .Expr e _ => if notComp e = true then wDrop (wE T n e) else badS
    | .If c a b _ => wIfS (wCd T n c) (wSs T n a) (wSs T n b)
    | .For tg it b [] _ => if notSet it = true then wFor (wIt T n it) (wTg T n tg) (wSs T n b) else badS
    | .While c b [] _ => wWhile (wCd T n c) (wSs T n b)
    | .AugAssign (.Name x _) op e _ => match T.loc x, ipOf op with
      | some i, some f => wAug T.pin i f (wE T n e)
      | _, _ => badS
    | .AugAssign (.Subscript (.Name x _) k _) op e _ => if notSlice k = true then (match T.var x, ipOf op with
      | some i, some f => wAugS i f (wE T n k) (wE T n e)
      | _, _ => badS) else badS
    | .Assign tgs e _ => match tgs with
      | [tg] => match tg with
        | .Name x px => match e with
          | .ListComp elt gs sc lp => match lcParts gs with
            | some (tg, it, ifs) => match T.loc x with
              | some i => if (decide (T.sc.names.lookup x = some .local) && (px.line == lp.line) && !(sc.names.any fun y => y.1 == x && (y.2 == .local || y.2 == .cell))) = true then wSet T.pin i (wLcE T n elt tg it ifs sc)
                else if decide (T.sc.names.lookup x = some .cell) = true then wSet T.pin i (wLcE T n elt tg it ifs sc) else badS
              | none => badS
            | none => badS
          | e => if notComp e = true then (match T.loc x with
            | some i => wSet T.pin i (wE T n e)
            | none => badS) else badS
        | .Tuple ts k p => match e with
          | .Tuple vs k2 p2 => match parOk T ts vs with
            | some [x, y] => match T.loc x, T.loc y with
              | some i, some j => wPar T.pin i j (wAs T n false vs)
              | _, _ => badS
            | _ => match par3Ok T ts vs with
              | some [x, y, z] => match T.loc x, T.loc y, T.loc z with
                | some i, some j, some l => wPar3 T.pin i j l (wAs T n false vs)
                | _, _, _ => badS
              | _ => if noSw T ts vs = true then wAsg (wE T n (.Tuple vs k2 p2)) (wTg T n (.Tuple ts k p)) else badS
          | e => if (notComp e && notTup e) = true then wAsg (wE T n e) (wTg T n (.Tuple ts k p)) else badS
        | .Subscript (.Name x _) k _ => if (notComp e && notSlice k) = true then (match T.var x with
          | some i => wPut i (wE T n e) (wE T n k)
          | none => badS) else badS
        | _ => badS
      | _ => badS
    | _ => badS
def wSs (T : Tab) : Nat → List Stmt → WS
  | 0, _ => badS
  | n + 1, ss => match ss with
    | [] => wNext
    | s :: r => wSeq (wSt T n s) (wSs T n r)
end
end Ev

/-! EvK: the reading is sound. -/
namespace Ev
open PySem PySem.Spec PyProof.Rows L2
structure Cok (T : Tab) (X : Cx) (P : Par) : Prop where
  N : X.N = T.N
  sc : X.env.scope = T.sc
  kind : T.sc.kind = .function
  nd : T.N.Nodup
  calm : X.calm = true
  pin : P.pin = T.pin
  bi : ∀ x ∈ T.bi, X.mg x = none
  fn : ∀ x f, T.fn x = some f → Has X P x f
  gl : ∀ x d, T.gl x = some d → ∃ v u, X.mg x = some u ∧ RelV v u ∧ ∀ Hh, Rep X.K Hh v d
  own : ∀ x, T.oc x = true → X.fn x = true
  hu : X.A.units + 64 < cLine
  po : PassesOwn (model X.prog X.w) X.A X.env X.xe
  rm : X.A.handled = none ∧ X.A.depth < recursionLimit
  tb : ∀ z, T.tb = some z → ∃ c Pt, GxR.TabB X.base X.mg c Pt ∧ X.env.code = .ref c ∧ P.cl.t z = some Pt
section
variable {X : Cx} {P : Par} {T : Tab}
theorem je_bad {e : Expr} : JE X P e badT := ⟨⟨fun pins s σ H Q I h => by obtain ⟨F, sd, pv, pd, ok, R, h⟩ := h; exact h.elim⟩, fun _ _ _ _ _ _ _ h => h⟩
theorem jc_bad {e : Expr} : JC X P e badC := ⟨⟨fun pins s σ H Q I h => by obtain ⟨F, sd, pv, pd, ok, R, h⟩ := h; exact h.elim⟩, fun _ _ _ _ _ _ _ h => h⟩
theorem jw_bad {e : Expr} : JW X P e badC := ⟨⟨fun wh pins s σ H Q I h => by obtain ⟨F, sd, pv, pd, ok, R, h⟩ := h; exact h.elim⟩, fun _ _ _ _ _ _ _ h => h⟩
theorem ja_bad {es : List Expr} : JA X P es badA := ⟨⟨fun pos pins s σ H Q I h => by obtain ⟨F, sd, pv, pd, ok, R, h⟩ := h; exact h.elim⟩, fun _ _ _ _ _ _ _ h => h⟩
theorem jk_bad {ks : List Keyword} : JK X P ks badA := ⟨⟨fun pos pins s σ H Q I h => by obtain ⟨F, sd, pv, pd, ok, R, h⟩ := h; exact h.elim⟩, fun _ _ _ _ _ _ _ h => h⟩
theorem ji_bad {tg e : Expr} : JI X P tg e badI := ⟨⟨fun pins s σ H Q I h => by obtain ⟨F, sd, pv, pd, ok, R, h⟩ := h; exact h.elim⟩, fun _ _ _ _ _ _ _ h => h⟩
theorem jt_bad {es : List Expr} : JT X P es badC := ⟨⟨fun pins s σ H Q I h => by obtain ⟨F, sd, pv, pd, ok, R, h⟩ := h; exact h.elim⟩, fun _ _ _ _ _ _ _ h => h⟩
theorem jo_bad {e : Option Expr} : JO X P e (fun _ _ _ => False) := ⟨⟨fun pins s σ H Q I h => by obtain ⟨F, sd, pv, pd, ok, R, h⟩ := h; exact h.elim⟩, fun _ _ _ _ _ _ _ h => h⟩
theorem jg_bad {e : Expr} {ts : List Nat} : JG X P e ts badG := ⟨⟨fun pins s σ H v u Q I r h => by obtain ⟨F, sd, pv, pd, d, ok, hl, R, h⟩ := h; exact h.elim⟩, fun _ _ _ _ _ h => h⟩
theorem jgs_bad {es : List Expr} {ts : List Nat} : JGs X P es ts badGs := ⟨⟨fun pins s σ H v u Q I r h => by obtain ⟨F, sd, pv, pd, d, ok, hl, hv, R, h⟩ := h; exact h.elim⟩, fun _ _ _ _ _ h => h⟩
theorem js_bad {s : Stmt} : JS X P s badS := ⟨⟨fun pins s σ H D I h => by obtain ⟨F, sd, pv, pd, A, ok, R, en, h⟩ := h; exact h.elim⟩, fun _ _ _ _ _ _ _ h => h⟩
theorem jss_bad {s : List Stmt} : JSs X P s badS := ⟨⟨fun pins s σ H D I h => by obtain ⟨F, sd, pv, pd, A, ok, R, en, h⟩ := h; exact h.elim⟩, fun _ _ _ _ _ _ _ h => h⟩

theorem star_of {e : Expr} (h : notStar e = true) (es : List Expr) (env : Env) : starEach (e :: es) env = (false, eval e env) :: starEach es env := by
  cases e <;> first
    | rfl
    | cases h
theorem nostar : ∀ {es : List Expr} (env : Env) (pos : Pos), es.all notStar = true → (backTo pos (starEach es env)).any (·.1) = false
  | [], _, _, _ => rfl
  | e :: es, env, pos, h => by
    rw [List.all_cons, Bool.and_eq_true] at h
    rw [star_of h.1]
    show (false || (backTo pos (starEach es env)).any (·.1)) = false
    rw [nostar env pos h.2]
    rfl
theorem set_of {e : Expr} (h : notSet e = true) (env : Env) : ∀ x, foldedSetIterable e env x = pure x := by
  intro x
  cases e <;> first
    | rfl
    | cases h
theorem slice_of {e : Expr} (h : notSlice e = true) : PlainIx e := by
  intro o i
  cases e <;> first
    | rfl
    | cases h
theorem aug_of {e : Expr} (h : notSlice e = true) : ∀ ov iv new, augStore e ov iv new = (do holding [new, ov, iv] (setItem ov iv new); release [new, ov, iv] []; pure .next) := by
  intro ov iv new
  cases e <;> first
    | rfl
    | cases h
theorem comp_of {e : Expr} (h : notComp e = true) (t : Option Expr) (l : Nat) (env : Env) : swapsWith e t l env = pure false := by
  cases e <;> first
    | rfl
    | cases h
theorem comp_sole {e : Expr} (h : notComp e = true) (t : Expr) (l : Nat) (env : Env) : swapsWithSole [t] e l env = pure false := comp_of h _ l env
theorem name_ok {x : Str} (h : okName x = true) : (x == ("__debug__" : Str)) = false ∧ (x == ("__classdict__" : Str)) = false ∧ x ≠ "__name__" := by
  unfold okName at h
  simp only [Bool.and_eq_true, Bool.not_eq_true', decide_eq_true_eq] at h
  exact ⟨h.1.1, h.1.2, h.2⟩
theorem var_ok (c : Cok T X P) {x : Str} {i : Nat} (h : T.var x = some i) : X.N[i]? = some x ∧ Vis X.env.scope x ∧ (x == ("__debug__" : Str)) = false ∧ (x == ("__classdict__" : Str)) = false := by
  unfold Tab.var at h
  by_cases hk : okName x = true
  · rw [if_pos hk] at h
    obtain ⟨h1, h2, _⟩ := name_ok hk
    rw [c.N]
    unfold Vis
    rw [c.sc]
    split at h
    · rename_i e; exact ⟨ix_get h, .inl e, h1, h2⟩
    · rename_i e; exact ⟨ix_get h, .inr (.inl e), h1, h2⟩
    · rename_i e; exact ⟨ix_get h, .inr (.inr e), h1, h2⟩
    · cases h
  · rw [if_neg hk] at h; cases h
theorem loc_ok (c : Cok T X P) {x : Str} {i : Nat} (h : T.loc x = some i) : X.N.Nodup ∧ X.N[i]? = some x ∧ L2.Loc X.env.scope x ∧ (X.fn x = true ∨ X.env.scope.names.lookup x = some .local) := by
  unfold Tab.loc at h
  by_cases hk : okName x = true
  · rw [if_pos hk] at h
    have hN : X.N.Nodup := by rw [c.N]; exact c.nd
    have ow := c.own x
    refine ⟨hN, ?_⟩
    rw [c.N]
    unfold L2.Loc
    rw [c.sc]
    split at h
    · rename_i e; exact ⟨ix_get h, .inl e, .inr e⟩
    · rename_i e
      by_cases ho : T.oc x = true
      · rw [if_pos ho] at h
        exact ⟨ix_get h, .inr e, .inl (ow ho)⟩
      · rw [if_neg ho] at h; cases h
    · cases h
  · rw [if_neg hk] at h; cases h
theorem glob_ok (c : Cok T X P) {x : Str} (h : T.glob x = true) : Gl X x ∧ (x == ("__debug__" : Str)) = false ∧ x ≠ "__name__" := by
  unfold Tab.glob at h
  rw [Bool.and_eq_true] at h
  obtain ⟨h1, _, h3⟩ := name_ok h.1
  refine ⟨?_, h1, h3⟩
  show X.env.scope.names.lookup x = some .globalImplicit
  rw [c.sc]
  have h2 := h.2
  split at h2
  · assumption
  · cases h2
theorem free_ok (c : Cok T X P) {x : Str} (h : T.free x = true) : Gl X x ∧ X.mg x = none ∧ (x == ("__debug__" : Str)) = false ∧ x ≠ "__name__" := by
  unfold Tab.free at h
  rw [Bool.and_eq_true] at h
  obtain ⟨h1, h2, h3⟩ := glob_ok c h.1
  exact ⟨h1, c.bi x (of_decide_eq_true h.2), h2, h3⟩
/-- the block of a comprehension -/
theorem blk_ok (c : Cok T X P) {sc : Scope} (hk : sc.kind = .function) (s : Shared) (H : Hp) (C : Addr) (cl : List (Str × Addr)) (fp : List Addr) : Cok (T.blk sc) (X.blk s H sc (compEnvC sc cl C X.env) fp) (P0 P) := by
  refine ⟨c.N, ?_, hk, c.nd, c.calm, c.pin, c.bi, fun x f h => ?_, c.gl, fun x h => h, c.hu, PassesOwn.never, c.rm, c.tb⟩
  · show relabel sc X.env = relS sc T.sc
    rw [← c.sc]
    rfl
  · have hf := c.fn x f h
    obtain ⟨CX, k, a, fd, sp, h1, h2, h3, h4, h5, h6, h7, h8, h9, h10⟩ := hf.ok
    exact ⟨hf.mono, CX, k, a, fd, sp, h1, h2, h3, h4, h5, h9 _ rfl rfl, h8, h8, fun X' e1 e2 => h9 X' e1 e2, h10⟩
theorem op_ok {op : Operator} {g : O2} (h : gOp op = some g) : ∃ r, OpR X (binaryOp op) r ∧ Obeys X r g ∧ MonoO g := by
  cases op <;> simp only [gOp, Option.some.injEq, reduceCtorEq] at h <;> subst h
  · exact ⟨_, op_addD, ob_add, gAdd_mono⟩
  · exact ⟨_, op_sub, ob_I0, gI_mono⟩
  · exact ⟨_, op_mul, ob_I, gI_mono⟩
  · exact ⟨_, op_mod, ob_I, gI_mono⟩
  · exact ⟨_, op_pow, ob_I, gI_mono⟩
  · exact ⟨_, op_fdivW, ob_I, gI_mono⟩
theorem cmp_ok (hu : X.A.units + 64 < cLine) {op : CmpOp} {g : O2} (h : gCmp op = some g) : ∃ r, OpR X (compareOp op) r ∧ Obeys X r g ∧ MonoO g := by
  cases op <;> simp only [gCmp, Option.some.injEq, reduceCtorEq] at h <;> subst h
  · exact ⟨_, op_eqD hu, ob_eq, gEq_mono⟩
  · exact ⟨_, op_neD hu, ob_ne, gNe_mono⟩
  · exact ⟨_, op_lt, ob_B, gB_mono⟩
  · exact ⟨_, op_le, ob_B, gB_mono⟩
  · exact ⟨_, op_gt, ob_B, gB_mono⟩
  · exact ⟨_, op_ge, ob_B, gB_mono⟩
  · exact ⟨_, op_isD, rIs_of, gIs_mono⟩
  · exact ⟨_, op_isnotD, rIs_of, gIs_mono⟩
  · exact ⟨_, op_in_seq, ob_in, gIn_mono⟩
  · exact ⟨_, op_notIn_seq, ob_in, gIn_mono⟩
theorem chn_ok {op : CmpOp} {f : Int → Int → Bool} (h : gChn op = some f) : OpR X (compareOp op) (rI0 fun i j => .bl (f i j)) := by
  cases op <;> simp only [gChn, Option.some.injEq, reduceCtorEq] at h <;> subst h
  · exact op_lt
  · exact op_le
  · exact op_gt
  · exact op_ge
theorem bi_ok (hc : X.calm = true) {x : Str} {n : Nat} {g : GB} (h : biOf x n = some g) : ∃ r id, CallR X (.builtin id) r ∧ ObeysB X r g ∧ MonoB g ∧ bootBuiltins x = some (.builtin id) := by
  unfold biOf at h
  by_cases e : x = "len"
  · rw [if_pos e] at h
    subst e
    split at h <;> cases h
    exact ⟨_, "len", call_len, ob_len, bLen_mono, PySem.boot_len⟩
  · rw [if_neg e] at h
    by_cases e : x = "abs"
    · rw [if_pos e] at h
      subst e
      split at h <;> cases h
      exact ⟨_, "abs", call_abs, ob_abs, bAbs_mono, by decide +kernel⟩
    · rw [if_neg e] at h
      by_cases e : x = "max"
      · rw [if_pos e] at h
        subst e
        split at h <;> cases h
        exact ⟨_, "max", call_max2 hc, ob_max2, bMax2_mono, by decide +kernel⟩
      · rw [if_neg e] at h
        by_cases e : x = "min"
        · rw [if_pos e] at h
          subst e
          split at h <;> cases h
          exact ⟨_, "min", call_min2 hc, ob_min2, bMin2_mono, by decide +kernel⟩
        · rw [if_neg e] at h
          by_cases e : x = "sorted"
          · rw [if_pos e] at h
            subst e
            split at h <;> cases h
            exact ⟨_, "sorted", cr_sortedAll hc, ob_sort, bSort_mono, by decide +kernel⟩
          · rw [if_neg e] at h; cases h
theorem ty_ok {x : Str} {n : Nat} {g : GB} (h : tyOf x n = some g) : ∃ r T, CallR X (.type T) r ∧ ObeysB X r g ∧ MonoB g ∧ bootBuiltins x = some (.type T) := by
  unfold tyOf at h
  by_cases e : x = "int"
  · rw [if_pos e] at h
    subst e
    split at h <;> cases h
    exact ⟨_, "int", call_int1, ob_int, bInt_mono, by decide +kernel⟩
  · rw [if_neg e] at h
    by_cases e : x = "tuple"
    · rw [if_pos e] at h
      subst e
      split at h <;> cases h
      exact ⟨_, "tuple", call_tuple_of, ob_tup, bTup_mono, by decide +kernel⟩
    · rw [if_neg e] at h
      by_cases e : x = "list"
      · rw [if_pos e] at h
        subst e
        split at h <;> cases h
        exact ⟨_, "list", call_list_of, ob_lst, bLst_mono, by decide +kernel⟩
      · rw [if_neg e] at h; cases h
theorem kind_ok {x : Str} {k : String} (h : kindOf' x = some k) : k ∈ kinds ∧ bootBuiltins x = some (.type k) := by
  unfold kindOf' at h
  by_cases e : x = "int"
  · rw [if_pos e] at h; subst e; cases h; exact ⟨by decide, by decide +kernel⟩
  · rw [if_neg e] at h
    by_cases e : x = "bool"
    · rw [if_pos e] at h; subst e; cases h; exact ⟨by decide, by decide +kernel⟩
    · rw [if_neg e] at h
      by_cases e : x = "str"
      · rw [if_pos e] at h; subst e; cases h; exact ⟨by decide, by decide +kernel⟩
      · rw [if_neg e] at h
        by_cases e : x = "tuple"
        · rw [if_pos e] at h; subst e; cases h; exact ⟨by decide, by decide +kernel⟩
        · rw [if_neg e] at h
          by_cases e : x = "list"
          · rw [if_pos e] at h; subst e; cases h; exact ⟨by decide, by decide +kernel⟩
          · rw [if_neg e] at h; cases h
theorem je_glob {x : Str} {pos : Pos} {d : D} (hg : Gl X x) (hdb : (x == ("__debug__" : Str)) = false) (h : ∃ v u, X.mg x = some u ∧ RelV v u ∧ ∀ Hh, Rep X.K Hh v d) : JE X P (.Name x pos) (wC d) := by
  obtain ⟨v, u, hm, r, hd⟩ := h
  exact ⟨(pe_glob hg hm r hdb).imp fun σ H Q ⟨F, sd, pv, pd, ok, R, h⟩ => h v H (push (X := X) R hd), wC_mono d⟩
theorem tests_of {e : Expr} (h : plainTest e = true) (env : Env) : ∀ whole, isTrue e env whole = (do let v ← whole; standAt e.pos; holding [v] (truthy v)) := by
  intro whole
  cases e <;> first
    | rfl
    | cases h

/-! ### targets -/
theorem asgE_of {e : Expr} (h : notStar e = true) (es : List Expr) (env : Env) : assignEach (e :: es) env = (false, assign e env) :: assignEach es env := by
  cases e <;> first
    | rfl
    | cases h
theorem asgE_len : ∀ {es : List Expr} (env : Env), es.all notStar = true → (assignEach es env).length = es.length ∧ (assignEach es env).findIdx? (·.1) = none
  | [], _, _ => ⟨rfl, rfl⟩
  | e :: es, env, h => by
    rw [List.all_cons, Bool.and_eq_true] at h
    obtain ⟨h1, h2⟩ := asgE_len env h.2
    rw [asgE_of h.1]
    refine ⟨by rw [List.length_cons, List.length_cons, h1], ?_⟩
    rw [List.findIdx?_cons, h2]
    rfl
theorem gs_sound {f : Expr → WG} {t : Expr → List Nat} (hf : ∀ e, JG X P e (t e) (f e)) : ∀ es : List Expr, es.all notStar = true → JGs X P es (es.flatMap t) (wGsL f es)
  | [], _ => jgs_nil
  | e :: es, h => by
    rw [List.all_cons, Bool.and_eq_true] at h
    refine jgs_cons (hf e) (gs_sound hf es h.2) ?_
    rw [asgE_of h.1]
    rfl
theorem tg_sound (c : Cok T X P) : ∀ n e, JG X P e (tsOf T n e) (wTg T n e) := by
  intro n
  induction n with
  | zero => exact fun e => jg_bad
  | succ n ih =>
    intro e
    cases e with
    | Name x p =>
      unfold wTg tsOf
      simp only
      cases h : T.loc x with
      | none => exact jg_bad
      | some i =>
        obtain ⟨h1, h2, h3, h4⟩ := loc_ok c h
        have := jg_name (P := P) (pos := p) h1 h2 h3 h4
        rw [c.pin] at this
        exact this
    | Tuple es k p =>
      unfold wTg tsOf
      simp only
      by_cases h : es.all notStar = true
      · rw [if_pos h]
        obtain ⟨h1, h2⟩ := asgE_len X.env h
        exact jg_tup c.calm (gs_sound (fun e => ih e) es h) h1 h2
      · rw [if_neg h]; exact jg_bad
    | _ => exact jg_bad
end
end Ev

/-! EvL: soundness of the readings of expressions. -/
namespace Ev
open PySem PySem.Spec PyProof.Rows L2
structure Snd (n : Nat) : Prop where
  e : ∀ T X P, Cok T X P → ∀ e, JE X P e (wE T n e)
  lc : ∀ T X P, Cok T X P → ∀ elt tg it ifs sc pos, JE X P (.ListComp elt [⟨tg, it, ifs, 0⟩] sc pos) (wLcE T n elt tg it ifs sc)
  ts : ∀ T X P, Cok T X P → ∀ es, JT X P es (wTs T n es)
  pt : ∀ T X P, Cok T X P → ∀ o, JO X P o (wPt T n o)
  bv : ∀ T X P, Cok T X P → ∀ op es pos, JE X P (.BoolOp op es pos) (wBV T n op es)
  c : ∀ T X P, Cok T X P → ∀ e, JC X P e (wCd T n e)
  bc : ∀ T X P, Cok T X P → ∀ op es pos, JC X P (.BoolOp op es pos) (wBC T n op es)
  bw : ∀ T X P, Cok T X P → ∀ op es pos, JW X P (.BoolOp op es pos) (wBC T n op es)
  as : ∀ T X P, Cok T X P → ∀ h es, es.all notStar = true → JA X P es (wAs T n h es)
  ks : ∀ T X P, Cok T X P → ∀ ks, JK X P ks (wKs T n ks)
  it : ∀ T X P, Cok T X P → ∀ tg e, JI X P tg e (wIt T n e)
section
variable {X : Cx} {P : Par} {T : Tab} {n : Nat}
theorem kw_all : ∀ (ks : List Keyword) (pos : Pos) (env : Env), ks.all (fun k => k.arg.isSome) = true →
    (backToKw pos (keywordEach ks env)).all (·.1.isSome) = true ∧ (backToKw pos (keywordEach ks env)).filterMap (·.1) = ks.filterMap (·.arg) ∧ (backToKw pos (keywordEach ks env)).any (·.1.isNone) = false
  | [], _, _, _ => ⟨rfl, rfl, rfl⟩
  | ⟨some x, v, p⟩ :: r, pos, env, h => by
    rw [List.all_cons, Bool.and_eq_true] at h
    obtain ⟨h1, h2, h3⟩ := kw_all r pos env h.2
    refine ⟨?_, ?_, ?_⟩
    · show (true && (backToKw pos (keywordEach r env)).all (·.1.isSome)) = true
      rw [h1]; rfl
    · show x :: (backToKw pos (keywordEach r env)).filterMap (·.1) = x :: r.filterMap (·.arg)
      rw [h2]
    · show (false || (backToKw pos (keywordEach r env)).any (·.1.isNone)) = false
      rw [h3]; rfl
  | ⟨none, v, p⟩ :: r, pos, env, h => by
    rw [List.all_cons, Bool.and_eq_true] at h
    exact absurd h.1 Bool.false_ne_true
theorem ks_len (T : Tab) : ∀ (n : Nat) (ks : List Keyword), (∀ k, k < n → ∀ e, Mono (wE T k e)) → ∀ sd xp (Q : List Ar → Sd → Prop), wKs T n ks sd xp Q → wKs T n ks sd xp fun as s => as.length = ks.length ∧ Q as s
  | 0, ks, _, sd, xp, Q, h => h.elim
  | n + 1, [], _, sd, xp, Q, h => ⟨rfl, h⟩
  | n + 1, k :: r, m, sd, xp, Q, h => sub_mono (m n (Nat.lt_succ_self n) k.value) (fun _ q => q) (fun d s q => by
    have ih := ks_len T n r (fun k hk => m k (Nat.lt_succ_of_lt hk)) s xp _ q
    exact (show wKs T n r s xp (fun as sd2 => (Ar.dat d :: as).length = (k :: r).length ∧ Q (Ar.dat d :: as) sd2) from by
      have mk : MonoA (wKs T n r) := by
        have gen : ∀ (j : Nat) (r : List Keyword), j ≤ n → MonoA (wKs T j r) := by
          intro j
          induction j with
          | zero => exact fun r _ _ _ _ _ _ _ _ h => h
          | succ j ih =>
            intro r hj
            cases r with
            | nil => exact wNil_mono
            | cons k r => exact wDat_mono (m j (by omega) k.value) (ih r (by omega))
        exact gen n r (Nat.le_refl n)
      exact mk s xp xp _ _ (fun _ q => q) (fun as s2 ⟨l, q2⟩ => ⟨by rw [List.length_cons, List.length_cons, l], q2⟩) ih)) h
theorem bound_kw {f : Fn} {ks : List Str} {q : List Str × List Nat} (h : f.kw.find? (fun q => decide (q.1 = ks)) = some q) : q ∈ f.kw ∧ q.1 = ks := by
  refine ⟨List.mem_of_find?_eq_some h, ?_⟩
  have := List.find?_some h
  exact of_decide_eq_true this
theorem snd_zero : Snd 0 := ⟨fun _ _ _ _ _ => je_bad, fun _ _ _ _ _ _ _ _ _ _ => je_bad, fun _ _ _ _ _ => jt_bad, fun _ _ _ _ _ => jo_bad, fun _ _ _ _ _ _ _ => je_bad, fun _ _ _ _ _ => jc_bad, fun _ _ _ _ _ _ _ => jc_bad, fun _ _ _ _ _ _ _ => jw_bad, fun _ _ _ _ _ _ _ => ja_bad, fun _ _ _ _ _ => jk_bad, fun _ _ _ _ _ _ => ji_bad⟩
theorem fold_of {it : Expr} (h : plainIt it = true) (env : Env) (v : Value) : genFold it env v = pure v := by
  cases it <;> first
    | rfl
    | cases h
theorem gx_sound (c : Cok T X P) {x tg : Str} {elt it : Expr} {ifs : List Expr} {sc : Scope} {w : WT} {k : GK} {px px2 pos gpos : Pos} (hk : gxFn x = some k) (ho : gxOk T x sc tg it = true) (j : JE X P it w) :
    JE X P (.Call (.Name x px) [.GeneratorExp elt [⟨.Name tg px2, it, ifs, 0⟩] sc gpos] [] pos) (wGx w (fun sd d => gxOne (rhoC (cvOf T sc tg) (gAt sd) tg d) n ifs elt) k) := by
  unfold gxOk at ho
  simp only [Bool.and_eq_true] at ho
  obtain ⟨⟨⟨⟨⟨⟨⟨⟨h1, h2⟩, h3⟩, h4⟩, h5⟩, h6⟩, h7⟩, h8⟩, h9⟩ := ho
  obtain ⟨f1, f2, f3, f4⟩ := free_ok c h1
  obtain ⟨z, hz⟩ := Option.isSome_iff_exists.mp h2
  obtain ⟨cc, Pt, t1, t2, t3⟩ := c.tb z hz
  have kf : ∀ y, X.env.kindOf y = T.sc.names.lookup y := fun y => by rw [← c.sc]; rfl
  have G : GenF X sc tg (cvOf T sc tg) := by
    refine ⟨?_, by simpa using h4, fun y hy e => ?_, by simpa using h6, by simpa using h7, fun y hy e => ?_, fun y i e => ?_⟩
    · cases hkk : sc.kind <;> rw [hkk] at h3 <;> first | rfl | cases h3
    · have := List.all_eq_true.mp h5 y hy
      rw [e] at this
      cases this
    · have := List.all_eq_true.mp h8 y hy
      rw [e] at this
      rw [kf]
      simpa using this
    · unfold cvOf at e
      by_cases hy : y = tg
      · rw [if_pos hy] at e; cases e
      rw [if_neg hy] at e
      by_cases hf : (sc.names.lookup y == some .free) = true
      rotate_left
      · rw [if_neg hf] at e; cases e
      rw [if_pos hf] at e
      have hf2 : sc.names.lookup y = some .free := by simpa using hf
      have hv : (T.sc.names.lookup y = some .cell ∨ T.sc.names.lookup y = some .free) ∧ ix y T.N = some i := by
        split at e
        · rename_i q; exact ⟨.inl q, e⟩
        · rename_i q; exact ⟨.inr q, e⟩
        · cases e
      refine ⟨PySem.mem_of_lookup hf2, hf2, by rw [c.N]; exact ix_get hv.2, ?_, ?_, hy⟩
      · rw [c.sc]
        rcases hv.1 with q | q
        · exact .inr (.inl q)
        · exact .inr (.inr q)
      · rw [c.sc]
        rcases hv.1 with q | q <;> rw [q] <;> intro z <;> cases z
  have he : starEach [.GeneratorExp elt [⟨.Name tg px2, it, ifs, 0⟩] sc gpos] X.env = (false, eval (.GeneratorExp elt [⟨.Name tg px2, it, ifs, 0⟩] sc gpos) X.env) :: starEach [] X.env := rfl
  have callB : ∀ id, bootBuiltins x = some (.builtin id) → ∀ (pins : List (Addr × Obj)) (s : Shared) (σ : L2.St) (H : Hp) (Q : Value → Shared → Prop), Inv X pins σ H s → wpAny (model X.prog X.w) X.A (eval (.GeneratorExp elt [⟨.Name tg px2, it, ifs, 0⟩] sc gpos) X.env) (fun v s1 => wpAny (model X.prog X.w) X.A (call (.builtin id) [v]) Q X.xe s1) X.xe s →
      wpAny (model X.prog X.w) X.A (eval (.Call (.Name x px) [.GeneratorExp elt [⟨.Name tg px2, it, ifs, 0⟩] sc gpos] [] pos) X.env) Q X.xe s := fun id hb pins s σ H Q I h => by
    refine wpAny_Call_Name_kw (ld_blt I f1 f2 hb ?_ f4 f3)
    refine PyProof.Rows.callWith_builtin1 ?_ he (by rfl)
    rw [he]
    show wpAny _ _ (spliced ((false, eval (.GeneratorExp elt [⟨.Name tg px2, it, ifs, 0⟩] sc gpos) X.env) :: backTo pos (starEach [] X.env))) _ _ s
    exact Calls.spliced_cons (wpAny_mono h (fun v s1 q => Calls.spliced_nil q) fun _ _ q => q)
  have callT : ∀ id, bootBuiltins x = some (.type id) → ∀ (pins : List (Addr × Obj)) (s : Shared) (σ : L2.St) (H : Hp) (Q : Value → Shared → Prop), Inv X pins σ H s → wpAny (model X.prog X.w) X.A (eval (.GeneratorExp elt [⟨.Name tg px2, it, ifs, 0⟩] sc gpos) X.env) (fun v s1 => wpAny (model X.prog X.w) X.A (call (.type id) [v]) Q X.xe s1) X.xe s →
      wpAny (model X.prog X.w) X.A (eval (.Call (.Name x px) [.GeneratorExp elt [⟨.Name tg px2, it, ifs, 0⟩] sc gpos] [] pos) X.env) Q X.xe s := fun id hb pins s σ H Q I h => by
    refine wpAny_Call_Name_kw (ld_blt I f1 f2 hb ?_ f4 f3)
    refine PyProof.Rows.callWith_type1 ?_ he (by rfl)
    rw [he]
    show wpAny _ _ (spliced ((false, eval (.GeneratorExp elt [⟨.Name tg px2, it, ifs, 0⟩] sc gpos) X.env) :: backTo pos (starEach [] X.env))) _ _ s
    exact Calls.spliced_cons (wpAny_mono h (fun v s1 q => Calls.spliced_nil q) fun _ _ q => q)
  unfold gxFn at hk
  split at hk
  · rename_i ex
    cases hk
    exact je_gx c.rm.1 c.rm.2 t1 t2 t3 G j (fold_of h9 _) drains_sum kSum_mono (callB "sum" (by rw [ex]; decide +kernel))
  split at hk
  · rename_i ex
    cases hk
    exact je_gx c.rm.1 c.rm.2 t1 t2 t3 G j (fold_of h9 _) drains_tup kTup_mono (callT "tuple" (by rw [ex]; decide +kernel))
  split at hk
  · rename_i ex
    cases hk
    exact je_gx c.rm.1 c.rm.2 t1 t2 t3 G j (fold_of h9 _) drains_all kAll_mono (callB "all" (by rw [ex]; decide +kernel))
  split at hk
  · rename_i ex
    cases hk
    exact je_gx c.rm.1 c.rm.2 t1 t2 t3 G j (fold_of h9 _) drains_any kAny_mono (callB "any" (by rw [ex]; decide +kernel))
  · cases hk
/-- a call with positional arguments -/
theorem call_sound (S : Snd n) (c : Cok T X P) (m : ∀ k, k < n → ∀ e, Mono (wE T k e)) {x : Str} {args : List Expr} {px pos : Pos} : JE X P (.Call (.Name x px) args [] pos) (wE T (n + 1) (.Call (.Name x px) args [] pos)) := by
  unfold wE
  simp only
  cases hgx : gxArg args with
  | some q =>
    obtain ⟨elt, tg, it, ifs, sc⟩ := q
    obtain ⟨px2, gpos, rfl⟩ := gxArg_eq hgx
    simp only
    cases hk : gxFn x with
    | none => exact je_bad
    | some k =>
      simp only
      by_cases ho : gxOk T x sc tg it = true
      rotate_left
      · rw [if_neg ho]; exact je_bad
      rw [if_pos ho]
      exact gx_sound c hk ho (S.e T X P c it)
  | none =>
  simp only
  by_cases hs : args.all notStar = true
  rotate_left
  · rw [if_neg hs]; exact je_bad
  rw [if_pos hs]
  by_cases hf : T.free x = true
  · rw [if_pos hf]
    obtain ⟨g1, g2, g3, g4⟩ := free_ok c hf
    by_cases hi : x = "isinstance"
    · rw [if_pos hi]
      subst hi
      split
      · rename_i a t tp
        by_cases ht : T.free t = true
        · rw [if_pos ht]
          obtain ⟨t1, t2, t3, t4⟩ := free_ok c ht
          cases hk : kindOf' t with
          | none => exact je_bad
          | some k =>
            obtain ⟨k1, k2⟩ := kind_ok hk
            rw [List.all_cons, Bool.and_eq_true] at hs
            exact je_isi (S.e T X P c a) k1 g1 g2 (by decide +kernel) t1 t2 k2 t4 t3 (star_of hs.1 _ _)
        · rw [if_neg ht]; exact je_bad
      · exact je_bad
    · rw [if_neg hi]
      have ja := S.as T X P c true args hs
      cases args with
      | nil =>
        have : biOf x 0 = none ∧ tyOf x 0 = none := by
          unfold biOf tyOf
          constructor <;> (repeat' split) <;> first
            | rfl
            | simp_all
        simp only [List.length_nil, this.1, this.2]
        exact je_bad
      | cons a r =>
        have h1 : starEach (a :: r) X.env = (false, eval a X.env) :: starEach r X.env := by
          rw [List.all_cons, Bool.and_eq_true] at hs
          exact star_of hs.1 _ _
        have h2 : (backTo pos (starEach r X.env)).any (·.1) = false := by
          rw [List.all_cons, Bool.and_eq_true] at hs
          exact nostar _ _ hs.2
        cases hb : biOf x (a :: r).length with
        | some g =>
          obtain ⟨rr, id, b1, b2, b3, b4⟩ := bi_ok (X := X) c.calm hb
          exact je_bi b1 b2 b3 g1 g2 b4 ja g4 g3 h1 h2
        | none =>
          cases ht : tyOf x (a :: r).length with
          | some g =>
            obtain ⟨rr, id, b1, b2, b3, b4⟩ := ty_ok (X := X) ht
            exact je_ty b1 b2 b3 g1 g2 b4 ja g4 g3 h1 h2
          | none => exact je_bad
  · rw [if_neg hf]
    by_cases hg : T.glob x = true
    · rw [if_pos hg]
      obtain ⟨g1, g2, g3⟩ := glob_ok c hg
      cases hfn : T.fn x with
      | none => exact je_bad
      | some f =>
        cases args with
        | nil => exact je_bad
        | cons a r =>
          have h1 : starEach (a :: r) X.env = (false, eval a X.env) :: starEach r X.env := by
            rw [List.all_cons, Bool.and_eq_true] at hs
            exact star_of hs.1 _ _
          have h2 : (backTo pos (starEach r X.env)).any (·.1) = false := by
            rw [List.all_cons, Bool.and_eq_true] at hs
            exact nostar _ _ hs.2
          exact je_call (c.fn x f hfn) g1 (S.as T X P c true (a :: r) hs) g2 h1 h2
    · rw [if_neg hg]; exact je_bad
theorem callK_sound (S : Snd n) (c : Cok T X P) (m : ∀ k, k < n → ∀ e, Mono (wE T k e)) {x : Str} {kw : Keyword} {kws : List Keyword} {px pos : Pos} : JE X P (.Call (.Name x px) [] (kw :: kws) pos) (wE T (n + 1) (.Call (.Name x px) [] (kw :: kws) pos)) := by
  unfold wE
  simp only
  by_cases hg : T.glob x = true
  rotate_left
  · rw [if_neg hg]; exact je_bad
  rw [if_pos hg]
  obtain ⟨g1, g2, g3⟩ := glob_ok c hg
  cases hfn : T.fn x with
  | none => exact je_bad
  | some f =>
    simp only
    cases hq : f.kw.find? (fun q => decide (q.1 = (kw :: kws).filterMap (·.arg))) with
    | none => exact je_bad
    | some q =>
      simp only
      by_cases ha : (kw :: kws).all (fun k => k.arg.isSome) = true
      rotate_left
      · rw [if_neg ha]; exact je_bad
      rw [if_pos ha]
      obtain ⟨k1, k2, k3⟩ := kw_all (kw :: kws) pos X.env ha
      obtain ⟨q1, q2⟩ := bound_kw hq
      obtain ⟨ks, perm⟩ := q
      simp only at q2
      have hl : ((kw :: kws).filterMap (·.arg)).length = (kw :: kws).length := by
        have gen : ∀ ks : List Keyword, ks.all (fun k => k.arg.isSome) = true → (ks.filterMap (·.arg)).length = ks.length := by
          intro ks
          induction ks with
          | nil => intro _; rfl
          | cons k r ih =>
            intro h
            rw [List.all_cons, Bool.and_eq_true] at h
            obtain ⟨nm, v, p⟩ := k
            cases nm with
            | none => exact absurd h.1 Bool.false_ne_true
            | some y =>
              show (y :: r.filterMap (·.arg)).length = (⟨some y, v, p⟩ :: r : List Keyword).length
              rw [List.length_cons, List.length_cons, ih h.2]
        exact gen _ ha
      refine je_callK (ks := ks) (perm := perm) (c.fn x f hfn) q1 g1 (S.ks T X P c (kw :: kws)) g2 k1 (by rw [k2, q2]) (by rw [k3]; rfl) fun sd xp Q h => ?_
      rw [q2, hl]
      exact ks_len T n (kw :: kws) m sd xp Q h
end
end Ev

/-! EvM: soundness of the readings of expressions, by induction. -/
namespace Ev
open PySem PySem.Spec PyProof.Rows L2
section
variable {X : Cx} {P : Par} {T : Tab} {n : Nat} {e : Expr}
theorem lc_pieces (S : Snd n) (c : Cok T X P) {elt tg it : Expr} {ifs : List Expr} {sc : Scope} (h : lcOk T n sc tg it = true) :
    BlkOk X.N X.env.scope sc (ownOf T.N sc) ∧ (∀ (s : Shared) (H : Hp) (C : Addr) (cl : List (Str × Addr)) (fp : List Addr), Cok (T.blk sc) (X.blk s H sc (compEnvC sc cl C X.env) fp) (P0 P)) ∧ (∀ j ∈ tsOf (T.blk sc) n tg, j ∈ (ownOf T.N sc).map (·.2)) ∧
      (∀ j ∈ P.pin, j ∉ (ownOf T.N sc).map (·.2)) ∧ ∀ x, foldedSetIterable it X.env x = pure x := by
  unfold lcOk at h
  simp only [Bool.and_eq_true, List.all_eq_true, decide_eq_true_eq] at h
  obtain ⟨⟨⟨⟨h1, h2⟩, h3⟩, h4⟩, h5⟩ := h
  have hk : sc.kind = .function := by
    cases e : sc.kind <;> rw [e] at h2 <;> first
      | rfl
      | cases h2
  exact ⟨by rw [c.N, c.sc]; exact blkOk_by h1, fun s H C cl fp => blk_ok c hk s H C cl fp, h5, by rw [c.pin]; exact h4, set_of h3 X.env⟩
theorem lc_sound (S : Snd n) (c : Cok T X P) {elt tg it : Expr} {ifs : List Expr} {sc : Scope} {pos : Pos} : JE X P (.ListComp elt [⟨tg, it, ifs, 0⟩] sc pos) (wLcE T (n + 1) elt tg it ifs sc) := by
  unfold wLcE
  by_cases h : lcOk T n sc tg it = true
  rotate_left
  · rw [if_neg h]; exact je_bad
  rw [if_pos h]
  obtain ⟨h1, h2, h3, h4, h5⟩ := lc_pieces S c (elt := elt) (ifs := ifs) h
  exact je_lc c.calm (by rw [c.N]; exact c.nd) (S.it T X P c tg it) h1 (fun s H C cl fp => tg_sound (h2 s H C cl fp) n tg) (fun s H C cl fp => S.ts _ _ _ (h2 s H C cl fp) ifs) (fun s H C cl fp => S.e _ _ _ (h2 s H C cl fp) elt) h3 h4 h5
theorem wBl_bad : JC X P e (wBl badT) := ⟨⟨fun pins s σ H Q I h => by obtain ⟨F, sd, pv, pd, ok, R, h⟩ := h; exact h.elim⟩, fun _ _ _ _ _ _ _ h => h⟩
theorem cmp_sound (S : Snd n) (c : Cok T X P) (a : Expr) (ops : List CmpOp) (bs : List Expr) (p : Pos) : JE X P (.Compare a ops bs p) (wE T (n + 1) (.Compare a ops bs p)) ∧ JC X P (.Compare a ops bs p) (wBl (wE T (n + 1) (.Compare a ops bs p))) := by
  match ops, bs with
  | [op], [b] =>
    unfold wE
    simp only
    by_cases hm : behindInMarks op b = false
    rotate_left
    · rw [if_neg hm]; exact ⟨je_bad, wBl_bad⟩
    rw [if_pos hm]
    cases hg : gCmp op with
    | none => exact ⟨je_bad, wBl_bad⟩
    | some g =>
      obtain ⟨r, h1, h2, h3⟩ := cmp_ok (X := X) c.hu hg
      exact ⟨je_cmp h1 h2 h3 (S.e T X P c a) (S.e T X P c b) hm, jc_cmp h1 h2 h3 (S.e T X P c a) (S.e T X P c b) hm⟩
  | [op, op'], [b, d] =>
    unfold wE
    simp only
    by_cases hm : lastMarks [op, op'] [b, d] = false
    rotate_left
    · rw [if_neg hm]; exact ⟨je_bad, wBl_bad⟩
    rw [if_pos hm]
    cases hg : gChn op with
    | none => exact ⟨je_bad, wBl_bad⟩
    | some f =>
      cases hg' : gChn op' with
      | none => exact ⟨je_bad, wBl_bad⟩
      | some f' =>
        exact ⟨je_chain (chn_ok hg) (chn_ok hg') (S.e T X P c a) (S.e T X P c b) (S.e T X P c d) hm, jc_chain (chn_ok hg) (chn_ok hg') (S.e T X P c a) (S.e T X P c b) (S.e T X P c d) hm⟩
  | [], _ => exact ⟨je_bad, wBl_bad⟩
  | [_], [] => exact ⟨je_bad, wBl_bad⟩
  | [_], _ :: _ :: _ => exact ⟨je_bad, wBl_bad⟩
  | [_, _], [] => exact ⟨je_bad, wBl_bad⟩
  | [_, _], [_] => exact ⟨je_bad, wBl_bad⟩
  | [_, _], _ :: _ :: _ :: _ => exact ⟨je_bad, wBl_bad⟩
  | _ :: _ :: _ :: _, _ => exact ⟨je_bad, wBl_bad⟩
theorem cd_sound (S : ∀ m, m ≤ n → Snd m) (c : Cok T X P) (e : Expr) : JC X P e (wCd T (n + 1) e) := by
  have S1 := S n (Nat.le_refl n)
  have tru : plainTest e = true → JC X P e (wTru (wE T n e)) := fun h => jc_tru (S1.e T X P c e) (tests_of h _)
  cases e with
  | UnaryOp op a p =>
    cases op with
    | Not => exact jc_not (S1.c T X P c a)
    | _ => exact jc_bad
  | BoolOp op es p => exact S1.bc T X P c op es p
  | IfExp _ _ _ _ => exact jc_bad
  | Compare a ops bs p =>
    show JC X P _ (wBl (wE T n _))
    cases n with
    | zero => exact wBl_bad
    | succ n => exact (cmp_sound (S n (Nat.le_succ n)) c a ops bs p).2
  | _ => exact tru rfl
theorem bw_sound (S : Snd n) (c : Cok T X P) (op : BoolOp) (es : List Expr) (pos : Pos) : JW X P (.BoolOp op es pos) (wBC T (n + 1) op es) := by
  match op, es with
  | .And, [] => exact jw_bad
  | .Or, [] => exact jw_bad
  | .And, [a] => exact jw_and1 (S.c T X P c a)
  | .Or, [a] => exact jw_or1 (S.c T X P c a)
  | .And, a :: b :: r => exact jw_and (S.c T X P c a) (S.bw T X P c .And (b :: r) pos)
  | .Or, a :: b :: r => exact jw_or (S.c T X P c a) (S.bw T X P c .Or (b :: r) pos)
theorem bv_sound (S : Snd n) (c : Cok T X P) (op : BoolOp) (es : List Expr) (pos : Pos) : JE X P (.BoolOp op es pos) (wBV T (n + 1) op es) := by
  match op, es with
  | .And, [] => exact je_bad
  | .Or, [] => exact je_bad
  | .And, [a] => exact je_one (S.e T X P c a)
  | .Or, [a] => exact je_one (S.e T X P c a)
  | .And, a :: b :: r => exact je_and (S.e T X P c a) (S.bv T X P c .And (b :: r) pos)
  | .Or, a :: b :: r => exact je_or (S.e T X P c a) (S.bv T X P c .Or (b :: r) pos)
theorem as_sound (S : Snd n) (c : Cok T X P) (h : Bool) (es : List Expr) (hs : es.all notStar = true) : JA X P es (wAs T (n + 1) h es) := by
  have dat : ∀ e r, (e :: r).all notStar = true → JA X P (e :: r) (wDat (wE T n e) (wAs T n h r)) := fun e r hs => by
    rw [List.all_cons, Bool.and_eq_true] at hs
    exact ja_dat (S.e T X P c e) (S.as T X P c h r hs.2) (star_of hs.1 _ _)
  cases es with
  | nil => exact ja_nil
  | cons e r =>
    cases e with
    | Name x p =>
      unfold wAs
      simp only
      cases h with
      | false => exact dat _ r hs
      | true =>
        cases hv : T.var x with
        | none => exact dat _ r hs
        | some i =>
          obtain ⟨v1, v2, v3, v4⟩ := var_ok c hv
          rw [List.all_cons, Bool.and_eq_true] at hs
          exact ja_hand v1 v2 v3 v4 (S.as T X P c true r hs.2) (star_of hs.1 _ _)
    | _ => exact dat _ r hs
theorem ks_sound (S : Snd n) (c : Cok T X P) (ks : List Keyword) : JK X P ks (wKs T (n + 1) ks) := by
  cases ks with
  | nil => exact jk_nil
  | cons k r =>
    obtain ⟨nm, v, p⟩ := k
    exact jk_cons (S.e T X P c v) (S.ks T X P c r)
theorem ts_sound (S : Snd n) (c : Cok T X P) (es : List Expr) : JT X P es (wTs T (n + 1) es) := by
  match es with
  | [] => exact jt_nil
  | [a] => exact jt_one (S.c T X P c a)
  | _ :: _ :: _ => exact jt_bad
theorem pt_sound (S : Snd n) (c : Cok T X P) (o : Option Expr) : JO X P o (wPt T (n + 1) o) := by
  cases o with
  | none => exact jo_none
  | some a => exact jo_some (S.e T X P c a)
theorem it_sound (S : Snd n) (c : Cok T X P) (tg e : Expr) : JI X P tg e (wIt T (n + 1) e) := by
  have gen : JI X P tg e (wItems (wE T n e)) := ji_items (S.e T X P c e)
  cases e with
  | Call f args kws pos =>
    cases f with
    | Name x p =>
      cases kws with
      | cons _ _ => exact gen
      | nil =>
        unfold wIt
        simp only
        by_cases hx : x = "range"
        rotate_left
        · rw [if_neg hx]; exact gen
        rw [if_pos hx]
        subst hx
        by_cases hf : T.free ("range" : Str) = true
        rotate_left
        · rw [if_neg hf]; exact ji_bad
        rw [if_pos hf]
        obtain ⟨g1, g2, g3, g4⟩ := free_ok c hf
        by_cases hs : args.all notStar = true
        rotate_left
        · rw [if_neg hs]; exact ji_bad
        rw [if_pos hs]
        match args, hs with
        | [], _ => exact ji_bad
        | [a], hs =>
          have ja := S.as T X P c true [a] hs
          rw [List.all_cons, Bool.and_eq_true] at hs
          exact ji_range1 g1 g2 ja (star_of hs.1 _ _)
        | [a, b], hs =>
          have ja := S.as T X P c true [a, b] hs
          rw [List.all_cons, Bool.and_eq_true, List.all_cons, Bool.and_eq_true] at hs
          exact ji_range2 g1 g2 ja (by rw [star_of hs.1, star_of hs.2.1]; rfl) (star_of hs.2.1 _ _)
        | _ :: _ :: _ :: _, _ => exact ji_bad
    | _ => exact gen
  | _ => exact gen
theorem e_sound (S : ∀ m, m ≤ n → Snd m) (c : Cok T X P) (e : Expr) : JE X P e (wE T (n + 1) e) := by
  have S1 := S n (Nat.le_refl n)
  have mm : ∀ k, k < n → ∀ e, Mono (wE T k e) := fun k hk e => ((S k (Nat.le_of_lt hk)).e T X P c e).mono
  cases e with
  | Name x p =>
    unfold wE
    simp only
    cases hv : T.var x with
    | some i =>
      obtain ⟨v1, v2, v3, v4⟩ := var_ok c hv
      exact je_var v1 v2 v3 v4
    | none =>
      simp only
      by_cases hg : T.glob x = true
      rotate_left
      · rw [if_neg hg]; exact je_bad
      rw [if_pos hg]
      obtain ⟨g1, g2, g3⟩ := glob_ok c hg
      cases hd : T.gl x with
      | none => exact je_bad
      | some d => exact je_glob g1 g2 (c.gl x d hd)
  | Constant v k p =>
    cases v <;> first
      | exact je_int
      | exact je_bl
      | exact je_non
      | exact je_str
      | exact je_bad
  | BinOp a op b p =>
    unfold wE
    simp only
    cases hg : gOp op with
    | none => exact je_bad
    | some g =>
      obtain ⟨r, h1, h2, h3⟩ := op_ok (X := X) hg
      exact je_op h1 h2 h3 (S1.e T X P c a) (S1.e T X P c b)
  | UnaryOp op a p =>
    cases op with
    | Not => exact je_not (S1.e T X P c a)
    | USub => exact je_neg (S1.e T X P c a)
    | _ => exact je_bad
  | BoolOp op es p => exact S1.bv T X P c op es p
  | Compare a ops bs p => exact (cmp_sound S1 c a ops bs p).1
  | IfExp t a b p => exact je_if (S1.c T X P c t) (S1.e T X P c a) (S1.e T X P c b)
  | Tuple es k p =>
    unfold wE
    simp only
    by_cases hs : es.all notStar = true
    · rw [if_pos hs]; exact je_tup (S1.as T X P c false es hs)
    · rw [if_neg hs]; exact je_bad
  | List es p =>
    unfold wE
    simp only
    by_cases hs : es.all notStar = true
    · rw [if_pos hs]; exact je_lst (S1.as T X P c false es hs)
    · rw [if_neg hs]; exact je_bad
  | Dict ks vs p =>
    match ks, vs with
    | [], [] => exact je_dic
    | [], _ :: _ => exact je_bad
    | _ :: _, _ => exact je_bad
  | ListComp elt gens sc p =>
    unfold wE
    simp only
    cases h : lcParts gens with
    | none => exact je_bad
    | some q =>
      obtain ⟨tg, it, ifs⟩ := q
      have e := lcParts_eq h
      subst e
      exact S1.lc T X P c elt tg it ifs sc p
  | Subscript a b p =>
    have gen : notSlice b = true → JE X P (.Subscript a b p) (wOp gIx (wE T n a) (wE T n b)) := fun hb => je_sub ix_seq ob_ix gIx_mono (S1.e T X P c a) (S1.e T X P c b) (slice_of hb)
    have plain : JE X P (.Subscript a b p) (wSubF T a b (wE T n a) (wE T n b)) := by
      unfold wSubF
      by_cases hb : notSlice b = true
      rotate_left
      · rw [if_neg hb]; exact je_bad
      rw [if_pos hb]
      cases a with
      | Name x px =>
        simp only
        cases hv : T.var x with
        | none => exact gen hb
        | some i =>
          obtain ⟨v1, v2, v3, v4⟩ := var_ok c hv
          exact je_ixN v1 v2 v3 v4 (S1.e T X P c b) (slice_of hb)
      | _ => exact gen hb
    cases b with
    | Slice lo hi st p2 =>
      cases st with
      | none => exact je_slice (S1.e T X P c a) (S1.pt T X P c lo) (S1.pt T X P c hi)
      | some _ => exact plain
    | _ => exact plain
  | Call f args kws p =>
    cases f with
    | Name x px =>
      cases kws with
      | nil => exact call_sound S1 c mm
      | cons kw kws =>
        cases args with
        | nil => exact callK_sound S1 c mm
        | cons _ _ => exact je_bad
    | Attribute o m ap =>
      unfold wE
      simp only
      cases h : appParts (.Attribute o m ap) args kws p with
      | none => exact je_bad
      | some q =>
        obtain ⟨x, a⟩ := q
        simp only
        cases hv : T.var x with
        | none => exact je_bad
        | some i =>
          obtain ⟨v1, v2, v3, v4⟩ := var_ok c hv
          unfold appParts at h
          split at h
          · rename_i cp' _ _ _ _ x' px m' ap' a' e1
            by_cases hc : (decide (m' = ("append" : Str)) && (ap'.endLine == cp'.line) && notStar a') = true
            rotate_left
            · rw [if_neg hc] at h; cases h
            rw [if_pos hc] at h
            simp only [Bool.and_eq_true, decide_eq_true_eq] at hc
            cases e1
            cases h
            obtain ⟨⟨h1, h2⟩, h3⟩ := hc
            subst h1
            exact je_app v1 v2 v3 v4 (S1.e T X P c a) h2 (star_of h3 _ _)
          · cases h
    | _ => exact je_bad
  | _ => exact je_bad
theorem snd (n : Nat) : ∀ m, m ≤ n → Snd m := by
  induction n with
  | zero => intro m hm; rw [show m = 0 by omega]; exact snd_zero
  | succ n ih =>
    intro m hm
    by_cases h : m ≤ n
    · exact ih m h
    · rw [show m = n + 1 by omega]
      have S1 := ih n (Nat.le_refl n)
      exact ⟨fun T X P c e => e_sound ih c e, fun T X P c elt tg it ifs sc pos => lc_sound S1 c, fun T X P c es => ts_sound S1 c es, fun T X P c o => pt_sound S1 c o, fun T X P c op es pos => bv_sound S1 c op es pos, fun T X P c e => cd_sound ih c e,
        fun T X P c op es pos => (bw_sound S1 c op es pos).jc, fun T X P c op es pos => bw_sound S1 c op es pos, fun T X P c h es hs => as_sound S1 c h es hs, fun T X P c ks => ks_sound S1 c ks, fun T X P c tg e => it_sound S1 c tg e⟩
theorem snd_at (n : Nat) : Snd n := snd n n (Nat.le_refl n)
end
end Ev

/-! EvN: soundness of the readings of statements; a def by its text. -/
namespace Ev
open PySem PySem.Spec PyProof.Rows L2
section
variable {X : Cx} {P : Par} {T : Tab} {n : Nat}
theorem ip_ok {op : Operator} {f : Int → Int → Int} (h : ipOf op = some f) : PIp X op (ipI f) := by
  cases op <;> simp only [ipOf, Option.some.injEq, reduceCtorEq] at h <;> subst h
  · exact ip_add
  · exact ip_sub
theorem swst_tup {e : Expr} (h : notTup e = true) (t : Expr) (env : Env) : swappedStores [t] e env = pure none := by
  cases e <;> first
    | rfl
    | (cases t <;> rfl)
    | cases h
theorem swst_sub {o i e : Expr} {p : Pos} (env : Env) : swappedStores [.Subscript o i p] e env = pure none := by
  cases e <;> rfl
theorem par_ok (hk : T.sc.kind = .function) {env : Env} (hsc : env.scope = T.sc) {ts vs : List Expr} {x y : Str} {kt k2 : Nat} {pt pt2 : Pos} (h : parOk T ts vs = some [x, y]) :
    ∃ px py a b, ts = [.Name x px, .Name y py] ∧ vs = [a, b] ∧ notStar a = true ∧ notStar b = true ∧ x ≠ y ∧ env.scope.names.lookup x = some .local ∧ env.scope.names.lookup y = some .local ∧
      swappedStores [.Tuple ts kt pt] (.Tuple vs k2 pt2) env = pure (some [x, y]) := by
  unfold parOk at h
  split at h
  · rename_i x' px y' py a b
    split at h
    · rename_i hc
      cases h
      simp only [Bool.and_eq_true, decide_eq_true_eq, Bool.not_eq_true'] at hc
      obtain ⟨⟨⟨⟨⟨⟨⟨h1, h2⟩, h3⟩, h4⟩, h5⟩, h6⟩, h7⟩, h8⟩ := hc
      refine ⟨px, py, a, b, rfl, rfl, h1, h2, h6, by rw [hsc]; exact h3, by rw [hsc]; exact h4, ?_⟩
      have hb : env.blockKind = .function := by unfold Env.blockKind; rw [hsc, hk]; rfl
      have k1 : env.kindOf x = some .local := by show env.scope.names.lookup x = _; rw [hsc]; exact h3
      have k2' : env.kindOf y = some .local := by show env.scope.names.lookup y = _; rw [hsc]; exact h4
      have n1 : ([x, y] : List Str).eraseDups = [x, y] := by
        simp [List.eraseDups_cons, h6, Ne.symm h6]
      have e5 : py.line = px.line := (by simpa using h5 : px.line = py.line).symm
      unfold swappedStores
      simp [hb, k1, k2', h7, h8, n1, Expr.pos, List.filterMap_cons, e5]
      intro z
      exfalso
      rcases z with z | z
      · cases a <;> first
          | exact absurd z Bool.false_ne_true
          | cases h1
      · cases b <;> first
          | exact absurd z Bool.false_ne_true
          | cases h2
    · cases h
  · cases h
theorem par3_ok (hk : T.sc.kind = .function) {env : Env} (hsc : env.scope = T.sc) {ts vs : List Expr} {x y z : Str} {kt k2 : Nat} {pt pt2 : Pos} (h : par3Ok T ts vs = some [x, y, z]) :
    ∃ px py pz a b c, ts = [.Name x px, .Name y py, .Name z pz] ∧ vs = [a, b, c] ∧ (notStar a = true ∧ notStar b = true ∧ notStar c = true) ∧ (x ≠ y ∧ x ≠ z ∧ y ≠ z) ∧ env.scope.names.lookup x = some .local ∧ env.scope.names.lookup y = some .local ∧ env.scope.names.lookup z = some .local ∧
      swappedStores [.Tuple ts kt pt] (.Tuple vs k2 pt2) env = pure (some [x, y, z]) := by
  unfold par3Ok at h
  split at h
  · rename_i x' px y' py z' pz a b c
    split at h
    · rename_i hc
      cases h
      simp only [Bool.and_eq_true, decide_eq_true_eq, Bool.not_eq_true'] at hc
      obtain ⟨⟨⟨⟨⟨⟨⟨⟨⟨⟨⟨⟨h1, h2⟩, h3⟩, h4⟩, h5⟩, h6⟩, h7⟩, h8⟩, h9⟩, h10⟩, h11⟩, h12⟩, h13⟩ := hc
      refine ⟨px, py, pz, a, b, c, rfl, rfl, ⟨h1, h2, h3⟩, ⟨h9, h10, h11⟩, by rw [hsc]; exact h4, by rw [hsc]; exact h5, by rw [hsc]; exact h6, ?_⟩
      have hb : env.blockKind = .function := by unfold Env.blockKind; rw [hsc, hk]; rfl
      have k1 : env.kindOf x = some .local := by show env.scope.names.lookup x = _; rw [hsc]; exact h4
      have k2' : env.kindOf y = some .local := by show env.scope.names.lookup y = _; rw [hsc]; exact h5
      have k3' : env.kindOf z = some .local := by show env.scope.names.lookup z = _; rw [hsc]; exact h6
      have n1 : ([x, y, z] : List Str).eraseDups = [x, y, z] := by
        simp [List.eraseDups_cons, h9, h10, h11, Ne.symm h9, Ne.symm h10, Ne.symm h11]
      have e5 : py.line = px.line := (by simpa using h7 : px.line = py.line).symm
      have e6 : pz.line = px.line := (by simpa using h8 : px.line = pz.line).symm
      unfold swappedStores
      simp [hb, k1, k2', k3', h12, h13, n1, Expr.pos, List.filterMap_cons, e5, e6]
      intro z
      exfalso
      rcases z with z | z | z
      · cases a <;> first
          | exact absurd z Bool.false_ne_true
          | cases h1
      · cases b <;> first
          | exact absurd z Bool.false_ne_true
          | cases h2
      · cases c <;> first
          | exact absurd z Bool.false_ne_true
          | cases h3
    · cases h
  · cases h
theorem fm_len {α β : Type} (f : α → Option β) : ∀ (l : List α), (l.any fun a => (f a).isNone) = true → (l.filterMap f).length < l.length
  | [], h => by simp at h
  | a :: l, h => by
    rw [List.filterMap_cons]
    have hl : (l.filterMap f).length ≤ l.length := List.length_filterMap_le _ _
    cases e : f a with
    | none => simp only [List.length_cons]; omega
    | some b =>
      simp only [List.any_cons, e, Option.isNone_some, Bool.false_or] at h
      have := fm_len f l h
      simp only [List.length_cons]; omega
theorem noSw_ok {env : Env} (hsc : env.scope = T.sc) {ts vs : List Expr} {kt k2 : Nat} {pt pt2 : Pos} (h : noSw T ts vs = true) : swappedStores [.Tuple ts kt pt] (.Tuple vs k2 pt2) env = pure none := by
  unfold noSw at h
  simp only [Bool.or_eq_true] at h
  unfold swappedStores
  simp only
  rcases h with ((h | h) | h) | h
  · simp [h]
  · simp [h]
  · split
    · rfl
    split
    · rfl
    split
    · rfl
    · rename_i h1 h2 h3
      exfalso
      apply h3
      rw [Bool.or_eq_true]
      left
      have := fm_len (fun t => match t with
        | .Name id pos => if env.kindOf id == some .local && pos.line == (ts.head?.map (·.pos.line)).getD 0 then some id else none
        | _ => none) ts ?_
      · simp only [bne_iff_ne, ne_eq]
        exact Nat.ne_of_lt this
      · rw [List.any_eq_true] at h ⊢
        obtain ⟨t, m, e⟩ := h
        refine ⟨t, m, ?_⟩
        cases t with
        | Name x p =>
          have e : (!(T.sc.names.lookup x == some .local)) = true := e
          have e2 : (env.kindOf x == some .local) = false := by
            show (env.scope.names.lookup x == some .local) = false
            rw [hsc]
            simpa using e
          simp [e2]
        | _ => rfl
  · split
    · rfl
    split
    · rfl
    split
    · rfl
    · first
        | rfl
        | rw [if_pos h]
theorem asub_of {o k : Expr} {p : Pos} {env : Env} (h : notSlice k = true) (v : Value) : assign (.Subscript o k p) env v = (do
      let ov ← holding [v] (eval o env)
      let iv ← holding [v, ov] (eval k env)
      standAt p
      holding [v, ov, iv] (setItem ov iv v)
      release [v, ov, iv] []) := by
  cases k <;> first
    | rfl
    | cases h
structure SndS (n : Nat) : Prop where
  s : ∀ T X P, Cok T X P → ∀ st, JS X P st (wSt T n st)
  ss : ∀ T X P, Cok T X P → ∀ st, JSs X P st (wSs T n st)
theorem asg_sound (S : Snd n) (c : Cok T X P) (tgs : List Expr) (e : Expr) (p : Pos) : JS X P (.Assign tgs e p) (wSt T (n + 1) (.Assign tgs e p)) := by
  match tgs with
  | [] => exact js_bad
  | _ :: _ :: _ => exact js_bad
  | [tg] =>
    cases tg with
    | Name x px =>
      have plain : JS X P (.Assign [.Name x px] e p) (if notComp e = true then (match T.loc x with
          | some i => wSet T.pin i (wE T n e)
          | none => badS) else badS) := by
        by_cases hc : notComp e = true
        rotate_left
        · rw [if_neg hc]; exact js_bad
        rw [if_pos hc]
        cases hl : T.loc x with
        | none => exact js_bad
        | some i =>
          obtain ⟨l1, l2, l3, l4⟩ := loc_ok c hl
          have := js_set (P := P) (pos' := px) l1 l2 l3 l4 (S.e T X P c e) (comp_of hc (some (.Name x px)) p.line X.env)
          rw [c.pin] at this
          exact this
      cases e with
      | ListComp elt gs sc lp =>
        unfold wSt
        simp only
        cases h : lcParts gs with
        | none => exact js_bad
        | some q =>
          obtain ⟨tg, it, ifs⟩ := q
          have e := lcParts_eq h
          subst e
          simp only
          cases hl : T.loc x with
          | none => exact js_bad
          | some i =>
            simp only
            split
            · rename_i hc
              obtain ⟨l1, l2, l3, l4⟩ := loc_ok c hl
              simp only [Bool.and_eq_true, decide_eq_true_eq, Bool.not_eq_true'] at hc
              obtain ⟨⟨h1, h2⟩, h3⟩ := hc
              have hx : X.env.scope.names.lookup x = some .local := by rw [c.sc]; exact h1
              cases n with
              | zero =>
                exact ⟨⟨fun pins s σ H D I h => by obtain ⟨F, sd, pv, pd, A, ok, R, en, hp, h⟩ := h; exact h.elim⟩, fun _ _ _ _ _ _ _ ⟨_, h⟩ => h.elim⟩
              | succ n =>
                unfold wLcE
                by_cases hk : lcOk T n sc tg it = true
                rotate_left
                · rw [if_neg hk]
                  exact ⟨⟨fun pins s σ H D I h => by obtain ⟨F, sd, pv, pd, A, ok, R, en, hp, h⟩ := h; exact h.elim⟩, fun _ _ _ _ _ _ _ ⟨_, h⟩ => h.elim⟩
                rw [if_pos hk]
                have S2 := snd_at n
                obtain ⟨k1, k2, k3, k4, k5⟩ := lc_pieces S2 c (elt := elt) (ifs := ifs) hk
                have hsw : swapsWith (.ListComp elt [⟨tg, it, ifs, 0⟩] sc lp) (some (.Name x px)) p.line X.env = pure true := sw_true (by rw [c.sc]; exact c.kind) hx h2 h3
                have := js_setLc (P := P) (py := px) (pos := lp) (spos := p) c.calm l1 l2 hx hsw (S2.it T X P c tg it) k1 (fun s H C cl fp => tg_sound (k2 s H C cl fp) n tg) (fun s H C cl fp => S2.ts _ _ _ (k2 s H C cl fp) ifs) (fun s H C cl fp => S2.e _ _ _ (k2 s H C cl fp) elt) k3 k4 k5
                rw [c.pin] at this
                exact this
            · rename_i hc
              by_cases h2 : decide (T.sc.names.lookup x = some .cell) = true
              · rw [if_pos h2]
                obtain ⟨l1, l2, l3, l4⟩ := loc_ok c hl
                have h2 : T.sc.names.lookup x = some .cell := of_decide_eq_true h2
                have hk : X.env.kindOf x = some .cell := by show X.env.scope.names.lookup x = _; rw [c.sc]; exact h2
                have hsw : swapsWithSole [.Name x px] (.ListComp elt [⟨tg, it, ifs, 0⟩] sc lp) p.line X.env = pure false := by
                  unfold swapsWithSole
                  unfold swapsWith
                  have e0 : (some NameKind.cell == some NameKind.local) = false := by decide
                  have e1 : (NameKind.cell == NameKind.local) = false := by decide
                  simp [hk, e0, e1]
                have j : JE X P (.ListComp elt [⟨tg, it, ifs, 0⟩] sc lp) (wLcE T n elt tg it ifs sc) := S.lc T X P c _ _ _ _ _ _
                have := js_set (P := P) (pos := p) (pos' := px) l1 l2 l3 l4 j hsw
                rw [c.pin] at this
                exact this
              · rw [if_neg h2]; exact js_bad
      | _ => exact plain
    | Tuple ts k pt =>
      have gen : ∀ e, JS X P (.Assign [.Tuple ts k pt] e p) (if (notComp e && notTup e) = true then wAsg (wE T n e) (wTg T n (.Tuple ts k pt)) else badS) := fun e => by
        by_cases hc : (notComp e && notTup e) = true
        rotate_left
        · rw [if_neg hc]; exact js_bad
        rw [if_pos hc]
        rw [Bool.and_eq_true] at hc
        exact js_asg (S.e T X P c e) (tg_sound c n _) (comp_sole hc.1 _ _ _) (swst_tup hc.2 _ _) rfl
      have nsw : ∀ vs k2 pt2, JS X P (.Assign [.Tuple ts k pt] (.Tuple vs k2 pt2) p) (if noSw T ts vs = true then wAsg (wE T n (.Tuple vs k2 pt2)) (wTg T n (.Tuple ts k pt)) else badS) := fun vs k2 pt2 => by
        by_cases hc : noSw T ts vs = true
        rotate_left
        · rw [if_neg hc]; exact js_bad
        rw [if_pos hc]
        exact js_asg (S.e T X P c (.Tuple vs k2 pt2)) (tg_sound c n _) rfl (noSw_ok c.sc hc) rfl
      have par3 : ∀ vs k2 pt2, JS X P (.Assign [.Tuple ts k pt] (.Tuple vs k2 pt2) p) (match par3Ok T ts vs with
              | some [x, y, z] => match T.loc x, T.loc y, T.loc z with
                | some i, some j, some l => wPar3 T.pin i j l (wAs T n false vs)
                | _, _, _ => badS
              | _ => if noSw T ts vs = true then wAsg (wE T n (.Tuple vs k2 pt2)) (wTg T n (.Tuple ts k pt)) else badS) := fun vs k2 pt2 => by
        cases h : par3Ok T ts vs with
        | none => exact nsw vs k2 pt2
        | some l =>
          match l, h with
          | [], _ => exact nsw vs k2 pt2
          | [_], _ => exact nsw vs k2 pt2
          | [_, _], _ => exact nsw vs k2 pt2
          | _ :: _ :: _ :: _ :: _, _ => exact nsw vs k2 pt2
          | [x, y, z], h =>
            simp only
            cases hx : T.loc x with
            | none => exact js_bad
            | some i =>
              cases hy : T.loc y with
              | none => exact js_bad
              | some j =>
                cases hz : T.loc z with
                | none => exact js_bad
                | some l =>
                  obtain ⟨px, py, pz, a, b, d, rfl, rfl, ⟨h1, h2, h2'⟩, ⟨h3, h3', h3''⟩, h4, h5, h5', h6⟩ := par3_ok (kt := k) (k2 := k2) (pt := pt) (pt2 := pt2) c.kind c.sc h
                  obtain ⟨l1, l2, l3, l4⟩ := loc_ok c hx
                  obtain ⟨m1, m2, m3, m4⟩ := loc_ok c hy
                  obtain ⟨q1, q2, q3, q4⟩ := loc_ok c hz
                  have hij : i ≠ j := fun e => by
                    subst e
                    rw [l2] at m2
                    exact h3 (Option.some.inj m2)
                  have hil : i ≠ l := fun e => by
                    subst e
                    rw [l2] at q2
                    exact h3' (Option.some.inj q2)
                  have hjl : j ≠ l := fun e => by
                    subst e
                    rw [m2] at q2
                    exact h3'' (Option.some.inj q2)
                  have hs : ([a, b, d] : List Expr).all notStar = true := by simp [h1, h2, h2']
                  have := js_par3 (P := P) (pos := p) (kt := k) (k2 := k2) (pt := pt) (pt2 := pt2) (px := px) (py := py) (pz := pz) c.calm l1 l2 m2 q2 hij hil hjl h4 h5 h5' (S.as T X P c false [a, b, d] hs) h6 rfl
                  rw [c.pin] at this
                  exact this
      cases e with
      | Tuple vs k2 pt2 =>
        unfold wSt
        simp only
        cases h : parOk T ts vs with
        | none => exact par3 vs k2 pt2
        | some l =>
          match l, h with
          | [], _ => exact par3 vs k2 pt2
          | [_], _ => exact par3 vs k2 pt2
          | _ :: _ :: _ :: _, _ => exact par3 vs k2 pt2
          | [x, y], h =>
            simp only
            cases hx : T.loc x with
            | none => exact js_bad
            | some i =>
              cases hy : T.loc y with
              | none => exact js_bad
              | some j =>
                obtain ⟨px, py, a, b, rfl, rfl, h1, h2, h3, h4, h5, h6⟩ := par_ok (kt := k) (k2 := k2) (pt := pt) (pt2 := pt2) c.kind c.sc h
                obtain ⟨l1, l2, l3, l4⟩ := loc_ok c hx
                obtain ⟨m1, m2, m3, m4⟩ := loc_ok c hy
                have hij : i ≠ j := fun e => by
                  subst e
                  rw [l2] at m2
                  exact h3 (Option.some.inj m2)
                have hs : ([a, b] : List Expr).all notStar = true := by simp [h1, h2]
                have := js_par (P := P) (pos := p) (kt := k) (k2 := k2) (pt := pt) (pt2 := pt2) (px := px) (py := py) c.calm l1 l2 m2 hij h4 h5 (S.as T X P c false [a, b] hs) h6 rfl
                rw [c.pin] at this
                exact this
      | _ => exact gen _
    | Subscript o k pt =>
      cases o with
      | Name x px =>
        unfold wSt
        simp only
        by_cases hc : (notComp e && notSlice k) = true
        rotate_left
        · rw [if_neg hc]; exact js_bad
        rw [if_pos hc]
        rw [Bool.and_eq_true] at hc
        cases hv : T.var x with
        | none => exact js_bad
        | some i =>
          obtain ⟨v1, v2, v3, v4⟩ := var_ok c hv
          exact js_put (by have := c.hu; omega) v1 v2 v3 v4 (S.e T X P c e) (S.e T X P c k) (comp_sole hc.1 _ _ _) (swst_sub _) rfl fun _ => asub_of hc.2 _
      | _ => exact js_bad
    | _ => exact js_bad
theorem s_sound (S : SndS n) (c : Cok T X P) (st : Stmt) : JS X P st (wSt T (n + 1) st) := by
  have S1 := snd_at n
  cases st with
  | Pass p => exact js_pass
  | Break p => exact js_break
  | Continue p => exact js_cont
  | Return v p =>
    cases v with
    | none => exact js_retN
    | some e =>
      cases e with
      | Name x px =>
        unfold wSt
        simp only
        cases hv : T.var x with
        | none => exact js_ret (S1.e T X P c _)
        | some i =>
          obtain ⟨v1, v2, v3, v4⟩ := var_ok c hv
          have := js_ret (pos := p) (je_take (P := P) (pos := px) v1 v2 v3 v4)
          rw [c.pin] at this
          exact this
      | _ => exact js_ret (S1.e T X P c _)
  | Expr e p =>
    unfold wSt
    simp only
    by_cases hc : notComp e = true
    · rw [if_pos hc]; exact js_expr (S1.e T X P c e) (comp_of hc _ _ _)
    · rw [if_neg hc]; exact js_bad
  | If t a b p => exact js_if (S1.c T X P c t) (S.ss T X P c a) (S.ss T X P c b)
  | For tg it b oe p =>
    cases oe with
    | cons _ _ => exact js_bad
    | nil =>
      unfold wSt
      simp only
      by_cases hc : notSet it = true
      · rw [if_pos hc]; exact js_for c.po c.calm (S1.it T X P c tg it) (tg_sound c n tg) (S.ss T X P c b) (set_of hc _)
      · rw [if_neg hc]; exact js_bad
  | While t b oe p =>
    cases oe with
    | cons _ _ => exact js_bad
    | nil => exact js_while c.po (S1.c T X P c t) (S.ss T X P c b)
  | AugAssign tg op e p =>
    cases tg with
    | Name x px =>
      unfold wSt
      simp only
      cases hl : T.loc x with
      | none => exact js_bad
      | some i =>
        cases ho : ipOf op with
        | none => exact js_bad
        | some f =>
          obtain ⟨l1, l2, l3, l4⟩ := loc_ok c hl
          have := js_aug (P := P) (pos' := px) (pos := p) l1 l2 l3 l4 (S1.e T X P c e) (ip_ok ho)
          rw [c.pin] at this
          exact this
    | Subscript o k px =>
      cases o with
      | Name x px2 =>
        unfold wSt
        simp only
        by_cases hc : notSlice k = true
        rotate_left
        · rw [if_neg hc]; exact js_bad
        rw [if_pos hc]
        cases hv : T.var x with
        | none => exact js_bad
        | some i =>
          cases ho : ipOf op with
          | none => exact js_bad
          | some f =>
            obtain ⟨v1, v2, v3, v4⟩ := var_ok c hv
            exact js_augS (by have := c.hu; omega) v1 v2 v3 v4 (S1.e T X P c e) (S1.e T X P c k) (ip_ok ho) (aug_of hc)
      | _ => exact js_bad
    | _ => exact js_bad
  | Assign tgs e p => exact asg_sound S1 c tgs e p
  | _ => exact js_bad
theorem sndS (n : Nat) : SndS n := by
  induction n with
  | zero => exact ⟨fun _ _ _ _ _ => js_bad, fun _ _ _ _ _ => jss_bad⟩
  | succ n ih =>
    refine ⟨fun T X P c st => s_sound ih c st, fun T X P c st => ?_⟩
    cases st with
    | nil => exact jss_nil
    | cons s r => exact jss_cons (a := wSt T n s) (b := wSs T n r) (ih.s T X P c s) (ih.ss T X P c r)

/-! ### a def by its text -/
/-- what stands around a def: the module's names and its own defs, each with its promise -/
structure Mod0 (Pg : Program) (w : World) (K : PySem.W.Frag) (mg : Str → Option Value) (base : Heap) (k : Nat) (bi : List Str) (fn : Str → Option Fn) (gl : Str → Option D) (cl : Glo) : Prop where
  bi : ∀ x ∈ bi, mg x = none
  gl : ∀ x d, gl x = some d → ∃ v u, mg x = some u ∧ RelV v u ∧ ∀ Hh, Rep K Hh v d
  fn : ∀ x f, fn x = some f → MonoF f.sp ∧ ∃ (a : Addr) (fd : FuncData), FnOk Pg w K mg base CX0 k a fd f.ps (fun vs H Q _ => spOf K cl f vs H Q E0) ∧ mg x = some (.ref a) ∧ PySem.W.keepIn K (.ref a) = true ∧ Binds K fd f.ps [] ∧
    ∀ q ∈ f.kw, ∃ g gV, KBinds K fd f.ps q.1 g gV ∧ ∀ zs : List V, zs.length = q.1.length → gV [] zs = q.2.map fun j : Nat => zs.getD j .non
/-- the def x, as it stands at the top, keeps the promise that its text's reading keeps -/
theorem def_ok {Pg : Program} {w : World} {K : PySem.W.Frag} {mg : Str → Option Value} {base : Heap} {k : Nat} {bi : List Str} {fn : Str → Option Fn} {gl : Str → Option D} {cl : Glo} {x qual : Str} {st : Stmt} {f : Addr} {fd : FuncData} {N : List Str} {g : Fn} {tb : Option Str} (fuel : Nat) (ht : ∀ z, tb = some z → ∃ c Pt, GxR.TabB base mg c Pt ∧ fd.code = .ref c ∧ cl.t z = some Pt)
    (M : Mod0 Pg w K mg base k bi fn gl cl) (F : L2.Fun K x qual st f fd) (S : FnScope N g.ps (defScope st))
    (hs : ∀ args xp Q, args.length = g.ps.length → g.sp args xp Q → wSs ⟨N, defScope st, g.pin, bi, fn, gl, fun _ => true, tb⟩ fuel (defBody st) { nx := fun sd => Q (.val .none) (retD g.pin g.ps.length sd), rt := fun r sd => Q r (retD g.pin g.ps.length sd) } (startD N.length args) xp) :
    FnOk Pg w K mg base CX0 (k + 1) f fd g.ps (fun vs H Q _ => spOf K cl g vs H Q E0) := by
  refine fn_ok0 F S (fun cdv A outer s H E hcd hr => (sndS fuel).ss ⟨N, defScope st, g.pin, bi, fn, gl, fun _ => true, tb⟩ _ _ ?_ _) hs
  refine ⟨rfl, rfl, S.kind, S.nd, rfl, rfl, M.bi, fun y h e => ?_, M.gl, fun y _ => rfl, hr.units, PassesOwn.never, ⟨hr.hd, by have := hr.dp; show (A.deeper (envOfC qual (defScope st) s.heap.objs.size f cdv)).depth < _; omega⟩, fun z e => ?_⟩
  rotate_left
  · obtain ⟨c, Pt, q1, q2, q3⟩ := ht z e
    exact ⟨c, Pt, q1, hcd.symm.trans q2, q3⟩
  obtain ⟨m, a, fd', h1, h2, h3, h4, h5⟩ := M.fn y h e
  exact ⟨m, CX0, k, a, fd', _, h1, hr, h2, h3, h4, pass0, fun vs H Q q => q, fun vs H Q q => q, fun X' _ _ => pass0, h5⟩
end
end Ev

/-! EvO: what the plain side needs: names for the operations, rules of loops, shapes. -/
namespace Ev
open PySem PySem.Spec PyProof.Rows L2
def gSub : O2 := gI (fun _ _ => True) fun i j => i - j
def gMul : O2 := gI CMul fun i j => i * j
def gDiv : O2 := gI CDivW fun i j => i / j
def gMod : O2 := gI (fun _ j => 0 < j) fun i j => i % j
def gPow : O2 := gI CPow fun i j => i ^ j.toNat
def gLt : O2 := gB fun i j => decide (i < j)
def gLe : O2 := gB fun i j => decide (i ≤ j)
def gGt : O2 := gB fun i j => decide (j < i)
def gGe : O2 := gB fun i j => decide (j ≤ i)
section
variable {i j : Int} {Q : Rv → Prop} {b c : Bool} {xs ys : List D} {sd : Sd} {xp : Ex → Prop}
theorem gAdd_ii : gAdd (.int i) (.int j) Q = Q (.val (.int (i + j))) := rfl
theorem gAdd_tt : gAdd (.tuple xs) (.tuple ys) Q = (xs.length + ys.length ≤ sizeLine ∧ Q (.val (.tuple (xs ++ ys)))) := rfl
theorem gAdd_ll : gAdd (.list xs) (.list ys) Q = (xs.length + ys.length ≤ sizeLine ∧ Q (.fresh (.L (xs ++ ys)))) := rfl
theorem gI_ii {C : Int → Int → Prop} {f : Int → Int → Int} : gI C f (.int i) (.int j) Q ↔ C i j ∧ Q (.val (.int (f i j))) := by
  constructor
  · rintro ⟨_, _, e1, e2, h⟩; cases e1; cases e2; exact h
  · exact fun h => ⟨i, j, rfl, rfl, h⟩
theorem gB_ii {f : Int → Int → Bool} : gB f (.int i) (.int j) Q ↔ Q (.val (.bool (f i j))) := by
  constructor
  · rintro ⟨_, _, e1, e2, h⟩; cases e1; cases e2; exact h
  · exact fun h => ⟨i, j, rfl, rfl, h⟩
theorem gSub_ii : gSub (.int i) (.int j) Q ↔ Q (.val (.int (i - j))) := by unfold gSub; rw [gI_ii]; simp
theorem gMul_ii : gMul (.int i) (.int j) Q ↔ CMul i j ∧ Q (.val (.int (i * j))) := gI_ii
theorem gDiv_ii : gDiv (.int i) (.int j) Q ↔ CDivW i j ∧ Q (.val (.int (i / j))) := gI_ii
theorem gMod_ii : gMod (.int i) (.int j) Q ↔ 0 < j ∧ Q (.val (.int (i % j))) := gI_ii
theorem gPow_ii : gPow (.int i) (.int j) Q ↔ CPow i j ∧ Q (.val (.int (i ^ j.toNat))) := gI_ii
theorem gLt_ii : gLt (.int i) (.int j) Q ↔ Q (.val (.bool (decide (i < j)))) := gB_ii
theorem gLe_ii : gLe (.int i) (.int j) Q ↔ Q (.val (.bool (decide (i ≤ j)))) := gB_ii
theorem gGt_ii : gGt (.int i) (.int j) Q ↔ Q (.val (.bool (decide (j < i)))) := gB_ii
theorem gGe_ii : gGe (.int i) (.int j) Q ↔ Q (.val (.bool (decide (j ≤ i)))) := gB_ii
theorem gEq_ii : gEq (.int i) (.int j) Q ↔ Q (.val (.bool (decide (i = j)))) := by
  unfold gEq
  have e : PyData.eqv (.int i) (.int j) = decide (i = j) := by simp [PyData.eqv]; rfl
  rw [e]
  exact ⟨fun h => h.2.2, fun h => ⟨rfl, rfl, h⟩⟩
theorem gNe_ii : gNe (.int i) (.int j) Q ↔ Q (.val (.bool (!decide (i = j)))) := by
  unfold gNe
  have e : PyData.eqv (.int i) (.int j) = decide (i = j) := by simp [PyData.eqv]; rfl
  rw [e]
  exact ⟨fun h => h.2.2, fun h => ⟨rfl, rfl, h⟩⟩
theorem gIs_bb {n : Bool} : gIs n (.bool b) (.bool c) Q = Q (.val (.bool (n != decide (b = c)))) := rfl
theorem gIx_t : gIx (.tuple xs) (.int i) Q ↔ ∃ d, atI xs i = some d ∧ Q (.val d) := by
  constructor
  · rintro ⟨_, e, h⟩; cases e; exact h
  · exact fun h => ⟨i, rfl, h⟩
theorem gIx_l : gIx (.list xs) (.int i) Q ↔ ∃ d, atI xs i = some d ∧ Q (.val d) := by
  constructor
  · rintro ⟨_, e, h⟩; cases e; exact h
  · exact fun h => ⟨i, rfl, h⟩
end
/-! ### one step of the reading -/
def ParG2 (i j : Nat) (as : List Ar) (s : Sd) (K : Sd → Prop) : Prop := ∃ d e, as = [.dat d, .dat e] ∧ K ((s.set i (some (.dat d))).set j (some (.dat e)))
def ParG3 (i j l : Nat) (as : List Ar) (s : Sd) (K : Sd → Prop) : Prop := ∃ d e f, as = [.dat d, .dat e, .dat f] ∧ K (((s.set i (some (.dat d))).set j (some (.dat e))).set l (some (.dat f)))
def AugG (i : Nat) (f : Int → Int → Int) (a : Int) (d : D) (s : Sd) (K : Sd → Prop) : Prop := ∃ b, d = .int b ∧ K (s.set i (some (.dat (.int (f a b)))))
def ObL (sd : Sd) (i : Nat) : Option (List D) := match sd[i]? with
  | some (some (.ob (.L xs))) => some xs
  | _ => none
theorem obl_of {sd : Sd} {i : Nat} {xs : List D} (h : ObL sd i = some xs) : sd[i]? = some (some (.ob (.L xs))) := by
  unfold ObL at h
  split at h
  · cases h; assumption
  · cases h
def AugS2 (i : Nat) (f : Int → Int → Int) (n : Nat) (a : Int) (xs : List D) (d : D) (s : Sd) (K : Sd → Prop) : Prop := ∃ ys b, s[i]? = some (some (.ob (.L ys))) ∧ d = .int b ∧ ys.length = xs.length ∧ K (s.set i (some (.ob (.L (ys.set n (.int (f a b)))))))
def AugS1 (i : Nat) (f : Int → Int → Int) (we : WT) (A : DE) (xp : Ex → Prop) (k : D) (s : Sd) : Prop := ∃ xs j n a, s[i]? = some (some (.ob (.L xs))) ∧ k = .int j ∧ ixN xs.length j = some n ∧ xs[n]? = some (.int a) ∧
  we s xp fun r s2 => frz r fun d => AugS2 i f n a xs d s2 A.nx
def PutG2 (i : Nat) (d k : D) (s : Sd) (K : Sd → Prop) : Prop := match s[i]? with
  | some (some (.ob (.L xs))) => ∃ j n, k = .int j ∧ ixN xs.length j = some n ∧ K (s.set i (some (.ob (.L (xs.set n d)))))
  | some (some (.ob (.K kds))) => ∃ key, k = keyD key ∧ kds.length < sizeLine ∧ K (s.set i (some (.ob (.K (putG kds key d)))))
  | some (some (.ob (.T kds))) => ∃ key, k = tkD key ∧ kds.length < sizeLine ∧ K (s.set i (some (.ob (.T (putG kds key d)))))
  | _ => False
def PutG (i : Nat) (wi : WT) (d : D) (A : DE) (s : Sd) (xp : Ex → Prop) : Prop := (∃ o, s[i]? = some (some (.ob o))) ∧ wi s xp fun r s2 => frz r fun k => PutG2 i d k s2 A.nx
def dats : List Ar → Option (List D)
  | [] => some []
  | .dat d :: r => match dats r with
    | some l => some (d :: l)
    | none => none
  | _ :: _ => none
theorem dats_of : ∀ {as : List Ar} {ds : List D}, dats as = some ds → as = ds.map Ar.dat
  | [], ds, h => by cases h; rfl
  | .dat d :: r, ds, h => by
    unfold dats at h
    split at h
    · rename_i l e
      cases h
      rw [dats_of e]
      rfl
    · cases h
  | .slot _ :: _, _, h => by cases h
def TupG (as : List Ar) (K : List D → Prop) : Prop := ∃ ds, as = ds.map Ar.dat ∧ ds.length ≤ sizeLine ∧ K ds
def NegG (d : D) (K : Rv → Prop) : Prop := ∃ i, d = .int i ∧ K (.val (.int (-i)))
def IxG (i : Nat) (b : D) (s : Sd) (Q : Rv → Sd → Prop) : Prop := ∃ xs j d, s[i]? = some (some (.ob (.L xs))) ∧ b = .int j ∧ atI xs j = some d ∧ Q (.val d) s
def BlG (d : D) (K : Bool → Prop) : Prop := ∃ k, d = .bool k ∧ K k
def TruG (d : D) (K : Bool → Prop) : Prop := ∃ k, truD d k ∧ K k
def PartG (d : D) (K : Option Int → Prop) : Prop := ∃ i, d = .int i ∧ K (some i)
def ItG (d : D) (K : List D → Prop) : Prop := match d with
  | .list xs => K xs
  | .tuple xs => K xs
  | _ => False
def RgG (as : List Ar) (K : List D → Prop) : Prop := ∃ j : Int, as = [.dat (.int j)] ∧ (-(2 ^ 62) ≤ j ∧ j < 2 ^ 62) ∧ K (rangeD 0 j.toNat)
def RgG2 (as : List Ar) (K : List D → Prop) : Prop := ∃ i j : Int, as = [.dat (.int i), .dat (.int j)] ∧ (-(2 ^ 62) ≤ i ∧ i < 2 ^ 62 ∧ -(2 ^ 62) ≤ j ∧ j < 2 ^ 62) ∧ K (rangeD i (j - i).toNat)
def AppG (i : Nat) (d : D) (s : Sd) (Q : Rv → Sd → Prop) : Prop := ∃ xs, s[i]? = some (some (.ob (.L xs))) ∧ xs.length < sizeLine ∧ Q (.val .none) (s.set i (some (.ob (.L (xs ++ [d])))))
def IsiG (T : String) (d : D) (K : Rv → Prop) : Prop := (∀ kvs, d ≠ .dict kvs) ∧ K (.val (.bool (isD d T)))
def noDict : D → Bool
  | .dict _ => false
  | _ => true
def CallG (fn : Fn) (as : List Ar) (s : Sd) (xp : Ex → Prop) (Q : Rv → Sd → Prop) : Prop := (slotsOf as).Nodup ∧ ∃ args, as.map (Ar.sl s) = args.map some ∧ args.length = fn.ps.length ∧ (∀ (i : Nat) o, args[i]? = some (.ob o) → i ∈ fn.pin) ∧
  fn.sp args xp fun r s' => Q r (back s as s')
def CallK (fn : Fn) (perm : List Nat) (as : List Ar) (s : Sd) (xp : Ex → Prop) (Q : Rv → Sd → Prop) : Prop := ∃ ds, as = ds.map Ar.dat ∧ perm.length = fn.ps.length ∧ (∀ j ∈ perm, j < ds.length) ∧
  fn.sp ((permD perm ds).map Sl.dat) xp fun r _ => Q r s
def ndB : List Nat → Bool
  | [] => true
  | a :: r => !(r.any fun b => Nat.beq a b) && ndB r
theorem ndB_nd : ∀ {l : List Nat}, ndB l = true → l.Nodup
  | [], _ => List.nodup_nil
  | a :: r, h => by
    have h : (!(r.any fun b => Nat.beq a b) && ndB r) = true := h
    rw [Bool.and_eq_true] at h
    refine List.nodup_cons.mpr ⟨fun m => ?_, ndB_nd h.2⟩
    have h1 := h.1
    simp only [Bool.not_eq_true', List.any_eq_false] at h1
    exact h1 a m (Nat.beq_refl a)
def argsOf (sd : Sd) : List Ar → Option (List Sl)
  | [] => some []
  | a :: r => match a.sl sd, argsOf sd r with
    | some s, some l => some (s :: l)
    | _, _ => none
theorem argsOf_eq {sd : Sd} : ∀ {as : List Ar} {args : List Sl}, argsOf sd as = some args → as.map (Ar.sl sd) = args.map some
  | [], args, h => by cases h; rfl
  | a :: r, args, h => by
    unfold argsOf at h
    split at h
    · rename_i s l e1 e2
      cases h
      rw [List.map_cons, List.map_cons, argsOf_eq e2, e1]
    · cases h
def pinOk (pin : List Nat) : Nat → List Sl → Bool
  | _, [] => true
  | k, .ob _ :: r => decide (k ∈ pin) && pinOk pin (k + 1) r
  | k, .dat _ :: r => pinOk pin (k + 1) r
theorem pinOk_at {pin : List Nat} : ∀ {k : Nat} {args : List Sl}, pinOk pin k args = true → ∀ (i : Nat) o, args[i]? = some (.ob o) → k + i ∈ pin
  | k, [], _, i, o, e => by simp at e
  | k, .ob _ :: r, h, i, o, e => by
    have h : (decide (k ∈ pin) && pinOk pin (k + 1) r) = true := h
    rw [Bool.and_eq_true] at h
    cases i with
    | zero => simpa using h.1
    | succ i =>
      have := pinOk_at h.2 i o (by simpa using e)
      rw [show k + (i + 1) = k + 1 + i by omega]
      exact this
  | k, .dat _ :: r, h, i, o, e => by
    cases i with
    | zero => simp at e
    | succ i =>
      have := pinOk_at (show pinOk pin (k + 1) r = true from h) i o (by simpa using e)
      rw [show k + (i + 1) = k + 1 + i by omega]
      exact this
section
variable {a b : WS} {A : DE} {sd : Sd} {xp : Ex → Prop} {pin : List Nat} {i j l : Nat} {w wa wb wc : WT} {wr : WA} {Q : Rv → Sd → Prop} {R : Rv → Prop} {QA : List Ar → Sd → Prop} {QB : Bool → Sd → Prop} {QO : Option Int → Sd → Prop} {QS : Sd → Prop} {QI : List D → Sd → Prop} {K : D → Prop} {d e f : D} {m n k : Int} {xs ys : List D} {u v : WC} {g : O2} {lo hi : WO}
theorem x_seq (h : a { A with nx := fun s => b A s xp } sd xp) : wSeq a b A sd xp := h
theorem x_next (h : A.nx sd) : wNext A sd xp := h
theorem x_brk (h : A.bk sd) : wBrk A sd xp := h
theorem x_cnt (h : A.ct sd) : wCnt A sd xp := h
theorem x_ret (h : w sd xp A.rt) : wRet w A sd xp := h
theorem x_retN (h : A.rt (.val .none) sd) : wRetN A sd xp := h
theorem x_set (h0 : i ∉ pin) (h : w sd xp fun r s => A.nx (s.set i (some r.sl))) : wSet pin i w A sd xp := ⟨h0, h⟩
theorem x_drop (h : w sd xp fun _ s => A.nx s) : wDrop w A sd xp := h
theorem x_ifS (h : u sd xp fun k s => if k = true then a A s xp else b A s xp) : wIfS u a b A sd xp := h
theorem x_ite {p : Prop} [Decidable p] {A1 B1 : Prop} (h1 : p → A1) (h2 : ¬p → B1) : if decide p = true then A1 else B1 := by
  by_cases h : p
  · rw [if_pos (decide_eq_true h)]; exact h1 h
  · rw [if_neg (by simpa using h)]; exact h2 h
theorem x_iteN {p : Prop} [Decidable p] {A1 B1 : Prop} (h1 : ¬p → A1) (h2 : p → B1) : if (!decide p) = true then A1 else B1 := by
  by_cases h : p
  · rw [if_neg (by simpa using h)]; exact h2 h
  · rw [if_pos (by simpa using h)]; exact h1 h
theorem x_iteT {A1 B1 : Prop} (h1 : A1) : if true = true then A1 else B1 := by rw [if_pos rfl]; exact h1
theorem x_iteF {A1 B1 : Prop} (h1 : B1) : if false = true then A1 else B1 := by rw [if_neg Bool.false_ne_true]; exact h1
theorem x_iteNT {A1 B1 : Prop} (h1 : B1) : if (!true) = true then A1 else B1 := x_iteF h1
theorem x_iteNF {A1 B1 : Prop} (h1 : A1) : if (!false) = true then A1 else B1 := x_iteT h1
theorem x_iteB {c : Bool} {A1 B1 : Prop} (h1 : c = true → A1) (h2 : c = false → B1) : if c = true then A1 else B1 := by
  cases c
  · rw [if_neg Bool.false_ne_true]; exact h2 rfl
  · rw [if_pos rfl]; exact h1 rfl
theorem x_for {it : WI} {g : WG} (h : it sd xp fun items s => forGo g b A xp items s) : wFor it g b A sd xp := h
theorem x_par (h0 : i ∉ pin) (h1 : j ∉ pin) (h : wr sd xp fun as s => ParG2 i j as s A.nx) : wPar pin i j wr A sd xp := ⟨h0, h1, h⟩
theorem x_parG (h : A.nx ((sd.set i (some (.dat d))).set j (some (.dat e)))) : ParG2 i j [.dat d, .dat e] sd A.nx := ⟨d, e, rfl, h⟩
theorem x_par3 (h0 : i ∉ pin) (h1 : j ∉ pin) (h2 : l ∉ pin) (h : wr sd xp fun as s => ParG3 i j l as s A.nx) : wPar3 pin i j l wr A sd xp := ⟨h0, h1, h2, h⟩
theorem x_parG3 (h : A.nx (((sd.set i (some (.dat d))).set j (some (.dat e))).set l (some (.dat f)))) : ParG3 i j l [.dat d, .dat e, .dat f] sd A.nx := ⟨d, e, f, rfl, h⟩
theorem x_asg {g : WG} (h : w sd xp fun r s => frz r fun d => g d s A.nx) : wAsg w g A sd xp := h
theorem x_to (h0 : i ∉ pin) (h : QS (sd.set i (some (.dat d)))) : wTo pin i d sd QS := ⟨h0, h⟩
theorem x_gT {r : WGs} {n : Nat} (hl : xs.length = n) (h : r xs sd QS) : wGT n r (.tuple xs) sd QS := ⟨xs, rfl, hl, h⟩
theorem x_g0 (h : QS sd) : wG0 [] sd QS := ⟨rfl, h⟩
theorem x_g1 {g : WG} {r : WGs} (h : g d sd fun s => r xs s QS) : wG1 g r (d :: xs) sd QS := ⟨d, xs, rfl, h⟩
theorem x_aug {f : Int → Int → Int} (h0 : i ∉ pin) (h1 : sd[i]? = some (some (.dat (.int m)))) (h : w sd xp fun r s => frz r fun d => AugG i f m d s A.nx) : wAug pin i f w A sd xp := ⟨h0, m, h1, h⟩
theorem x_augG {f : Int → Int → Int} (h : QS (sd.set i (some (.dat (.int (f m n)))))) : AugG i f m (.int n) sd QS := ⟨n, rfl, h⟩
theorem x_drp (h : Q (.val .none) sd) : wC .none sd xp Q := h
/-- x[k] += e -/
theorem x_augS {f : Int → Int → Int} (h1 : ObL sd i = some xs) (h : wa sd xp fun r s => frz r fun k => AugS1 i f wb A xp k s) : wAugS i f wa wb A sd xp := ⟨⟨xs, obl_of h1⟩, h⟩
theorem x_augS1 {f : Int → Int → Int} {p : Nat} (h1 : ObL sd i = some xs) (h2 : ixN xs.length k = some p) (h3 : xs[p]? = some (.int m)) (h : wb sd xp fun r s => frz r fun d => AugS2 i f p m xs d s A.nx) : AugS1 i f wb A xp (.int k) sd := ⟨xs, k, p, m, obl_of h1, rfl, h2, h3, h⟩
theorem x_augS2 {f : Int → Int → Int} {p : Nat} (h1 : ObL sd i = some ys) (h2 : ys.length = xs.length) (h : QS (sd.set i (some (.ob (.L (ys.set p (.int (f m n)))))))) : AugS2 i f p m xs (.int n) sd QS := ⟨ys, n, obl_of h1, rfl, h2, h⟩
theorem x_put (h : w sd xp fun r s => frz r fun d => PutG i wa d A s xp) : wPut i w wa A sd xp := h
theorem x_putG {o : Ob} (h0 : sd[i]? = some (some (.ob o))) (h : wa sd xp fun r s => frz r fun k => PutG2 i d k s A.nx) : PutG i wa d A sd xp := ⟨⟨o, h0⟩, h⟩
theorem x_putL {p : Nat} (h1 : ObL sd i = some xs) (h2 : ixN xs.length k = some p) (h : QS (sd.set i (some (.ob (.L (xs.set p d)))))) : PutG2 i d (.int k) sd QS := by
  unfold PutG2
  rw [obl_of h1]
  exact ⟨k, p, rfl, h2, h⟩
-- expressions
theorem x_op (h : wa sd xp fun r s => frz r fun x => wb s xp fun r' s' => frz r' fun y => g x y fun z => Q z s') : wOp g wa wb sd xp Q := h
theorem x_fv (h : K d) : frz (.val d) K := h
theorem x_fl (h : K (.list xs)) : frz (.fresh (.L xs)) K := h
theorem x_c (h : Q (.val d) sd) : wC d sd xp Q := h
theorem x_var (h1 : sd[i]? = some (some (.dat d))) (h : Q (.val d) sd) : wVar i sd xp Q := ⟨_, h1, h⟩
theorem x_varO (h1 : sd[i]? = some (some (.ob (.L xs)))) (h : Q (.val (.list xs)) (sd.set i (some (.dat (.list xs))))) : wVar i sd xp Q := ⟨_, h1, h⟩
theorem x_bi {g : GB} (h : wr sd xp fun as s => g as s fun r => Q r s) : wBi g wr sd xp Q := h
theorem x_nil (h : QA [] sd) : wNil sd xp QA := h
theorem x_dat (h : w sd xp fun r s => frz r fun d => wr s xp fun as s2 => QA (.dat d :: as) s2) : wDat w wr sd xp QA := h
theorem x_handD (h1 : sd[i]? = some (some (.dat d))) (h : wr sd xp fun as s2 => QA (.dat d :: as) s2) : wHand i wr sd xp QA := by
  unfold wHand
  rw [h1]
  exact ⟨_, h1, h⟩
theorem x_handO {o : Ob} (h1 : sd[i]? = some (some (.ob o))) (h : wr sd xp fun as s2 => QA (.slot i :: as) s2) : wHand i wr sd xp QA := by
  unfold wHand
  rw [h1]
  exact h
theorem x_tup (h : wr sd xp fun as s => TupG as fun ds => Q (.val (.tuple ds)) s) : wTup wr sd xp Q := h
theorem x_lst (h : wr sd xp fun as s => TupG as fun ds => Q (.fresh (.L ds)) s) : wLst wr sd xp Q := h
theorem x_tupG {as : List Ar} {ds : List D} {QD : List D → Prop} (h0 : dats as = some ds) (h1 : Nat.ble ds.length 1000 = true) (h : QD ds) : TupG as QD := ⟨ds, dats_of h0, by
  have := Nat.le_of_ble_eq_true h1
  rw [sizeLine_eq]
  omega, h⟩
theorem x_if (h : u sd xp fun k s => if k = true then wa s xp Q else wb s xp Q) : wIf u wa wb sd xp Q := h
theorem x_neg (h : w sd xp fun r s => frz r fun d => NegG d fun z => Q z s) : wNeg w sd xp Q := h
theorem x_negG (h : R (.val (.int (-m)))) : NegG (.int m) R := ⟨m, rfl, h⟩
theorem x_ixNO (h1 : sd[i]? = some (some (.ob (.L xs)))) (h : wb sd xp fun r s => frz r fun d => IxG i d s Q) : wIxN i wb sd xp Q := by
  unfold wIxN
  rw [h1]
  exact ⟨⟨_, h1⟩, h⟩
theorem x_ixG (h1 : ObL sd i = some xs) (h2 : atI xs m = some d) (h : Q (.val d) sd) : IxG i (.int m) sd Q := ⟨xs, m, d, obl_of h1, rfl, h2, h⟩
theorem x_ixND (h1 : sd[i]? = some (some (.dat d))) (h : wOp gIx (wC d) wb sd xp Q) : wIxN i wb sd xp Q := by
  unfold wIxN
  rw [h1]
  exact ⟨_, h1, h⟩
theorem x_ixt (h1 : atI xs m = some d) (h : R (.val d)) : gIx (.tuple xs) (.int m) R := ⟨m, rfl, d, h1, h⟩
theorem x_ixl (h1 : atI xs m = some d) (h : R (.val d)) : gIx (.list xs) (.int m) R := ⟨m, rfl, d, h1, h⟩
theorem x_ixInts {ns : List Int} (h0 : 0 ≤ m ∧ m < (ns.map PyData.int).length) (h : ∀ t ∈ ns, R (.val (.int t))) : gIx (.list (ns.map PyData.int)) (.int m) R := by
  have hi : m.toNat < ns.length := by have := h0.2; rw [List.length_map] at this; omega
  refine ⟨m, rfl, .int ns[m.toNat], ?_, h _ (List.getElem_mem hi)⟩
  unfold atI ixN
  rw [if_pos h0.1, if_pos h0.2]
  show (ns.map PyData.int)[m.toNat]? = _
  rw [List.getElem?_map, List.getElem?_eq_getElem hi]
  rfl
theorem x_ixt0 (h : R (.val d)) : gIx (.tuple (d :: xs)) (.int 0) R := ⟨0, rfl, d, atI_nat (j := 0) rfl, h⟩
theorem x_ixl0 (h : R (.val d)) : gIx (.list (d :: xs)) (.int 0) R := ⟨0, rfl, d, atI_nat (j := 0) rfl, h⟩
theorem x_ixt1 {a0 : D} (h : R (.val d)) : gIx (.tuple (a0 :: d :: xs)) (.int 1) R := ⟨1, rfl, d, atI_nat (j := 1) rfl, h⟩
theorem x_ixl1 {a0 : D} (h : R (.val d)) : gIx (.list (a0 :: d :: xs)) (.int 1) R := ⟨1, rfl, d, atI_nat (j := 1) rfl, h⟩
theorem x_ixt2 {a0 : D} {a1 : D} (h : R (.val d)) : gIx (.tuple (a0 :: a1 :: d :: xs)) (.int 2) R := ⟨2, rfl, d, atI_nat (j := 2) rfl, h⟩
theorem x_ixl2 {a0 : D} {a1 : D} (h : R (.val d)) : gIx (.list (a0 :: a1 :: d :: xs)) (.int 2) R := ⟨2, rfl, d, atI_nat (j := 2) rfl, h⟩
theorem x_ixt3 {a0 : D} {a1 : D} {a2 : D} (h : R (.val d)) : gIx (.tuple (a0 :: a1 :: a2 :: d :: xs)) (.int 3) R := ⟨3, rfl, d, atI_nat (j := 3) rfl, h⟩
theorem x_ixl3 {a0 : D} {a1 : D} {a2 : D} (h : R (.val d)) : gIx (.list (a0 :: a1 :: a2 :: d :: xs)) (.int 3) R := ⟨3, rfl, d, atI_nat (j := 3) rfl, h⟩
theorem x_ixt4 {a0 : D} {a1 : D} {a2 : D} {a3 : D} (h : R (.val d)) : gIx (.tuple (a0 :: a1 :: a2 :: a3 :: d :: xs)) (.int 4) R := ⟨4, rfl, d, atI_nat (j := 4) rfl, h⟩
theorem x_ixl4 {a0 : D} {a1 : D} {a2 : D} {a3 : D} (h : R (.val d)) : gIx (.list (a0 :: a1 :: a2 :: a3 :: d :: xs)) (.int 4) R := ⟨4, rfl, d, atI_nat (j := 4) rfl, h⟩
theorem x_ixt5 {a0 : D} {a1 : D} {a2 : D} {a3 : D} {a4 : D} (h : R (.val d)) : gIx (.tuple (a0 :: a1 :: a2 :: a3 :: a4 :: d :: xs)) (.int 5) R := ⟨5, rfl, d, atI_nat (j := 5) rfl, h⟩
theorem x_ixl5 {a0 : D} {a1 : D} {a2 : D} {a3 : D} {a4 : D} (h : R (.val d)) : gIx (.list (a0 :: a1 :: a2 :: a3 :: a4 :: d :: xs)) (.int 5) R := ⟨5, rfl, d, atI_nat (j := 5) rfl, h⟩
theorem x_ixt6 {a0 : D} {a1 : D} {a2 : D} {a3 : D} {a4 : D} {a5 : D} (h : R (.val d)) : gIx (.tuple (a0 :: a1 :: a2 :: a3 :: a4 :: a5 :: d :: xs)) (.int 6) R := ⟨6, rfl, d, atI_nat (j := 6) rfl, h⟩
theorem x_ixl6 {a0 : D} {a1 : D} {a2 : D} {a3 : D} {a4 : D} {a5 : D} (h : R (.val d)) : gIx (.list (a0 :: a1 :: a2 :: a3 :: a4 :: a5 :: d :: xs)) (.int 6) R := ⟨6, rfl, d, atI_nat (j := 6) rfl, h⟩
theorem x_ixt7 {a0 : D} {a1 : D} {a2 : D} {a3 : D} {a4 : D} {a5 : D} {a6 : D} (h : R (.val d)) : gIx (.tuple (a0 :: a1 :: a2 :: a3 :: a4 :: a5 :: a6 :: d :: xs)) (.int 7) R := ⟨7, rfl, d, atI_nat (j := 7) rfl, h⟩
theorem x_ixl7 {a0 : D} {a1 : D} {a2 : D} {a3 : D} {a4 : D} {a5 : D} {a6 : D} (h : R (.val d)) : gIx (.list (a0 :: a1 :: a2 :: a3 :: a4 :: a5 :: a6 :: d :: xs)) (.int 7) R := ⟨7, rfl, d, atI_nat (j := 7) rfl, h⟩
theorem x_add (h : R (.val (.int (m + n)))) : gAdd (.int m) (.int n) R := h
theorem x_addt (h1 : xs.length + ys.length ≤ sizeLine) (h : R (.val (.tuple (xs ++ ys)))) : gAdd (.tuple xs) (.tuple ys) R := ⟨h1, h⟩
theorem x_addl (h1 : xs.length + ys.length ≤ sizeLine) (h : R (.fresh (.L (xs ++ ys)))) : gAdd (.list xs) (.list ys) R := ⟨h1, h⟩
theorem x_sub (h : R (.val (.int (m - n)))) : gSub (.int m) (.int n) R := gSub_ii.mpr h
theorem x_mul (h1 : CMul m n) (h : R (.val (.int (m * n)))) : gMul (.int m) (.int n) R := gMul_ii.mpr ⟨h1, h⟩
theorem cdiv_w (h : CDiv m n) : CDivW m n := wide_div h.1 (b := 30) (by have := h.2; have := h.1; omega) (by decide) (by decide)
theorem x_div (h1 : CDiv m n) (h : R (.val (.int (m / n)))) : gDiv (.int m) (.int n) R := gDiv_ii.mpr ⟨cdiv_w h1, h⟩
theorem x_divW (h1 : CDivW m n) (h : R (.val (.int (m / n)))) : gDiv (.int m) (.int n) R := gDiv_ii.mpr ⟨h1, h⟩
theorem x_div30 (h1 : 0 < n ∧ n < 1000000000000000000000000000000) (h : R (.val (.int (m / n)))) : gDiv (.int m) (.int n) R := by
  have h2 : n.natAbs < 1000000000000000000000000000000 := by omega
  exact gDiv_ii.mpr ⟨wide_div h1.1 (b := 100) (Nat.lt_trans h2 (by decide)) (by decide) (by decide), h⟩
theorem x_mod (h1 : 0 < n) (h : R (.val (.int (m % n)))) : gMod (.int m) (.int n) R := gMod_ii.mpr ⟨h1, h⟩
theorem x_pow (h1 : CPow m n) (h : R (.val (.int (m ^ n.toNat)))) : gPow (.int m) (.int n) R := gPow_ii.mpr ⟨h1, h⟩
theorem x_lt (h : R (.val (.bool (decide (m < n))))) : gLt (.int m) (.int n) R := gLt_ii.mpr h
theorem x_le (h : R (.val (.bool (decide (m ≤ n))))) : gLe (.int m) (.int n) R := gLe_ii.mpr h
theorem x_gt (h : R (.val (.bool (decide (n < m))))) : gGt (.int m) (.int n) R := gGt_ii.mpr h
theorem x_ge (h : R (.val (.bool (decide (n ≤ m))))) : gGe (.int m) (.int n) R := gGe_ii.mpr h
theorem x_eq (h : R (.val (.bool (decide (m = n))))) : gEq (.int m) (.int n) R := gEq_ii.mpr h
theorem x_ne (h : R (.val (.bool (!decide (m = n))))) : gNe (.int m) (.int n) R := gNe_ii.mpr h
theorem x_is {p q : Bool} (h : R (.val (.bool (decide (p = q))))) : gIs false (.bool p) (.bool q) R := by
  show R (.val (.bool (false != decide (p = q))))
  simpa using h
theorem x_bl (h : w sd xp fun r s => frz r fun d => BlG d fun k => QB k s) : wBl w sd xp QB := h
theorem x_blG {p : Bool} {QP : Bool → Prop} (h : QP p) : BlG (.bool p) QP := ⟨p, rfl, h⟩
theorem x_tru (h : w sd xp fun r s => frz r fun d => TruG d fun k => QB k s) : wTru w sd xp QB := h
theorem x_truB {p : Bool} {QP : Bool → Prop} (h : QP p) : TruG (.bool p) QP := ⟨p, rfl, h⟩
theorem x_truI {QP : Bool → Prop} (h : QP (!decide (m = 0))) : TruG (.int m) QP := ⟨_, by show _ = (m != 0); simp [bne, BEq.beq], h⟩
theorem x_truL {QP : Bool → Prop} (h : QP (!xs.isEmpty)) : TruG (.list xs) QP := ⟨_, rfl, h⟩
theorem x_truT {QP : Bool → Prop} (h : QP (!xs.isEmpty)) : TruG (.tuple xs) QP := ⟨_, rfl, h⟩
theorem x_andC (h : u sd xp fun k s => if k = true then v s xp QB else QB false s) : wAndC u v sd xp QB := h
theorem x_orC (h : u sd xp fun k s => if k = true then QB true s else v s xp QB) : wOrC u v sd xp QB := h
theorem x_notC (h : u sd xp fun k s => QB (!k) s) : wNotC u sd xp QB := h
theorem x_andV (h : wa sd xp fun r s => frz r fun d => BlG d fun k => if k = true then wb s xp Q else Q (.val (.bool false)) s) : wAndV wa wb sd xp Q := h
theorem x_orV (h : wa sd xp fun r s => frz r fun d => BlG d fun k => if k = true then Q (.val (.bool true)) s else wb s xp Q) : wOrV wa wb sd xp Q := h
theorem x_notV (h : w sd xp fun r s => frz r fun d => TruG d fun k => Q (.val (.bool (!k))) s) : wNotV w sd xp Q := h
theorem x_ch {g g' : O2} (h : wa sd xp fun r s => frz r fun x => wb s xp fun r' s' => frz r' fun y => g x y fun z => frz z fun t => BlG t fun k => if k = true then wc s' xp fun r'' s'' => frz r'' fun t => g' y t fun q => Q q s'' else Q (.val (.bool false)) s') : wCh g g' wa wb wc sd xp Q := h
theorem x_sl (h : w sd xp fun r s => frz r fun x => lo s xp fun p s2 => hi s2 xp fun q s3 => gSl x p q fun z => Q z s3) : wSl w lo hi sd xp Q := h
theorem x_noPart (h : QO none sd) : noPart sd xp QO := h
theorem x_part (h : w sd xp fun r s => frz r fun d => PartG d fun p => QO p s) : part w sd xp QO := h
theorem x_partG {QP : Option Int → Prop} (h : QP (some m)) : PartG (.int m) QP := ⟨m, rfl, h⟩
theorem x_slL {p q : Option Int} (h : R (.fresh (.L (cutD xs p q)))) : gSl (.list xs) p q R := h
theorem x_slT {p q : Option Int} (h : R (.val (.tuple (cutD xs p q)))) : gSl (.tuple xs) p q R := h
theorem x_items (h : w sd xp fun r s => frz r fun d => ItG d fun xs => QI xs s) : wItems w sd xp QI := by
  exact h
theorem x_itL {QP : List D → Prop} (h : QP xs) : ItG (.list xs) QP := h
theorem x_itT {QP : List D → Prop} (h : QP xs) : ItG (.tuple xs) QP := h
theorem x_range1 (h : wr sd xp fun as s => RgG as fun xs => QI xs s) : wRange1 wr sd xp QI := h
theorem x_rgG {QP : List D → Prop} (h0 : -(2 ^ 62) ≤ m ∧ m < 2 ^ 62) (h : QP (rangeD 0 m.toNat)) : RgG [.dat (.int m)] QP := ⟨m, rfl, h0, h⟩
theorem x_range2 (h : wr sd xp fun as s => RgG2 as fun xs => QI xs s) : wRange2 wr sd xp QI := h
theorem x_rgG2 {QP : List D → Prop} (h0 : -(2 ^ 62) ≤ m ∧ m < 2 ^ 62 ∧ -(2 ^ 62) ≤ n ∧ n < 2 ^ 62) (h : QP (rangeD m (n - m).toNat)) : RgG2 [.dat (.int m), .dat (.int n)] QP := ⟨m, n, rfl, h0, h⟩
theorem x_lc {it : WI} {own : List Nat} {tg : WG} {te : WC} (h : it sd xp fun items s => lcGo own tg te w items (wipeD own s) [] fun acc s2 => Q (.fresh (.L acc)) (wipeD own s2)) : wLc it own tg te w sd xp Q := h
theorem x_take (h0 : i ∉ pin) {o : Ob} (h1 : sd[i]? = some (some (.ob o))) (h : Q (.fresh o) (sd.set i none)) : wTake pin i sd xp Q := by
  unfold wTake
  rw [if_neg h0, h1]
  exact h
theorem x_takeD (h0 : i ∉ pin) (h1 : sd[i]? = some (some (.dat d))) (h : Q (.val d) sd) : wTake pin i sd xp Q := by
  unfold wTake
  rw [if_neg h0, h1]
  exact ⟨_, h1, h⟩
theorem x_app (h0 : ∃ ys, ObL sd i = some ys) (h : w sd xp fun r s => frz r fun d => AppG i d s Q) : wApp i w sd xp Q := by
  obtain ⟨ys, h0⟩ := h0
  exact ⟨⟨ys, obl_of h0⟩, h⟩
theorem x_appG (h1 : ObL sd i = some xs) (h2 : xs.length < sizeLine) (h : Q (.val .none) (sd.set i (some (.ob (.L (xs ++ [d])))))) : AppG i d sd Q := ⟨xs, obl_of h1, h2, h⟩
theorem x_isi {T : String} (h : w sd xp fun r s => frz r fun d => IsiG T d fun z => Q z s) : wIsi T w sd xp Q := h
theorem x_isiG {T : String} (h0 : noDict d = true) (h : R (.val (.bool (isD d T)))) : IsiG T d R := ⟨fun kvs e => (by subst e; cases h0), h⟩
theorem x_isiT {T : String} (h0 : noDict d = true) (h1 : isD d T = true) (h : R (.val (.bool true))) : IsiG T d R := x_isiG h0 (by rw [h1]; exact h)
theorem x_isiF {T : String} (h0 : noDict d = true) (h1 : isD d T = false) (h : R (.val (.bool false))) : IsiG T d R := x_isiG h0 (by rw [h1]; exact h)
theorem x_int (h : R (.val (.int m))) : bInt [.dat (.int m)] sd R := .inl ⟨m, rfl, h⟩
theorem x_intB {p : Bool} (h : R (.val (.int (if p = true then 1 else 0)))) : bInt [.dat (.bool p)] sd R := .inr ⟨p, rfl, h⟩
theorem x_abs (h : R (.val (.int (if m < 0 then -m else m)))) : bAbs [.dat (.int m)] sd R := ⟨m, rfl, h⟩
theorem x_max2 (h : R (.val (.int (if n > m then n else m)))) : bMax2 [.dat (.int m), .dat (.int n)] sd R := ⟨m, n, rfl, h⟩
theorem x_min2 (h : R (.val (.int (if n < m then n else m)))) : bMin2 [.dat (.int m), .dat (.int n)] sd R := ⟨m, n, rfl, h⟩
theorem x_len {ar : Ar} (h1 : arD sd ar = some (.list xs)) (h : R (.val (.int xs.length))) : bLen [ar] sd R := ⟨ar, _, _, rfl, h1, rfl, h⟩
theorem x_lenT {ar : Ar} (h1 : arD sd ar = some (.tuple xs)) (h : R (.val (.int xs.length))) : bLen [ar] sd R := ⟨ar, _, _, rfl, h1, rfl, h⟩
theorem x_btup {ar : Ar} (h1 : arD sd ar = some (.list xs)) (h : R (.val (.tuple xs))) : bTup [ar] sd R := .inl ⟨ar, xs, rfl, h1, h⟩
theorem x_btupT (h : R (.val (.tuple xs))) : bTup [.dat (.tuple xs)] sd R := .inr ⟨xs, rfl, h⟩
theorem x_blst {ar : Ar} (h1 : arD sd ar = some (.list xs)) (h : R (.fresh (.L xs))) : bLst [ar] sd R := .inl ⟨ar, xs, rfl, h1, h⟩
theorem x_blstT (h : R (.fresh (.L xs))) : bLst [.dat (.tuple xs)] sd R := .inr ⟨xs, rfl, h⟩
theorem x_sort {ar : Ar} {ns : List Int} (h1 : arD sd ar = some (.list (ns.map PyData.int))) (h : ∀ ns' : List Int, ns'.Perm ns → ns'.Pairwise (· ≤ ·) → R (.fresh (.L (ns'.map PyData.int)))) : bSort [ar] sd R := .inl ⟨ar, ns, rfl, h1, h⟩
theorem x_sortK {kds : List (Key × D)} (ks : List Int) (h1 : sd[i]? = some (some (.ob (.K kds)))) (h2 : kds.map (·.1) = ks.map Sum.inl) (h3 : ks.length < 64) (h : ∀ ns' : List Int, ns'.Perm ks → ns'.Pairwise (· ≤ ·) → R (.fresh (.L (ns'.map PyData.int)))) : bSort [.slot i] sd R := .inr (.inl ⟨i, kds, ks, rfl, h1, h2, h3, h⟩)
theorem x_sortT {kds : List (List Key × D)} (nss : List (List Int)) (dn : Nat) (B : Int) (h1 : sd[i]? = some (some (.ob (.T kds)))) (h2 : kds.map (·.1) = nss.map (fun ns => ns.map Sum.inl)) (h3 : nss.length < 64) (h4 : 1 ≤ dn) (h5 : ∀ ns ∈ nss, ns.length = dn ∧ TS.Bd B ns) (h : ∀ nss' : List (List Int), nss'.Perm nss → nss'.Pairwise (fun q r => TS.code B q ≤ TS.code B r) → R (.fresh (.L (nss'.map fun ns => PyData.tuple (ns.map PyData.int))))) : bSort [.slot i] sd R := .inr (.inr ⟨i, kds, nss, dn, B, rfl, h1, h2, h3, h4, h5, h⟩)
theorem x_call {fn : Fn} (h : wr sd xp fun as s => CallG fn as s xp Q) : wCall fn wr sd xp Q := h
theorem x_callG {fn : Fn} {as : List Ar} {args : List Sl} (h1 : argsOf sd as = some args) (h0 : ndB (slotsOf as) = true) (h2 : args.length = fn.ps.length) (h3 : pinOk fn.pin 0 args = true) (h : fn.sp args xp fun r s => Q r (back sd as s)) : CallG fn as sd xp Q :=
  ⟨ndB_nd h0, args, argsOf_eq h1, h2, fun i o e => by simpa using pinOk_at h3 i o e, h⟩
theorem x_callK {fn : Fn} {perm : List Nat} (h : wr sd xp fun as s => CallK fn perm as s xp Q) : wCallK fn perm wr sd xp Q := h
theorem x_callKG {fn : Fn} {perm : List Nat} {as : List Ar} {ds : List D} (h1 : dats as = some ds) (h2 : perm.length = fn.ps.length) (h3 : (perm.all fun j => decide (j < ds.length)) = true) (h : fn.sp ((permD perm ds).map Sl.dat) xp fun r _ => Q r sd) : CallK fn perm as sd xp Q :=
  ⟨ds, dats_of h1, h2, fun j m => by simpa using List.all_eq_true.mp h3 j m, h⟩
end
/-! ### loops -/
theorem for_rule {g : WG} {b : WS} {A : DE} {xp : Ex → Prop} (I : List D → Sd → Prop) (hn : ∀ sd, I [] sd → A.nx sd) (hc : ∀ (NX : Sd → Prop) x xs sd, I (x :: xs) sd → (∀ s, I xs s → NX s) → g x sd fun sd1 => b { A with nx := NX, ct := NX, bk := A.nx } sd1 xp) :
    ∀ (items : List D) (sd : Sd), I items sd → forGo g b A xp items sd
  | [], sd, h => hn sd h
  | x :: xs, sd, h => hc _ x xs sd h fun s q => for_rule I hn hc xs s q
theorem rangeD_cons (lo : Int) (n : Nat) : rangeD lo (n + 1) = .int lo :: rangeD (lo + 1) n := by
  unfold rangeD
  rw [List.range_succ_eq_map, List.map_cons, List.map_map]
  congr 1
  · simp
  · refine List.map_congr_left fun k _ => ?_
    show PyData.int (lo + ((k + 1 : Nat) : Int)) = PyData.int (lo + 1 + (k : Int))
    congr 1
    omega
theorem rg_rule {g : WG} {b : WS} {A : DE} {xp : Ex → Prop} (I : Int → Sd → Prop) (lo hi : Int) {n : Nat} {sd : Sd} (hn : (n : Int) = hi - lo) (h0 : I lo sd) (he : ∀ sd, I hi sd → A.nx sd)
    (hc : ∀ (NX : Sd → Prop) (k : Int) sd, lo ≤ k → k < hi → I k sd → (∀ s, I (k + 1) s → NX s) → g (.int k) sd fun sd1 => b { A with nx := NX, ct := NX, bk := A.nx } sd1 xp) : forGo g b A xp (rangeD lo n) sd := by
  refine for_rule (fun items s => ∃ (k : Int) (m : Nat), lo ≤ k ∧ (m : Int) = hi - k ∧ items = rangeD k m ∧ I k s) ?_ ?_ _ _ ⟨lo, n, Int.le_refl _, hn, rfl, h0⟩
  · rintro sd ⟨k, m, h1, h2, h3, h4⟩
    cases m with
    | zero =>
      have : k = hi := by omega
      subst this
      exact he sd h4
    | succ m => rw [rangeD_cons] at h3; cases h3
  · rintro NX x xs sd ⟨k, m, h1, h2, h3, h4⟩ ih
    cases m with
    | zero => cases h3
    | succ m =>
      rw [rangeD_cons] at h3
      obtain ⟨rfl, rfl⟩ := List.cons.inj h3
      exact hc NX k sd h1 (by omega) h4 fun s q => ih s ⟨k + 1, m, by omega, by omega, rfl, q⟩
theorem lc_rule {own : List Nat} {tg : WG} {te : WC} {elt : WT} {k : List D → Sd → Prop} (I : List D → List D → Sd → Prop) (hn : ∀ acc sd, I [] acc sd → k acc sd)
    (hc : ∀ (NX : List D → Sd → Prop) x xs acc sd, I (x :: xs) acc sd → (∀ acc s, I xs acc s → NX acc s) → tg x sd fun sd1 => te sd1 noX fun b sd2 => if b = true then elt sd2 noX fun r sd3 => frz r fun d => acc.length < sizeLine ∧ NX (acc ++ [d]) (wipeD own sd3)
      else NX acc (wipeD own sd2)) :
    ∀ (items acc : List D) (sd : Sd), I items acc sd → lcGo own tg te elt items sd acc k
  | [], acc, sd, h => hn acc sd h
  | x :: xs, acc, sd, h => hc (fun acc s => lcGo own tg te elt xs s acc k) x xs acc sd h fun acc s q => lc_rule I hn hc xs acc s q
theorem rgl_rule {own : List Nat} {tg : WG} {te : WC} {elt : WT} {K : List D → Sd → Prop} (I : Int → List D → Sd → Prop) (lo hi : Int) {n : Nat} {sd : Sd} (hn : (n : Int) = hi - lo) (h0 : I lo [] sd) (he : ∀ acc sd, I hi acc sd → K acc sd)
    (hc : ∀ (NX : List D → Sd → Prop) (k : Int) acc sd, lo ≤ k → k < hi → I k acc sd → (∀ acc s, I (k + 1) acc s → NX acc s) → tg (.int k) sd fun sd1 => te sd1 noX fun b sd2 => if b = true then elt sd2 noX fun r sd3 => frz r fun d => acc.length < sizeLine ∧ NX (acc ++ [d]) (wipeD own sd3)
      else NX acc (wipeD own sd2)) : lcGo own tg te elt (rangeD lo n) sd [] K := by
  refine lc_rule (fun items acc s => ∃ (k : Int) (m : Nat), lo ≤ k ∧ (m : Int) = hi - k ∧ items = rangeD k m ∧ I k acc s) ?_ ?_ _ _ _ ⟨lo, n, Int.le_refl _, hn, rfl, h0⟩
  · rintro acc sd ⟨k, m, h1, h2, h3, h4⟩
    cases m with
    | zero =>
      have : k = hi := by omega
      subst this
      exact he acc sd h4
    | succ m => rw [rangeD_cons] at h3; cases h3
  · rintro NX x xs acc sd ⟨k, m, h1, h2, h3, h4⟩ ih
    cases m with
    | zero => cases h3
    | succ m =>
      rw [rangeD_cons] at h3
      obtain ⟨rfl, rfl⟩ := List.cons.inj h3
      exact hc NX k acc sd h1 (by omega) h4 fun acc s q => ih acc s ⟨k + 1, m, by omega, by omega, rfl, q⟩
theorem x_yes {sd : Sd} {xp : Ex → Prop} {QB : Bool → Sd → Prop} (h : QB true sd) : wYes sd xp QB := h
theorem cut_take {α : Type} {xs : List α} {r : Int} (h : 0 ≤ r) : cutD xs none (some r) = xs.take r.toNat := by
  unfold cutD
  have e : HT.sIx xs.length 0 none = 0 := rfl
  rw [e, show r = ((r.toNat : Nat) : Int) by omega, HT.sIx_nat, List.drop_zero, Nat.sub_zero]
  rw [show ((r.toNat : Nat) : Int).toNat = r.toNat by omega]
  rcases Nat.le_total r.toNat xs.length with q | q
  · rw [Nat.min_eq_left q]
  · rw [Nat.min_eq_right q, List.take_length, List.take_of_length_le q]
theorem cut_drop {α : Type} {xs : List α} {r : Int} (h : 0 ≤ r) : cutD xs (some r) none = xs.drop r.toNat := by
  unfold cutD
  have e : HT.sIx xs.length xs.length none = xs.length := rfl
  rw [e, show r = ((r.toNat : Nat) : Int) by omega, HT.sIx_nat]
  rw [show ((r.toNat : Nat) : Int).toNat = r.toNat by omega]
  rcases Nat.le_total r.toNat xs.length with q | q
  · rw [Nat.min_eq_left q, List.take_of_length_le (by rw [List.length_drop]; omega)]
  · rw [Nat.min_eq_right q, List.drop_length, List.drop_of_length_le q, List.take_nil]
theorem atI_split {α : Type} {xs : List α} {m : Int} {d : α} (h0 : 0 ≤ m) (h : atI xs m = some d) : m.toNat < xs.length ∧ xs = xs.take m.toNat ++ d :: xs.drop (m.toNat + 1) := by
  unfold atI ixN at h
  rw [if_pos h0] at h
  split at h
  · obtain ⟨h1, h2⟩ := List.getElem?_eq_some_iff.mp h
    refine ⟨h1, ?_⟩
    rw [← h2, List.getElem_cons_drop, List.take_append_drop]
  · cases h
theorem atI_get {α : Type} {xs : List α} {m : Int} {d : α} (h0 : 0 ≤ m) (h : atI xs m = some d) : xs[m.toNat]? = some d := by
  unfold atI ixN at h
  rw [if_pos h0] at h
  split at h
  · exact h
  · cases h
theorem atI_nn {α : Type} {xs : List α} {i : Int} (h0 : 0 ≤ i) (h1 : i < xs.length) : ∃ d, atI xs i = some d ∧ d ∈ xs := by
  have hi : i.toNat < xs.length := by omega
  refine ⟨xs[i.toNat], ?_, List.getElem_mem hi⟩
  unfold atI ixN
  rw [if_pos h0, if_pos h1]
  exact List.getElem?_eq_getElem hi
section
variable {sd : Sd} {i : Nat} {xs : List D} {m : Int} {Q : Rv → Sd → Prop} {R : Rv → Prop}
theorem x_ixAt (h1 : ObL sd i = some xs) (h0 : 0 ≤ m ∧ m < xs.length) (h : ∀ d, atI xs m = some d → d ∈ xs → Q (.val d) sd) : IxG i (.int m) sd Q := by
  obtain ⟨d, e, md⟩ := atI_nn h0.1 h0.2
  exact x_ixG h1 e (h d e md)
theorem x_ixtAt (h0 : 0 ≤ m ∧ m < xs.length) (h : ∀ d, atI xs m = some d → d ∈ xs → R (.val d)) : gIx (.tuple xs) (.int m) R := by
  obtain ⟨d, e, md⟩ := atI_nn h0.1 h0.2
  exact x_ixt e (h d e md)
theorem x_ixlAt (h0 : 0 ≤ m ∧ m < xs.length) (h : ∀ d, atI xs m = some d → d ∈ xs → R (.val d)) : gIx (.list xs) (.int m) R := by
  obtain ⟨d, e, md⟩ := atI_nn h0.1 h0.2
  exact x_ixl e (h d e md)
end
end Ev

/-! EvP: the laws' own helpers: the stream of a script. -/
namespace Ev
open PySem PySem.Spec PyProof.Rows L2
/-! ### _law_mixed -/
def F_mixed : Fn := ⟨["number", "k"], [], [], fun args _ Q => ∃ n k : Int, args = [.dat (.int n), .dat (.int k)] ∧ ∀ r : Int, 0 ≤ r → Q (.val (.int r)) [none, none]⟩
theorem y_mixed {n k : Int} {xp : Ex → Prop} {Q : Rv → Sd → Prop} (h : ∀ r : Int, 0 ≤ r → Q (.val (.int r)) [none, none]) : F_mixed.sp [.dat (.int n), .dat (.int k)] xp Q := ⟨n, k, rfl, h⟩
theorem F_mixed_mono : MonoF F_mixed.sp := fun args xp xp' Q Q' _ hq ⟨n, k, e, h⟩ => ⟨n, k, e, fun r hr => hq _ _ (h r hr)⟩
def W_mixed : WS := wSeq (wSet [] 2 (wOp gMod (wBi bInt (wDat (wOp gAdd (wOp gAdd (wOp gMul (wVar 0) (wC (.int 48271))) (wOp gMul (wVar 1) (wC (.int 69621)))) (wC (.int 97))) (wNil))) (wC (.int 2147483647)))) (wSeq (wSet [] 3 (wOp gMod (wBi bInt (wDat (wOp gAdd (wOp gAdd (wOp gMul (wVar 2) (wOp gAdd (wOp gAdd (wVar 2) (wOp gMul (wC (.int 2)) (wVar 1))) (wC (.int 1)))) (wOp gMul (wVar 1) (wC (.int 16807)))) (wC (.int 31))) (wNil))) (wC (.int 2147483629)))) (wSeq (wRet (wOp gMod (wBi bInt (wDat (wOp gAdd (wOp gMul (wVar 3) (wC (.int 40692))) (wVar 2)) (wNil))) (wC (.int 2147483587)))) (wNext)))
/-- the reading at the def's ends -/
def endsOf (pin : List Nat) (np : Nat) (Q : Rv → Sd → Prop) : DE := { nx := fun sd => Q (.val .none) (retD pin np sd), rt := fun r sd => Q r (retD pin np sd) }
theorem cmulR {a b : Int} (h1 : -1000000 ≤ b) (h2 : b ≤ 1000000) : CMul a b := .inr ⟨by omega, by omega⟩
theorem cmulL {a b : Int} (h1 : -1000000 ≤ a) (h2 : a ≤ 1000000) : CMul a b := .inl ⟨by omega, by omega⟩
theorem cmulM {a b m : Int} (h1 : 0 < m) (h2 : m ≤ 4294967296) : CMul (a % m) b := by
  have := Int.emod_nonneg a (show m ≠ 0 by omega)
  have := Int.emod_lt_of_pos a h1
  exact .inl ⟨by omega, by omega⟩
theorem W_mixed_ok : ∀ args xp Q, args.length = F_mixed.ps.length → F_mixed.sp args xp Q → W_mixed (endsOf [] 2 Q) (startD 4 args) xp := by
  rintro args xp Q _ ⟨n, k, rfl, h⟩
  unfold W_mixed endsOf
  repeat' with_reducible first
    | refine x_seq ?_
    | refine x_next ?_
    | refine x_brk ?_
    | refine x_cnt ?_
    | refine x_ret ?_
    | refine x_retN ?_
    | refine x_set (by with_unfolding_all decide) ?_
    | refine x_drop ?_
    | refine x_ifS ?_
    | refine x_ite (fun hc => ?_) (fun hc => ?_)
    | refine x_iteN (fun hc => ?_) (fun hc => ?_)
    | refine x_iteT ?_
    | refine x_iteF ?_
    | refine x_iteNT ?_
    | refine x_iteNF ?_
    | refine x_for ?_
    | refine x_par (by with_unfolding_all decide) (by with_unfolding_all decide) ?_
    | refine x_parG ?_
    | refine x_par3 (by with_unfolding_all decide) (by with_unfolding_all decide) (by with_unfolding_all decide) ?_
    | refine x_parG3 ?_
    | refine x_asg ?_
    | refine x_to (by with_unfolding_all decide) ?_
    | refine x_gT (by with_unfolding_all rfl) ?_
    | refine x_g0 ?_
    | refine x_g1 ?_
    | refine x_aug (by with_unfolding_all decide) (by with_unfolding_all rfl) ?_
    | refine x_augG ?_
    | refine x_augS (by with_unfolding_all rfl) ?_
    | refine x_augS1 (by with_unfolding_all rfl) (by with_unfolding_all rfl) (by with_unfolding_all rfl) ?_
    | refine x_augS2 (by with_unfolding_all rfl) (by with_unfolding_all rfl) ?_
    | refine x_put ?_
    | refine x_putG (by with_unfolding_all rfl) ?_
    | refine x_putL (by with_unfolding_all rfl) (by with_unfolding_all rfl) ?_
    | refine x_op ?_
    | refine x_fv ?_
    | refine x_fl ?_
    | refine x_c ?_
    | refine x_var (by with_unfolding_all rfl) ?_
    | refine x_varO (by with_unfolding_all rfl) ?_
    | refine x_bi ?_
    | refine x_nil ?_
    | refine x_dat ?_
    | refine x_handD (by with_unfolding_all rfl) ?_
    | refine x_handO (by with_unfolding_all rfl) ?_
    | refine x_tup ?_
    | refine x_lst ?_
    | refine x_tupG (by with_unfolding_all rfl) (by with_unfolding_all rfl) ?_
    | refine x_if ?_
    | refine x_neg ?_
    | refine x_negG ?_
    | refine x_ixNO (by with_unfolding_all rfl) ?_
    | refine x_ixND (by with_unfolding_all rfl) ?_
    | refine x_ixG (by with_unfolding_all rfl) (by with_unfolding_all rfl) ?_
    | refine x_ixt0 ?_
    | refine x_ixt1 ?_
    | refine x_ixt2 ?_
    | refine x_ixt3 ?_
    | refine x_ixt4 ?_
    | refine x_ixt5 ?_
    | refine x_ixt6 ?_
    | refine x_ixt7 ?_
    | refine x_ixt (by with_unfolding_all rfl) ?_
    | refine x_ixl0 ?_
    | refine x_ixl1 ?_
    | refine x_ixl2 ?_
    | refine x_ixl3 ?_
    | refine x_ixl4 ?_
    | refine x_ixl5 ?_
    | refine x_ixl6 ?_
    | refine x_ixl7 ?_
    | refine x_ixl (by with_unfolding_all rfl) ?_
    | refine x_add ?_
    | refine x_addt ?_ ?_
    | refine x_addl ?_ ?_
    | refine x_sub ?_
    | refine x_mul ?_ ?_
    | refine x_div ?_ ?_
    | refine x_mod ?_ ?_
    | refine x_pow ?_ ?_
    | refine x_lt ?_
    | refine x_le ?_
    | refine x_gt ?_
    | refine x_ge ?_
    | refine x_eq ?_
    | refine x_ne ?_
    | refine x_is ?_
    | refine x_bl ?_
    | refine x_blG ?_
    | refine x_tru ?_
    | refine x_truB ?_
    | refine x_truI ?_
    | refine x_truL ?_
    | refine x_truT ?_
    | refine x_andC ?_
    | refine x_orC ?_
    | refine x_notC ?_
    | refine x_andV ?_
    | refine x_orV ?_
    | refine x_notV ?_
    | refine x_ch ?_
    | refine x_sl ?_
    | refine x_noPart ?_
    | refine x_part ?_
    | refine x_partG ?_
    | refine x_slL ?_
    | refine x_slT ?_
    | refine x_items ?_
    | refine x_itL ?_
    | refine x_itT ?_
    | refine x_range1 ?_
    | refine x_rgG ?_ ?_
    | refine x_range2 ?_
    | refine x_rgG2 ?_ ?_
    | refine x_lc ?_
    | refine x_yes ?_
    | refine x_take (by with_unfolding_all decide) (by with_unfolding_all rfl) ?_
    | refine x_takeD (by with_unfolding_all decide) (by with_unfolding_all rfl) ?_
    | refine x_app ⟨_, (by with_unfolding_all rfl)⟩ ?_
    | refine x_appG (by with_unfolding_all rfl) ?_ ?_
    | refine x_isi ?_
    | refine x_isiT (by with_unfolding_all rfl) (by with_unfolding_all rfl) ?_
    | refine x_isiF (by with_unfolding_all rfl) (by with_unfolding_all rfl) ?_
    | refine x_int ?_
    | refine x_intB ?_
    | refine x_abs ?_
    | refine x_max2 ?_
    | refine x_min2 ?_
    | refine x_len (by with_unfolding_all rfl) ?_
    | refine x_lenT (by with_unfolding_all rfl) ?_
    | refine x_btup (by with_unfolding_all rfl) ?_
    | refine x_btupT ?_
    | refine x_blst (by with_unfolding_all rfl) ?_
    | refine x_blstT ?_
    | refine x_call ?_
    | refine x_callG (by with_unfolding_all rfl) (by with_unfolding_all rfl) (by with_unfolding_all rfl) (by with_unfolding_all rfl) ?_
    | refine x_callK ?_
    | refine x_callKG (by with_unfolding_all rfl) (by with_unfolding_all rfl) (by with_unfolding_all rfl) ?_
  all_goals first
    | exact cmulR (by decide) (by decide)
    | exact cmulL (by decide) (by decide)
    | exact cmulM (by decide) (by decide)
    | omega
    | skip
  exact h _ (Int.emod_nonneg _ (by decide))
/-! ### the stream's state: a list of ints and the cells -/
def Good (xs : List D) : Prop := ∃ (a b c d e : Int) (cells : List Int), xs = [.int a, .int b, .int c, .int d, .list (cells.map PyData.int), .int e] ∧ 0 ≤ b
/-! ### _law_start -/
def F_start : Fn := ⟨["script"], [], [], fun args _ Q => ∃ ns : List Int, args = [.dat (.list (ns.map PyData.int))] ∧ ∀ xs, Good xs → Q (.fresh (.L xs)) [none]⟩
theorem F_start_mono : MonoF F_start.sp := fun args xp xp' Q Q' _ hq ⟨n, e, h⟩ => ⟨n, e, fun r hr => hq _ _ (h r hr)⟩
theorem y_start {ns : List Int} {xp : Ex → Prop} {Q : Rv → Sd → Prop} (h : ∀ xs, Good xs → Q (.fresh (.L xs)) [none]) : F_start.sp [.dat (.list (ns.map PyData.int))] xp Q := ⟨ns, rfl, h⟩
def W_start : WS := wSeq (wSet [] 1 (wBi bLen (wHand 0 (wNil)))) (wSeq (wFor (wItems (wSl (wVar 0) noPart (part (wC (.int 63))))) (wTo [] 2) (wSeq (wSet [] 1 (wCall F_mixed (wDat (wOp gAdd (wVar 1) (wVar 2)) (wDat (wC (.int 5)) (wNil))))) (wNext))) (wSeq (wRet (wLst (wDat (wC (.int 0)) (wDat (wC (.int 0)) (wDat (wC (.int 0)) (wDat (wVar 1) (wDat (wBi bLst (wDat (wSl (wVar 0) noPart (part (wC (.int 63)))) (wNil))) (wDat (wC (.int 0)) (wNil))))))))) (wNext)))
theorem cut_map {α β : Type} (f : α → β) (xs : List α) (lo hi : Option Int) : cutD (xs.map f) lo hi = (cutD xs lo hi).map f := by
  unfold cutD
  rw [List.length_map, List.map_take, List.map_drop]
theorem W_start_ok : ∀ args xp Q, args.length = F_start.ps.length → F_start.sp args xp Q → W_start (endsOf [] 1 Q) (startD 3 args) xp := by
  rintro args xp Q _ ⟨ns, rfl, h⟩
  unfold W_start endsOf
  repeat' with_reducible first
    | refine x_seq ?_
    | refine x_next ?_
    | refine x_brk ?_
    | refine x_cnt ?_
    | refine x_ret ?_
    | refine x_retN ?_
    | refine x_set (by with_unfolding_all decide) ?_
    | refine x_drop ?_
    | refine x_ifS ?_
    | refine x_ite (fun hc => ?_) (fun hc => ?_)
    | refine x_iteN (fun hc => ?_) (fun hc => ?_)
    | refine x_iteT ?_
    | refine x_iteF ?_
    | refine x_iteNT ?_
    | refine x_iteNF ?_
    | refine x_for ?_
    | refine x_par (by with_unfolding_all decide) (by with_unfolding_all decide) ?_
    | refine x_parG ?_
    | refine x_par3 (by with_unfolding_all decide) (by with_unfolding_all decide) (by with_unfolding_all decide) ?_
    | refine x_parG3 ?_
    | refine x_asg ?_
    | refine x_to (by with_unfolding_all decide) ?_
    | refine x_gT (by with_unfolding_all rfl) ?_
    | refine x_g0 ?_
    | refine x_g1 ?_
    | refine x_aug (by with_unfolding_all decide) (by with_unfolding_all rfl) ?_
    | refine x_augG ?_
    | refine x_augS (by with_unfolding_all rfl) ?_
    | refine x_augS1 (by with_unfolding_all rfl) (by with_unfolding_all rfl) (by with_unfolding_all rfl) ?_
    | refine x_augS2 (by with_unfolding_all rfl) (by with_unfolding_all rfl) ?_
    | refine x_put ?_
    | refine x_putG (by with_unfolding_all rfl) ?_
    | refine x_putL (by with_unfolding_all rfl) (by with_unfolding_all rfl) ?_
    | refine x_op ?_
    | refine x_fv ?_
    | refine x_fl ?_
    | refine x_c ?_
    | refine x_var (by with_unfolding_all rfl) ?_
    | refine x_varO (by with_unfolding_all rfl) ?_
    | refine x_bi ?_
    | refine x_nil ?_
    | refine x_dat ?_
    | refine x_handD (by with_unfolding_all rfl) ?_
    | refine x_handO (by with_unfolding_all rfl) ?_
    | refine x_tup ?_
    | refine x_lst ?_
    | refine x_tupG (by with_unfolding_all rfl) (by with_unfolding_all rfl) ?_
    | refine x_if ?_
    | refine x_neg ?_
    | refine x_negG ?_
    | refine x_ixNO (by with_unfolding_all rfl) ?_
    | refine x_ixND (by with_unfolding_all rfl) ?_
    | refine x_ixG (by with_unfolding_all rfl) (by with_unfolding_all rfl) ?_
    | refine x_ixt0 ?_
    | refine x_ixt1 ?_
    | refine x_ixt2 ?_
    | refine x_ixt3 ?_
    | refine x_ixt4 ?_
    | refine x_ixt5 ?_
    | refine x_ixt6 ?_
    | refine x_ixt7 ?_
    | refine x_ixt (by with_unfolding_all rfl) ?_
    | refine x_ixl0 ?_
    | refine x_ixl1 ?_
    | refine x_ixl2 ?_
    | refine x_ixl3 ?_
    | refine x_ixl4 ?_
    | refine x_ixl5 ?_
    | refine x_ixl6 ?_
    | refine x_ixl7 ?_
    | refine x_ixl (by with_unfolding_all rfl) ?_
    | refine x_add ?_
    | refine x_addt ?_ ?_
    | refine x_addl ?_ ?_
    | refine x_sub ?_
    | refine x_mul ?_ ?_
    | refine x_div ?_ ?_
    | refine x_mod ?_ ?_
    | refine x_pow ?_ ?_
    | refine x_lt ?_
    | refine x_le ?_
    | refine x_gt ?_
    | refine x_ge ?_
    | refine x_eq ?_
    | refine x_ne ?_
    | refine x_is ?_
    | refine x_bl ?_
    | refine x_blG ?_
    | refine x_tru ?_
    | refine x_truB ?_
    | refine x_truI ?_
    | refine x_truL ?_
    | refine x_truT ?_
    | refine x_andC ?_
    | refine x_orC ?_
    | refine x_notC ?_
    | refine x_andV ?_
    | refine x_orV ?_
    | refine x_notV ?_
    | refine x_ch ?_
    | refine x_sl ?_
    | refine x_noPart ?_
    | refine x_part ?_
    | refine x_partG ?_
    | refine x_slL ?_
    | refine x_slT ?_
    | refine x_items ?_
    | refine x_itL ?_
    | refine x_itT ?_
    | refine x_range1 ?_
    | refine x_rgG ?_ ?_
    | refine x_range2 ?_
    | refine x_rgG2 ?_ ?_
    | refine x_lc ?_
    | refine x_yes ?_
    | refine x_take (by with_unfolding_all decide) (by with_unfolding_all rfl) ?_
    | refine x_takeD (by with_unfolding_all decide) (by with_unfolding_all rfl) ?_
    | refine x_app ⟨_, (by with_unfolding_all rfl)⟩ ?_
    | refine x_appG (by with_unfolding_all rfl) ?_ ?_
    | refine x_isi ?_
    | refine x_isiT (by with_unfolding_all rfl) (by with_unfolding_all rfl) ?_
    | refine x_isiF (by with_unfolding_all rfl) (by with_unfolding_all rfl) ?_
    | refine x_int ?_
    | refine x_intB ?_
    | refine x_abs ?_
    | refine x_max2 ?_
    | refine x_min2 ?_
    | refine x_len (by with_unfolding_all rfl) ?_
    | refine x_lenT (by with_unfolding_all rfl) ?_
    | refine x_btup (by with_unfolding_all rfl) ?_
    | refine x_btupT ?_
    | refine x_blst (by with_unfolding_all rfl) ?_
    | refine x_blstT ?_
    | refine x_call ?_
    | refine x_callG (by with_unfolding_all rfl) (by with_unfolding_all rfl) (by with_unfolding_all rfl) (by with_unfolding_all rfl) ?_
    | refine x_callK ?_
    | refine x_callKG (by with_unfolding_all rfl) (by with_unfolding_all rfl) (by with_unfolding_all rfl) ?_
  rw [cut_map]
  refine for_rule (fun items s => ∃ (ms : List Int) (q : Int) (c : Option Sl), items = ms.map PyData.int ∧ s = [some (.dat (.list (ns.map PyData.int))), some (.dat (.int q)), c]) ?_ ?_ _ _ ⟨_, _, _, rfl, rfl⟩
  · rintro sd ⟨ms, q, c, e, rfl⟩
    repeat' with_reducible first
      | refine x_seq ?_
      | refine x_next ?_
      | refine x_brk ?_
      | refine x_cnt ?_
      | refine x_ret ?_
      | refine x_retN ?_
      | refine x_set (by with_unfolding_all decide) ?_
      | refine x_drop ?_
      | refine x_ifS ?_
      | refine x_ite (fun hc => ?_) (fun hc => ?_)
      | refine x_iteN (fun hc => ?_) (fun hc => ?_)
      | refine x_iteT ?_
      | refine x_iteF ?_
      | refine x_iteNT ?_
      | refine x_iteNF ?_
      | refine x_for ?_
      | refine x_par (by with_unfolding_all decide) (by with_unfolding_all decide) ?_
      | refine x_parG ?_
      | refine x_par3 (by with_unfolding_all decide) (by with_unfolding_all decide) (by with_unfolding_all decide) ?_
      | refine x_parG3 ?_
      | refine x_asg ?_
      | refine x_to (by with_unfolding_all decide) ?_
      | refine x_gT (by with_unfolding_all rfl) ?_
      | refine x_g0 ?_
      | refine x_g1 ?_
      | refine x_aug (by with_unfolding_all decide) (by with_unfolding_all rfl) ?_
      | refine x_augG ?_
      | refine x_augS (by with_unfolding_all rfl) ?_
      | refine x_augS1 (by with_unfolding_all rfl) (by with_unfolding_all rfl) (by with_unfolding_all rfl) ?_
      | refine x_augS2 (by with_unfolding_all rfl) (by with_unfolding_all rfl) ?_
      | refine x_put ?_
      | refine x_putG (by with_unfolding_all rfl) ?_
      | refine x_putL (by with_unfolding_all rfl) (by with_unfolding_all rfl) ?_
      | refine x_op ?_
      | refine x_fv ?_
      | refine x_fl ?_
      | refine x_c ?_
      | refine x_var (by with_unfolding_all rfl) ?_
      | refine x_varO (by with_unfolding_all rfl) ?_
      | refine x_bi ?_
      | refine x_nil ?_
      | refine x_dat ?_
      | refine x_handD (by with_unfolding_all rfl) ?_
      | refine x_handO (by with_unfolding_all rfl) ?_
      | refine x_tup ?_
      | refine x_lst ?_
      | refine x_tupG (by with_unfolding_all rfl) (by with_unfolding_all rfl) ?_
      | refine x_if ?_
      | refine x_neg ?_
      | refine x_negG ?_
      | refine x_ixNO (by with_unfolding_all rfl) ?_
      | refine x_ixND (by with_unfolding_all rfl) ?_
      | refine x_ixG (by with_unfolding_all rfl) (by with_unfolding_all rfl) ?_
      | refine x_ixt0 ?_
      | refine x_ixt1 ?_
      | refine x_ixt2 ?_
      | refine x_ixt3 ?_
      | refine x_ixt4 ?_
      | refine x_ixt5 ?_
      | refine x_ixt6 ?_
      | refine x_ixt7 ?_
      | refine x_ixt (by with_unfolding_all rfl) ?_
      | refine x_ixl0 ?_
      | refine x_ixl1 ?_
      | refine x_ixl2 ?_
      | refine x_ixl3 ?_
      | refine x_ixl4 ?_
      | refine x_ixl5 ?_
      | refine x_ixl6 ?_
      | refine x_ixl7 ?_
      | refine x_ixl (by with_unfolding_all rfl) ?_
      | refine x_add ?_
      | refine x_addt ?_ ?_
      | refine x_addl ?_ ?_
      | refine x_sub ?_
      | refine x_mul ?_ ?_
      | refine x_div ?_ ?_
      | refine x_mod ?_ ?_
      | refine x_pow ?_ ?_
      | refine x_lt ?_
      | refine x_le ?_
      | refine x_gt ?_
      | refine x_ge ?_
      | refine x_eq ?_
      | refine x_ne ?_
      | refine x_is ?_
      | refine x_bl ?_
      | refine x_blG ?_
      | refine x_tru ?_
      | refine x_truB ?_
      | refine x_truI ?_
      | refine x_truL ?_
      | refine x_truT ?_
      | refine x_andC ?_
      | refine x_orC ?_
      | refine x_notC ?_
      | refine x_andV ?_
      | refine x_orV ?_
      | refine x_notV ?_
      | refine x_ch ?_
      | refine x_sl ?_
      | refine x_noPart ?_
      | refine x_part ?_
      | refine x_partG ?_
      | refine x_slL ?_
      | refine x_slT ?_
      | refine x_items ?_
      | refine x_itL ?_
      | refine x_itT ?_
      | refine x_range1 ?_
      | refine x_rgG ?_ ?_
      | refine x_range2 ?_
      | refine x_rgG2 ?_ ?_
      | refine x_lc ?_
      | refine x_yes ?_
      | refine x_take (by with_unfolding_all decide) (by with_unfolding_all rfl) ?_
      | refine x_takeD (by with_unfolding_all decide) (by with_unfolding_all rfl) ?_
      | refine x_app ⟨_, (by with_unfolding_all rfl)⟩ ?_
      | refine x_appG (by with_unfolding_all rfl) ?_ ?_
      | refine x_isi ?_
      | refine x_isiT (by with_unfolding_all rfl) (by with_unfolding_all rfl) ?_
      | refine x_isiF (by with_unfolding_all rfl) (by with_unfolding_all rfl) ?_
      | refine x_int ?_
      | refine x_intB ?_
      | refine x_abs ?_
      | refine x_max2 ?_
      | refine x_min2 ?_
      | refine x_len (by with_unfolding_all rfl) ?_
      | refine x_lenT (by with_unfolding_all rfl) ?_
      | refine x_btup (by with_unfolding_all rfl) ?_
      | refine x_btupT ?_
      | refine x_blst (by with_unfolding_all rfl) ?_
      | refine x_blstT ?_
      | refine x_call ?_
      | refine x_callG (by with_unfolding_all rfl) (by with_unfolding_all rfl) (by with_unfolding_all rfl) (by with_unfolding_all rfl) ?_
      | refine x_callK ?_
      | refine x_callKG (by with_unfolding_all rfl) (by with_unfolding_all rfl) (by with_unfolding_all rfl) ?_
    · rw [cut_map]
      exact h _ ⟨0, 0, 0, q, 0, _, rfl, by decide⟩
  · rintro NX x xs sd ⟨ms, q, c, e, rfl⟩ ih
    match ms, e with
    | m :: ms, e =>
      obtain ⟨rfl, rfl⟩ := List.cons.inj e
      repeat' with_reducible first
        | refine y_mixed (fun r hr => ?_)
        | refine x_seq ?_
        | refine x_next ?_
        | refine x_brk ?_
        | refine x_cnt ?_
        | refine x_ret ?_
        | refine x_retN ?_
        | refine x_set (by with_unfolding_all decide) ?_
        | refine x_drop ?_
        | refine x_ifS ?_
        | refine x_ite (fun hc => ?_) (fun hc => ?_)
        | refine x_iteN (fun hc => ?_) (fun hc => ?_)
        | refine x_iteT ?_
        | refine x_iteF ?_
        | refine x_iteNT ?_
        | refine x_iteNF ?_
        | refine x_for ?_
        | refine x_par (by with_unfolding_all decide) (by with_unfolding_all decide) ?_
        | refine x_parG ?_
        | refine x_par3 (by with_unfolding_all decide) (by with_unfolding_all decide) (by with_unfolding_all decide) ?_
        | refine x_parG3 ?_
        | refine x_asg ?_
        | refine x_to (by with_unfolding_all decide) ?_
        | refine x_gT (by with_unfolding_all rfl) ?_
        | refine x_g0 ?_
        | refine x_g1 ?_
        | refine x_aug (by with_unfolding_all decide) (by with_unfolding_all rfl) ?_
        | refine x_augG ?_
        | refine x_augS (by with_unfolding_all rfl) ?_
        | refine x_augS1 (by with_unfolding_all rfl) (by with_unfolding_all rfl) (by with_unfolding_all rfl) ?_
        | refine x_augS2 (by with_unfolding_all rfl) (by with_unfolding_all rfl) ?_
        | refine x_put ?_
        | refine x_putG (by with_unfolding_all rfl) ?_
        | refine x_putL (by with_unfolding_all rfl) (by with_unfolding_all rfl) ?_
        | refine x_op ?_
        | refine x_fv ?_
        | refine x_fl ?_
        | refine x_c ?_
        | refine x_var (by with_unfolding_all rfl) ?_
        | refine x_varO (by with_unfolding_all rfl) ?_
        | refine x_bi ?_
        | refine x_nil ?_
        | refine x_dat ?_
        | refine x_handD (by with_unfolding_all rfl) ?_
        | refine x_handO (by with_unfolding_all rfl) ?_
        | refine x_tup ?_
        | refine x_lst ?_
        | refine x_tupG (by with_unfolding_all rfl) (by with_unfolding_all rfl) ?_
        | refine x_if ?_
        | refine x_neg ?_
        | refine x_negG ?_
        | refine x_ixNO (by with_unfolding_all rfl) ?_
        | refine x_ixND (by with_unfolding_all rfl) ?_
        | refine x_ixG (by with_unfolding_all rfl) (by with_unfolding_all rfl) ?_
        | refine x_ixt0 ?_
        | refine x_ixt1 ?_
        | refine x_ixt2 ?_
        | refine x_ixt3 ?_
        | refine x_ixt4 ?_
        | refine x_ixt5 ?_
        | refine x_ixt6 ?_
        | refine x_ixt7 ?_
        | refine x_ixt (by with_unfolding_all rfl) ?_
        | refine x_ixl0 ?_
        | refine x_ixl1 ?_
        | refine x_ixl2 ?_
        | refine x_ixl3 ?_
        | refine x_ixl4 ?_
        | refine x_ixl5 ?_
        | refine x_ixl6 ?_
        | refine x_ixl7 ?_
        | refine x_ixl (by with_unfolding_all rfl) ?_
        | refine x_add ?_
        | refine x_addt ?_ ?_
        | refine x_addl ?_ ?_
        | refine x_sub ?_
        | refine x_mul ?_ ?_
        | refine x_div ?_ ?_
        | refine x_mod ?_ ?_
        | refine x_pow ?_ ?_
        | refine x_lt ?_
        | refine x_le ?_
        | refine x_gt ?_
        | refine x_ge ?_
        | refine x_eq ?_
        | refine x_ne ?_
        | refine x_is ?_
        | refine x_bl ?_
        | refine x_blG ?_
        | refine x_tru ?_
        | refine x_truB ?_
        | refine x_truI ?_
        | refine x_truL ?_
        | refine x_truT ?_
        | refine x_andC ?_
        | refine x_orC ?_
        | refine x_notC ?_
        | refine x_andV ?_
        | refine x_orV ?_
        | refine x_notV ?_
        | refine x_ch ?_
        | refine x_sl ?_
        | refine x_noPart ?_
        | refine x_part ?_
        | refine x_partG ?_
        | refine x_slL ?_
        | refine x_slT ?_
        | refine x_items ?_
        | refine x_itL ?_
        | refine x_itT ?_
        | refine x_range1 ?_
        | refine x_rgG ?_ ?_
        | refine x_range2 ?_
        | refine x_rgG2 ?_ ?_
        | refine x_lc ?_
        | refine x_yes ?_
        | refine x_take (by with_unfolding_all decide) (by with_unfolding_all rfl) ?_
        | refine x_takeD (by with_unfolding_all decide) (by with_unfolding_all rfl) ?_
        | refine x_app ⟨_, (by with_unfolding_all rfl)⟩ ?_
        | refine x_appG (by with_unfolding_all rfl) ?_ ?_
        | refine x_isi ?_
        | refine x_isiT (by with_unfolding_all rfl) (by with_unfolding_all rfl) ?_
        | refine x_isiF (by with_unfolding_all rfl) (by with_unfolding_all rfl) ?_
        | refine x_int ?_
        | refine x_intB ?_
        | refine x_abs ?_
        | refine x_max2 ?_
        | refine x_min2 ?_
        | refine x_len (by with_unfolding_all rfl) ?_
        | refine x_lenT (by with_unfolding_all rfl) ?_
        | refine x_btup (by with_unfolding_all rfl) ?_
        | refine x_btupT ?_
        | refine x_blst (by with_unfolding_all rfl) ?_
        | refine x_blstT ?_
        | refine x_call ?_
        | refine x_callG (by with_unfolding_all rfl) (by with_unfolding_all rfl) (by with_unfolding_all rfl) (by with_unfolding_all rfl) ?_
        | refine x_callK ?_
        | refine x_callKG (by with_unfolding_all rfl) (by with_unfolding_all rfl) (by with_unfolding_all rfl) ?_
      exact ih _ ⟨ms, r, _, rfl, rfl⟩
/-! ### _law_take -/
def F_take : Fn := ⟨["state", "limit"], [0], [], fun args _ Q => ∃ (xs : List D) (m : Int), args = [.ob (.L xs), .dat (.int m)] ∧ Good xs ∧ 0 < m ∧ m < 1000000000000000000000000000000 ∧ ∀ (r : Int) (ys : List D), 0 ≤ r → r < m → Good ys → Q (.val (.int r)) [some (.ob (.L ys)), none]⟩
theorem F_take_mono : MonoF F_take.sp := fun args xp xp' Q Q' _ hq ⟨xs, m, e, g, h0, h1, h⟩ => ⟨xs, m, e, g, h0, h1, fun r ys h2 h3 h4 => hq _ _ (h r ys h2 h3 h4)⟩
theorem y_take {xs : List D} {m : Int} {xp : Ex → Prop} {Q : Rv → Sd → Prop} (g : Good xs) (h0 : 0 < m ∧ m < 1073741824) (h : ∀ (r : Int) (ys : List D), 0 ≤ r → r < m → Good ys → Q (.val (.int r)) [some (.ob (.L ys)), none]) : F_take.sp [.ob (.L xs), .dat (.int m)] xp Q := ⟨xs, m, rfl, g, h0.1, by have := h0.2; omega, h⟩
theorem y_takeW {xs : List D} {m : Int} {xp : Ex → Prop} {Q : Rv → Sd → Prop} (g : Good xs) (h0 : 0 < m ∧ m < 1000000000000000000000000000000) (h : ∀ (r : Int) (ys : List D), 0 ≤ r → r < m → Good ys → Q (.val (.int r)) [some (.ob (.L ys)), none]) : F_take.sp [.ob (.L xs), .dat (.int m)] xp Q := ⟨xs, m, rfl, g, h0.1, h0.2, h⟩
def W_take : WS := wSeq (wSet [0] 2 (wIxN 0 (wC (.int 4)))) (wSeq (wAugS 0 (fun i j => i + j) (wC (.int 2)) (wC (.int 1))) (wSeq (wIfS (wAndC (wBl (wOp gEq (wIxN 0 (wC (.int 0))) (wC (.int 0)))) (wBl (wOp gLt (wIxN 0 (wC (.int 1))) (wBi bLen (wHand 2 (wNil)))))) (wSeq (wSet [0] 3 (wIxN 2 (wIxN 0 (wC (.int 1))))) (wSeq (wAugS 0 (fun i j => i + j) (wC (.int 1)) (wC (.int 1))) (wSeq (wIfS (wBl (wOp gLt (wBi bAbs (wHand 3 (wNil))) (wOp gPow (wC (.int 10)) (wC (.int 18))))) (wSeq (wRet (wOp gMod (wBi bInt (wDat (wCall F_mixed (wHand 3 (wDat (wIxN 0 (wC (.int 2))) (wNil)))) (wNil))) (wVar 1))) (wNext)) (wNext)) (wSeq (wPut 0 (wBi bAbs (wHand 3 (wNil))) (wC (.int 0))) (wSeq (wPut 0 (wC (.int 60)) (wC (.int 5))) (wNext)))))) (wNext)) (wSeq (wIfS (wBl (wOp gEq (wIxN 0 (wC (.int 0))) (wC (.int 0)))) (wSeq (wRet (wOp gMod (wBi bInt (wDat (wCall F_mixed (wDat (wIxN 0 (wC (.int 3))) (wDat (wIxN 0 (wC (.int 2))) (wNil)))) (wNil))) (wVar 1))) (wNext)) (wNext)) (wSeq (wSet [0] 4 (wOp gMod (wBi bInt (wDat (wIxN 0 (wC (.int 0))) (wNil))) (wVar 1))) (wSeq (wAugS 0 (fun i j => i - j) (wC (.int 5)) (wC (.int 1))) (wSeq (wPut 0 (wOp gMul (wOp gDiv (wIxN 0 (wC (.int 0))) (wVar 1)) (wBi bInt (wDat (wOp gGt (wIxN 0 (wC (.int 5))) (wC (.int 0))) (wNil)))) (wC (.int 0))) (wSeq (wRet (wTake [0] 4)) (wNext))))))))
theorem W_take_ok : ∀ args xp Q, args.length = F_take.ps.length → F_take.sp args xp Q → W_take (endsOf [0] 2 Q) (startD 5 args) xp := by
  rintro args xp Q _ ⟨xs, m, rfl, ⟨a, b, c, d, e, cells, rfl, hb⟩, h0, h1, h⟩
  unfold W_take endsOf
  repeat' with_reducible first
    | refine x_div30 ⟨h0, h1⟩ ?_
    | refine y_mixed (fun r hr => ?_)
    | refine x_ixInts ?_ (fun t ht => ?_)
    | refine x_seq ?_
    | refine x_next ?_
    | refine x_brk ?_
    | refine x_cnt ?_
    | refine x_ret ?_
    | refine x_retN ?_
    | refine x_set (by with_unfolding_all decide) ?_
    | refine x_drop ?_
    | refine x_ifS ?_
    | refine x_ite (fun hc => ?_) (fun hc => ?_)
    | refine x_iteN (fun hc => ?_) (fun hc => ?_)
    | refine x_iteT ?_
    | refine x_iteF ?_
    | refine x_iteNT ?_
    | refine x_iteNF ?_
    | refine x_for ?_
    | refine x_par (by with_unfolding_all decide) (by with_unfolding_all decide) ?_
    | refine x_parG ?_
    | refine x_par3 (by with_unfolding_all decide) (by with_unfolding_all decide) (by with_unfolding_all decide) ?_
    | refine x_parG3 ?_
    | refine x_asg ?_
    | refine x_to (by with_unfolding_all decide) ?_
    | refine x_gT (by with_unfolding_all rfl) ?_
    | refine x_g0 ?_
    | refine x_g1 ?_
    | refine x_aug (by with_unfolding_all decide) (by with_unfolding_all rfl) ?_
    | refine x_augG ?_
    | refine x_augS (by with_unfolding_all rfl) ?_
    | refine x_augS1 (by with_unfolding_all rfl) (by with_unfolding_all rfl) (by with_unfolding_all rfl) ?_
    | refine x_augS2 (by with_unfolding_all rfl) (by with_unfolding_all rfl) ?_
    | refine x_put ?_
    | refine x_putG (by with_unfolding_all rfl) ?_
    | refine x_putL (by with_unfolding_all rfl) (by with_unfolding_all rfl) ?_
    | refine x_op ?_
    | refine x_fv ?_
    | refine x_fl ?_
    | refine x_c ?_
    | refine x_var (by with_unfolding_all rfl) ?_
    | refine x_varO (by with_unfolding_all rfl) ?_
    | refine x_bi ?_
    | refine x_nil ?_
    | refine x_dat ?_
    | refine x_handD (by with_unfolding_all rfl) ?_
    | refine x_handO (by with_unfolding_all rfl) ?_
    | refine x_tup ?_
    | refine x_lst ?_
    | refine x_tupG (by with_unfolding_all rfl) (by with_unfolding_all rfl) ?_
    | refine x_if ?_
    | refine x_neg ?_
    | refine x_negG ?_
    | refine x_ixNO (by with_unfolding_all rfl) ?_
    | refine x_ixND (by with_unfolding_all rfl) ?_
    | refine x_ixG (by with_unfolding_all rfl) (by with_unfolding_all rfl) ?_
    | refine x_ixt0 ?_
    | refine x_ixt1 ?_
    | refine x_ixt2 ?_
    | refine x_ixt3 ?_
    | refine x_ixt4 ?_
    | refine x_ixt5 ?_
    | refine x_ixt6 ?_
    | refine x_ixt7 ?_
    | refine x_ixt (by with_unfolding_all rfl) ?_
    | refine x_ixl0 ?_
    | refine x_ixl1 ?_
    | refine x_ixl2 ?_
    | refine x_ixl3 ?_
    | refine x_ixl4 ?_
    | refine x_ixl5 ?_
    | refine x_ixl6 ?_
    | refine x_ixl7 ?_
    | refine x_ixl (by with_unfolding_all rfl) ?_
    | refine x_add ?_
    | refine x_addt ?_ ?_
    | refine x_addl ?_ ?_
    | refine x_sub ?_
    | refine x_mul ?_ ?_
    | refine x_mod ?_ ?_
    | refine x_pow ?_ ?_
    | refine x_lt ?_
    | refine x_le ?_
    | refine x_gt ?_
    | refine x_ge ?_
    | refine x_eq ?_
    | refine x_ne ?_
    | refine x_is ?_
    | refine x_bl ?_
    | refine x_blG ?_
    | refine x_tru ?_
    | refine x_truB ?_
    | refine x_truI ?_
    | refine x_truL ?_
    | refine x_truT ?_
    | refine x_andC ?_
    | refine x_orC ?_
    | refine x_notC ?_
    | refine x_andV ?_
    | refine x_orV ?_
    | refine x_notV ?_
    | refine x_ch ?_
    | refine x_sl ?_
    | refine x_noPart ?_
    | refine x_part ?_
    | refine x_partG ?_
    | refine x_slL ?_
    | refine x_slT ?_
    | refine x_items ?_
    | refine x_itL ?_
    | refine x_itT ?_
    | refine x_range1 ?_
    | refine x_rgG ?_ ?_
    | refine x_range2 ?_
    | refine x_rgG2 ?_ ?_
    | refine x_lc ?_
    | refine x_yes ?_
    | refine x_take (by with_unfolding_all decide) (by with_unfolding_all rfl) ?_
    | refine x_takeD (by with_unfolding_all decide) (by with_unfolding_all rfl) ?_
    | refine x_app ⟨_, (by with_unfolding_all rfl)⟩ ?_
    | refine x_appG (by with_unfolding_all rfl) ?_ ?_
    | refine x_isi ?_
    | refine x_isiT (by with_unfolding_all rfl) (by with_unfolding_all rfl) ?_
    | refine x_isiF (by with_unfolding_all rfl) (by with_unfolding_all rfl) ?_
    | refine x_int ?_
    | refine x_intB ?_
    | refine x_abs ?_
    | refine x_max2 ?_
    | refine x_min2 ?_
    | refine x_len (by with_unfolding_all rfl) ?_
    | refine x_lenT (by with_unfolding_all rfl) ?_
    | refine x_btup (by with_unfolding_all rfl) ?_
    | refine x_btupT ?_
    | refine x_blst (by with_unfolding_all rfl) ?_
    | refine x_blstT ?_
    | refine x_call ?_
    | refine x_callG (by with_unfolding_all rfl) (by with_unfolding_all rfl) (by with_unfolding_all rfl) (by with_unfolding_all rfl) ?_
    | refine x_callK ?_
    | refine x_callKG (by with_unfolding_all rfl) (by with_unfolding_all rfl) (by with_unfolding_all rfl) ?_
  all_goals first
    | omega
    | exact ⟨h0, h1⟩
    | exact .inr ⟨by split <;> omega, by split <;> omega⟩
    | exact ⟨hb, by assumption⟩
    | exact h _ _ (Int.emod_nonneg _ (by omega)) (Int.emod_lt_of_pos _ h0) ⟨_, _, _, _, _, cells, rfl, by omega⟩
    | exact ⟨by decide, by decide, by decide⟩
    | skip
end Ev


/-! EvQ: the helpers over the stream. -/
namespace Ev
open PySem PySem.Spec PyProof.Rows L2
def itemsOf : Sl → Option (List D)
  | .dat (.list xs) => some xs
  | .dat (.tuple xs) => some xs
  | .ob (.L xs) => some xs
  | _ => none
/-! ### _law_pick -/
def F_pick : Fn := ⟨["state", "some"], [0, 1], [], fun args _ Q => ∃ (xs : List D) (a : Sl) (ys : List D), args = [.ob (.L xs), a] ∧ itemsOf a = some ys ∧ Good xs ∧ (0 < ys.length ∧ ys.length < 1073741824) ∧ ∀ (d : D) (zs : List D), d ∈ ys → Good zs → Q (.val d) [some (.ob (.L zs)), some a]⟩
theorem F_pick_mono : MonoF F_pick.sp := fun args xp xp' Q Q' _ hq ⟨xs, a, ys, e, e2, g, h0, h⟩ => ⟨xs, a, ys, e, e2, g, h0, fun r zs h1 h2 => hq _ _ (h r zs h1 h2)⟩
theorem y_pick {xs ys : List D} {a : Sl} {xp : Ex → Prop} {Q : Rv → Sd → Prop} (e : itemsOf a = some ys) (g : Good xs) (h0 : 0 < ys.length ∧ ys.length < 1073741824) (h : ∀ (d : D) (zs : List D), d ∈ ys → Good zs → Q (.val d) [some (.ob (.L zs)), some a]) : F_pick.sp [.ob (.L xs), a] xp Q := ⟨xs, a, ys, rfl, e, g, h0, h⟩
def W_pick : WS := wSeq (wRet (wIxN 1 (wCall F_take (wHand 0 (wDat (wBi bLen (wHand 1 (wNil))) (wNil)))))) (wNext)
theorem W_pick_ok : ∀ args xp Q, args.length = F_pick.ps.length → F_pick.sp args xp Q → W_pick (endsOf [0, 1] 2 Q) (startD 2 args) xp := by
  rintro args xp Q _ ⟨xs, a, ys, rfl, e, g, h0, h⟩
  have at' : ∀ r : Int, 0 ≤ r → r < ys.length → ∃ d, atI ys r = some d ∧ d ∈ ys := fun r q1 q2 => atI_nn q1 q2
  unfold W_pick endsOf
  match a, e with
  | .dat (.list ys), rfl =>
    repeat' with_reducible first
      | refine y_take g ⟨by omega, by omega⟩ (fun r zs hr1 hr2 gz => ?_)
      | refine x_seq ?_
      | refine x_next ?_
      | refine x_brk ?_
      | refine x_cnt ?_
      | refine x_ret ?_
      | refine x_retN ?_
      | refine x_set (by with_unfolding_all decide) ?_
      | refine x_drop ?_
      | refine x_ifS ?_
      | refine x_ite (fun hc => ?_) (fun hc => ?_)
      | refine x_iteN (fun hc => ?_) (fun hc => ?_)
      | refine x_iteT ?_
      | refine x_iteF ?_
      | refine x_iteNT ?_
      | refine x_iteNF ?_
      | refine x_for ?_
      | refine x_par (by with_unfolding_all decide) (by with_unfolding_all decide) ?_
      | refine x_parG ?_
      | refine x_par3 (by with_unfolding_all decide) (by with_unfolding_all decide) (by with_unfolding_all decide) ?_
      | refine x_parG3 ?_
      | refine x_asg ?_
      | refine x_to (by with_unfolding_all decide) ?_
      | refine x_gT (by with_unfolding_all rfl) ?_
      | refine x_g0 ?_
      | refine x_g1 ?_
      | refine x_aug (by with_unfolding_all decide) (by with_unfolding_all rfl) ?_
      | refine x_augG ?_
      | refine x_augS (by with_unfolding_all rfl) ?_
      | refine x_augS1 (by with_unfolding_all rfl) (by with_unfolding_all rfl) (by with_unfolding_all rfl) ?_
      | refine x_augS2 (by with_unfolding_all rfl) (by with_unfolding_all rfl) ?_
      | refine x_put ?_
      | refine x_putG (by with_unfolding_all rfl) ?_
      | refine x_putL (by with_unfolding_all rfl) (by with_unfolding_all rfl) ?_
      | refine x_op ?_
      | refine x_fv ?_
      | refine x_fl ?_
      | refine x_c ?_
      | refine x_var (by with_unfolding_all rfl) ?_
      | refine x_varO (by with_unfolding_all rfl) ?_
      | refine x_bi ?_
      | refine x_nil ?_
      | refine x_dat ?_
      | refine x_handD (by with_unfolding_all rfl) ?_
      | refine x_handO (by with_unfolding_all rfl) ?_
      | refine x_tup ?_
      | refine x_lst ?_
      | refine x_tupG (by with_unfolding_all rfl) (by with_unfolding_all rfl) ?_
      | refine x_if ?_
      | refine x_neg ?_
      | refine x_negG ?_
      | refine x_ixNO (by with_unfolding_all rfl) ?_
      | refine x_ixND (by with_unfolding_all rfl) ?_
      | refine x_ixG (by with_unfolding_all rfl) (by with_unfolding_all rfl) ?_
      | refine x_ixt0 ?_
      | refine x_ixt1 ?_
      | refine x_ixt2 ?_
      | refine x_ixt3 ?_
      | refine x_ixt4 ?_
      | refine x_ixt5 ?_
      | refine x_ixt6 ?_
      | refine x_ixt7 ?_
      | refine x_ixt (by with_unfolding_all rfl) ?_
      | refine x_ixl0 ?_
      | refine x_ixl1 ?_
      | refine x_ixl2 ?_
      | refine x_ixl3 ?_
      | refine x_ixl4 ?_
      | refine x_ixl5 ?_
      | refine x_ixl6 ?_
      | refine x_ixl7 ?_
      | refine x_ixl (by with_unfolding_all rfl) ?_
      | refine x_add ?_
      | refine x_addt ?_ ?_
      | refine x_addl ?_ ?_
      | refine x_sub ?_
      | refine x_mul ?_ ?_
      | refine x_div ?_ ?_
      | refine x_mod ?_ ?_
      | refine x_pow ?_ ?_
      | refine x_lt ?_
      | refine x_le ?_
      | refine x_gt ?_
      | refine x_ge ?_
      | refine x_eq ?_
      | refine x_ne ?_
      | refine x_is ?_
      | refine x_bl ?_
      | refine x_blG ?_
      | refine x_tru ?_
      | refine x_truB ?_
      | refine x_truI ?_
      | refine x_truL ?_
      | refine x_truT ?_
      | refine x_andC ?_
      | refine x_orC ?_
      | refine x_notC ?_
      | refine x_andV ?_
      | refine x_orV ?_
      | refine x_notV ?_
      | refine x_ch ?_
      | refine x_sl ?_
      | refine x_noPart ?_
      | refine x_part ?_
      | refine x_partG ?_
      | refine x_slL ?_
      | refine x_slT ?_
      | refine x_items ?_
      | refine x_itL ?_
      | refine x_itT ?_
      | refine x_range1 ?_
      | refine x_rgG ?_ ?_
      | refine x_range2 ?_
      | refine x_rgG2 ?_ ?_
      | refine x_lc ?_
      | refine x_yes ?_
      | refine x_take (by with_unfolding_all decide) (by with_unfolding_all rfl) ?_
      | refine x_takeD (by with_unfolding_all decide) (by with_unfolding_all rfl) ?_
      | refine x_app ⟨_, (by with_unfolding_all rfl)⟩ ?_
      | refine x_appG (by with_unfolding_all rfl) ?_ ?_
      | refine x_isi ?_
      | refine x_isiT (by with_unfolding_all rfl) (by with_unfolding_all rfl) ?_
      | refine x_isiF (by with_unfolding_all rfl) (by with_unfolding_all rfl) ?_
      | refine x_int ?_
      | refine x_intB ?_
      | refine x_abs ?_
      | refine x_max2 ?_
      | refine x_min2 ?_
      | refine x_len (by with_unfolding_all rfl) ?_
      | refine x_lenT (by with_unfolding_all rfl) ?_
      | refine x_btup (by with_unfolding_all rfl) ?_
      | refine x_btupT ?_
      | refine x_blst (by with_unfolding_all rfl) ?_
      | refine x_blstT ?_
      | refine x_call ?_
      | refine x_callG (by with_unfolding_all rfl) (by with_unfolding_all rfl) (by with_unfolding_all rfl) (by with_unfolding_all rfl) ?_
      | refine x_callK ?_
      | refine x_callKG (by with_unfolding_all rfl) (by with_unfolding_all rfl) (by with_unfolding_all rfl) ?_
    obtain ⟨d, ed, md⟩ := at' r hr1 hr2
    exact x_ixl ed (h d zs md gz)
  | .dat (.tuple ys), rfl =>
    repeat' with_reducible first
      | refine y_take g ⟨by omega, by omega⟩ (fun r zs hr1 hr2 gz => ?_)
      | refine x_seq ?_
      | refine x_next ?_
      | refine x_brk ?_
      | refine x_cnt ?_
      | refine x_ret ?_
      | refine x_retN ?_
      | refine x_set (by with_unfolding_all decide) ?_
      | refine x_drop ?_
      | refine x_ifS ?_
      | refine x_ite (fun hc => ?_) (fun hc => ?_)
      | refine x_iteN (fun hc => ?_) (fun hc => ?_)
      | refine x_iteT ?_
      | refine x_iteF ?_
      | refine x_iteNT ?_
      | refine x_iteNF ?_
      | refine x_for ?_
      | refine x_par (by with_unfolding_all decide) (by with_unfolding_all decide) ?_
      | refine x_parG ?_
      | refine x_par3 (by with_unfolding_all decide) (by with_unfolding_all decide) (by with_unfolding_all decide) ?_
      | refine x_parG3 ?_
      | refine x_asg ?_
      | refine x_to (by with_unfolding_all decide) ?_
      | refine x_gT (by with_unfolding_all rfl) ?_
      | refine x_g0 ?_
      | refine x_g1 ?_
      | refine x_aug (by with_unfolding_all decide) (by with_unfolding_all rfl) ?_
      | refine x_augG ?_
      | refine x_augS (by with_unfolding_all rfl) ?_
      | refine x_augS1 (by with_unfolding_all rfl) (by with_unfolding_all rfl) (by with_unfolding_all rfl) ?_
      | refine x_augS2 (by with_unfolding_all rfl) (by with_unfolding_all rfl) ?_
      | refine x_put ?_
      | refine x_putG (by with_unfolding_all rfl) ?_
      | refine x_putL (by with_unfolding_all rfl) (by with_unfolding_all rfl) ?_
      | refine x_op ?_
      | refine x_fv ?_
      | refine x_fl ?_
      | refine x_c ?_
      | refine x_var (by with_unfolding_all rfl) ?_
      | refine x_varO (by with_unfolding_all rfl) ?_
      | refine x_bi ?_
      | refine x_nil ?_
      | refine x_dat ?_
      | refine x_handD (by with_unfolding_all rfl) ?_
      | refine x_handO (by with_unfolding_all rfl) ?_
      | refine x_tup ?_
      | refine x_lst ?_
      | refine x_tupG (by with_unfolding_all rfl) (by with_unfolding_all rfl) ?_
      | refine x_if ?_
      | refine x_neg ?_
      | refine x_negG ?_
      | refine x_ixNO (by with_unfolding_all rfl) ?_
      | refine x_ixND (by with_unfolding_all rfl) ?_
      | refine x_ixG (by with_unfolding_all rfl) (by with_unfolding_all rfl) ?_
      | refine x_ixt0 ?_
      | refine x_ixt1 ?_
      | refine x_ixt2 ?_
      | refine x_ixt3 ?_
      | refine x_ixt4 ?_
      | refine x_ixt5 ?_
      | refine x_ixt6 ?_
      | refine x_ixt7 ?_
      | refine x_ixt (by with_unfolding_all rfl) ?_
      | refine x_ixl0 ?_
      | refine x_ixl1 ?_
      | refine x_ixl2 ?_
      | refine x_ixl3 ?_
      | refine x_ixl4 ?_
      | refine x_ixl5 ?_
      | refine x_ixl6 ?_
      | refine x_ixl7 ?_
      | refine x_ixl (by with_unfolding_all rfl) ?_
      | refine x_add ?_
      | refine x_addt ?_ ?_
      | refine x_addl ?_ ?_
      | refine x_sub ?_
      | refine x_mul ?_ ?_
      | refine x_div ?_ ?_
      | refine x_mod ?_ ?_
      | refine x_pow ?_ ?_
      | refine x_lt ?_
      | refine x_le ?_
      | refine x_gt ?_
      | refine x_ge ?_
      | refine x_eq ?_
      | refine x_ne ?_
      | refine x_is ?_
      | refine x_bl ?_
      | refine x_blG ?_
      | refine x_tru ?_
      | refine x_truB ?_
      | refine x_truI ?_
      | refine x_truL ?_
      | refine x_truT ?_
      | refine x_andC ?_
      | refine x_orC ?_
      | refine x_notC ?_
      | refine x_andV ?_
      | refine x_orV ?_
      | refine x_notV ?_
      | refine x_ch ?_
      | refine x_sl ?_
      | refine x_noPart ?_
      | refine x_part ?_
      | refine x_partG ?_
      | refine x_slL ?_
      | refine x_slT ?_
      | refine x_items ?_
      | refine x_itL ?_
      | refine x_itT ?_
      | refine x_range1 ?_
      | refine x_rgG ?_ ?_
      | refine x_range2 ?_
      | refine x_rgG2 ?_ ?_
      | refine x_lc ?_
      | refine x_yes ?_
      | refine x_take (by with_unfolding_all decide) (by with_unfolding_all rfl) ?_
      | refine x_takeD (by with_unfolding_all decide) (by with_unfolding_all rfl) ?_
      | refine x_app ⟨_, (by with_unfolding_all rfl)⟩ ?_
      | refine x_appG (by with_unfolding_all rfl) ?_ ?_
      | refine x_isi ?_
      | refine x_isiT (by with_unfolding_all rfl) (by with_unfolding_all rfl) ?_
      | refine x_isiF (by with_unfolding_all rfl) (by with_unfolding_all rfl) ?_
      | refine x_int ?_
      | refine x_intB ?_
      | refine x_abs ?_
      | refine x_max2 ?_
      | refine x_min2 ?_
      | refine x_len (by with_unfolding_all rfl) ?_
      | refine x_lenT (by with_unfolding_all rfl) ?_
      | refine x_btup (by with_unfolding_all rfl) ?_
      | refine x_btupT ?_
      | refine x_blst (by with_unfolding_all rfl) ?_
      | refine x_blstT ?_
      | refine x_call ?_
      | refine x_callG (by with_unfolding_all rfl) (by with_unfolding_all rfl) (by with_unfolding_all rfl) (by with_unfolding_all rfl) ?_
      | refine x_callK ?_
      | refine x_callKG (by with_unfolding_all rfl) (by with_unfolding_all rfl) (by with_unfolding_all rfl) ?_
    obtain ⟨d, ed, md⟩ := at' r hr1 hr2
    exact x_ixt ed (h d zs md gz)
  | .ob (.L ys), rfl =>
    repeat' with_reducible first
      | refine y_take g ⟨by omega, by omega⟩ (fun r zs hr1 hr2 gz => ?_)
      | refine x_seq ?_
      | refine x_next ?_
      | refine x_brk ?_
      | refine x_cnt ?_
      | refine x_ret ?_
      | refine x_retN ?_
      | refine x_set (by with_unfolding_all decide) ?_
      | refine x_drop ?_
      | refine x_ifS ?_
      | refine x_ite (fun hc => ?_) (fun hc => ?_)
      | refine x_iteN (fun hc => ?_) (fun hc => ?_)
      | refine x_iteT ?_
      | refine x_iteF ?_
      | refine x_iteNT ?_
      | refine x_iteNF ?_
      | refine x_for ?_
      | refine x_par (by with_unfolding_all decide) (by with_unfolding_all decide) ?_
      | refine x_parG ?_
      | refine x_par3 (by with_unfolding_all decide) (by with_unfolding_all decide) (by with_unfolding_all decide) ?_
      | refine x_parG3 ?_
      | refine x_asg ?_
      | refine x_to (by with_unfolding_all decide) ?_
      | refine x_gT (by with_unfolding_all rfl) ?_
      | refine x_g0 ?_
      | refine x_g1 ?_
      | refine x_aug (by with_unfolding_all decide) (by with_unfolding_all rfl) ?_
      | refine x_augG ?_
      | refine x_augS (by with_unfolding_all rfl) ?_
      | refine x_augS1 (by with_unfolding_all rfl) (by with_unfolding_all rfl) (by with_unfolding_all rfl) ?_
      | refine x_augS2 (by with_unfolding_all rfl) (by with_unfolding_all rfl) ?_
      | refine x_put ?_
      | refine x_putG (by with_unfolding_all rfl) ?_
      | refine x_putL (by with_unfolding_all rfl) (by with_unfolding_all rfl) ?_
      | refine x_op ?_
      | refine x_fv ?_
      | refine x_fl ?_
      | refine x_c ?_
      | refine x_var (by with_unfolding_all rfl) ?_
      | refine x_varO (by with_unfolding_all rfl) ?_
      | refine x_bi ?_
      | refine x_nil ?_
      | refine x_dat ?_
      | refine x_handD (by with_unfolding_all rfl) ?_
      | refine x_handO (by with_unfolding_all rfl) ?_
      | refine x_tup ?_
      | refine x_lst ?_
      | refine x_tupG (by with_unfolding_all rfl) (by with_unfolding_all rfl) ?_
      | refine x_if ?_
      | refine x_neg ?_
      | refine x_negG ?_
      | refine x_ixNO (by with_unfolding_all rfl) ?_
      | refine x_ixND (by with_unfolding_all rfl) ?_
      | refine x_ixG (by with_unfolding_all rfl) (by with_unfolding_all rfl) ?_
      | refine x_ixt0 ?_
      | refine x_ixt1 ?_
      | refine x_ixt2 ?_
      | refine x_ixt3 ?_
      | refine x_ixt4 ?_
      | refine x_ixt5 ?_
      | refine x_ixt6 ?_
      | refine x_ixt7 ?_
      | refine x_ixt (by with_unfolding_all rfl) ?_
      | refine x_ixl0 ?_
      | refine x_ixl1 ?_
      | refine x_ixl2 ?_
      | refine x_ixl3 ?_
      | refine x_ixl4 ?_
      | refine x_ixl5 ?_
      | refine x_ixl6 ?_
      | refine x_ixl7 ?_
      | refine x_ixl (by with_unfolding_all rfl) ?_
      | refine x_add ?_
      | refine x_addt ?_ ?_
      | refine x_addl ?_ ?_
      | refine x_sub ?_
      | refine x_mul ?_ ?_
      | refine x_div ?_ ?_
      | refine x_mod ?_ ?_
      | refine x_pow ?_ ?_
      | refine x_lt ?_
      | refine x_le ?_
      | refine x_gt ?_
      | refine x_ge ?_
      | refine x_eq ?_
      | refine x_ne ?_
      | refine x_is ?_
      | refine x_bl ?_
      | refine x_blG ?_
      | refine x_tru ?_
      | refine x_truB ?_
      | refine x_truI ?_
      | refine x_truL ?_
      | refine x_truT ?_
      | refine x_andC ?_
      | refine x_orC ?_
      | refine x_notC ?_
      | refine x_andV ?_
      | refine x_orV ?_
      | refine x_notV ?_
      | refine x_ch ?_
      | refine x_sl ?_
      | refine x_noPart ?_
      | refine x_part ?_
      | refine x_partG ?_
      | refine x_slL ?_
      | refine x_slT ?_
      | refine x_items ?_
      | refine x_itL ?_
      | refine x_itT ?_
      | refine x_range1 ?_
      | refine x_rgG ?_ ?_
      | refine x_range2 ?_
      | refine x_rgG2 ?_ ?_
      | refine x_lc ?_
      | refine x_yes ?_
      | refine x_take (by with_unfolding_all decide) (by with_unfolding_all rfl) ?_
      | refine x_takeD (by with_unfolding_all decide) (by with_unfolding_all rfl) ?_
      | refine x_app ⟨_, (by with_unfolding_all rfl)⟩ ?_
      | refine x_appG (by with_unfolding_all rfl) ?_ ?_
      | refine x_isi ?_
      | refine x_isiT (by with_unfolding_all rfl) (by with_unfolding_all rfl) ?_
      | refine x_isiF (by with_unfolding_all rfl) (by with_unfolding_all rfl) ?_
      | refine x_int ?_
      | refine x_intB ?_
      | refine x_abs ?_
      | refine x_max2 ?_
      | refine x_min2 ?_
      | refine x_len (by with_unfolding_all rfl) ?_
      | refine x_lenT (by with_unfolding_all rfl) ?_
      | refine x_btup (by with_unfolding_all rfl) ?_
      | refine x_btupT ?_
      | refine x_blst (by with_unfolding_all rfl) ?_
      | refine x_blstT ?_
      | refine x_call ?_
      | refine x_callG (by with_unfolding_all rfl) (by with_unfolding_all rfl) (by with_unfolding_all rfl) (by with_unfolding_all rfl) ?_
      | refine x_callK ?_
      | refine x_callKG (by with_unfolding_all rfl) (by with_unfolding_all rfl) (by with_unfolding_all rfl) ?_
    obtain ⟨d, ed, md⟩ := at' r hr1 hr2
    exact x_ixG (xs := ys) rfl ed (h d zs md gz)
/-! ### _law_shuffled -/
def F_shuffled : Fn := ⟨["state", "some"], [0, 1], [], fun args _ Q => ∃ (xs : List D) (a : Sl) (ys : List D), args = [.ob (.L xs), a] ∧ itemsOf a = some ys ∧ Good xs ∧ ys.length < 1000000 ∧ ∀ (us : List D) (zs : List D), us.Perm ys → Good zs → Q (.fresh (.L us)) [some (.ob (.L zs)), some a]⟩
theorem F_shuffled_mono : MonoF F_shuffled.sp := fun args xp xp' Q Q' _ hq ⟨xs, a, ys, e, e2, g, h0, h⟩ => ⟨xs, a, ys, e, e2, g, h0, fun r zs h1 h2 => hq _ _ (h r zs h1 h2)⟩
theorem y_shuffled {xs ys : List D} {a : Sl} {xp : Ex → Prop} {Q : Rv → Sd → Prop} (e : itemsOf a = some ys) (g : Good xs) (h0 : ys.length < 1000000) (h : ∀ (us : List D) (zs : List D), us.Perm ys → Good zs → Q (.fresh (.L us)) [some (.ob (.L zs)), some a]) : F_shuffled.sp [.ob (.L xs), a] xp Q := ⟨xs, a, ys, rfl, e, g, h0, h⟩
def W_shuffled : WS := wSeq (wSet [0, 1] 2 (wBi bLst (wHand 1 (wNil)))) (wSeq (wSet [0, 1] 3 (wLst (wNil))) (wSeq (wFor (wRange1 (wDat (wBi bLen (wHand 1 (wNil))) (wNil))) (wTo [0, 1] 4) (wSeq (wSet [0, 1] 5 (wCall F_take (wHand 0 (wDat (wBi bLen (wHand 2 (wNil))) (wNil))))) (wSeq (wDrop (wApp 3 (wIxN 2 (wVar 5)))) (wSeq (wSet [0, 1] 2 (wOp gAdd (wSl (wVar 2) noPart (part (wVar 5))) (wSl (wVar 2) (part (wOp gAdd (wVar 5) (wC (.int 1)))) noPart))) (wNext))))) (wSeq (wRet (wTake [0, 1] 3)) (wNext))))
theorem small_line {n : Nat} (h : n < 1000000) : n < sizeLine := by rw [sizeLine_eq]; omega
theorem shuf_loop {a : Sl} {ys st : List D} {xp : Ex → Prop} {Q : Rv → Sd → Prop} (g : Good st) (h0 : ys.length < 1000000) (h : ∀ (us : List D) (zs : List D), us.Perm ys → Good zs → Q (.fresh (.L us)) [some (.ob (.L zs)), some a]) {b : WS} {A : DE}
    (hA : ∀ st left found c d, Good st → (left ++ found).Perm ys → found.length = ys.length → A.nx [some (.ob (.L st)), some a, some (.ob (.L left)), some (.ob (.L found)), c, d])
    (hb : b = (wSeq (wSet [0, 1] 5 (wCall F_take (wHand 0 (wDat (wBi bLen (wHand 2 (wNil))) (wNil))))) (wSeq (wDrop (wApp 3 (wIxN 2 (wVar 5)))) (wSeq (wSet [0, 1] 2 (wOp gAdd (wSl (wVar 2) noPart (part (wVar 5))) (wSl (wVar 2) (part (wOp gAdd (wVar 5) (wC (.int 1)))) noPart))) (wNext))))) :
    forGo (wTo [0, 1] 4) b A xp (rangeD 0 (Int.toNat (ys.length : Int))) [some (.ob (.L st)), some a, some (.ob (.L ys)), some (.ob (.L [])), none, none] := by
  refine rg_rule (fun k s => ∃ st left found c d, s = [some (.ob (.L st)), some a, some (.ob (.L left)), some (.ob (.L found)), c, d] ∧ Good st ∧ (left ++ found).Perm ys ∧ (found.length : Int) = k) 0 (ys.length : Int) (by omega) ⟨_, _, _, _, _, rfl, g, by simp, rfl⟩ ?_ ?_
  · rintro sd ⟨st, left, found, c, d, rfl, g, hp, hk⟩
    exact hA _ _ _ _ _ g hp (by omega)
  · rintro NX k sd hk0 hk1 ⟨st, left, found, c, d, rfl, g, hp, hk⟩ ih
    have hl : left.length + found.length = ys.length := by have := hp.length_eq; rwa [List.length_append] at this
    subst hb
    repeat' with_reducible first
      | refine y_take g ⟨by omega, by omega⟩ (fun r zs hr1 hr2 gz => ?_)
      | refine x_ixAt (by with_unfolding_all rfl) ⟨by assumption, by assumption⟩ (fun e he me => ?_)
      | refine x_seq ?_
      | refine x_next ?_
      | refine x_brk ?_
      | refine x_cnt ?_
      | refine x_ret ?_
      | refine x_retN ?_
      | refine x_set (by with_unfolding_all decide) ?_
      | refine x_drop ?_
      | refine x_ifS ?_
      | refine x_ite (fun hc => ?_) (fun hc => ?_)
      | refine x_iteN (fun hc => ?_) (fun hc => ?_)
      | refine x_iteT ?_
      | refine x_iteF ?_
      | refine x_iteNT ?_
      | refine x_iteNF ?_
      | refine x_for ?_
      | refine x_par (by with_unfolding_all decide) (by with_unfolding_all decide) ?_
      | refine x_parG ?_
      | refine x_par3 (by with_unfolding_all decide) (by with_unfolding_all decide) (by with_unfolding_all decide) ?_
      | refine x_parG3 ?_
      | refine x_asg ?_
      | refine x_to (by with_unfolding_all decide) ?_
      | refine x_gT (by with_unfolding_all rfl) ?_
      | refine x_g0 ?_
      | refine x_g1 ?_
      | refine x_aug (by with_unfolding_all decide) (by with_unfolding_all rfl) ?_
      | refine x_augG ?_
      | refine x_augS (by with_unfolding_all rfl) ?_
      | refine x_augS1 (by with_unfolding_all rfl) (by with_unfolding_all rfl) (by with_unfolding_all rfl) ?_
      | refine x_augS2 (by with_unfolding_all rfl) (by with_unfolding_all rfl) ?_
      | refine x_put ?_
      | refine x_putG (by with_unfolding_all rfl) ?_
      | refine x_putL (by with_unfolding_all rfl) (by with_unfolding_all rfl) ?_
      | refine x_op ?_
      | refine x_fv ?_
      | refine x_fl ?_
      | refine x_c ?_
      | refine x_var (by with_unfolding_all rfl) ?_
      | refine x_varO (by with_unfolding_all rfl) ?_
      | refine x_bi ?_
      | refine x_nil ?_
      | refine x_dat ?_
      | refine x_handD (by with_unfolding_all rfl) ?_
      | refine x_handO (by with_unfolding_all rfl) ?_
      | refine x_tup ?_
      | refine x_lst ?_
      | refine x_tupG (by with_unfolding_all rfl) (by with_unfolding_all rfl) ?_
      | refine x_if ?_
      | refine x_neg ?_
      | refine x_negG ?_
      | refine x_ixNO (by with_unfolding_all rfl) ?_
      | refine x_ixND (by with_unfolding_all rfl) ?_
      | refine x_ixG (by with_unfolding_all rfl) (by with_unfolding_all rfl) ?_
      | refine x_ixt0 ?_
      | refine x_ixt1 ?_
      | refine x_ixt2 ?_
      | refine x_ixt3 ?_
      | refine x_ixt4 ?_
      | refine x_ixt5 ?_
      | refine x_ixt6 ?_
      | refine x_ixt7 ?_
      | refine x_ixt (by with_unfolding_all rfl) ?_
      | refine x_ixl0 ?_
      | refine x_ixl1 ?_
      | refine x_ixl2 ?_
      | refine x_ixl3 ?_
      | refine x_ixl4 ?_
      | refine x_ixl5 ?_
      | refine x_ixl6 ?_
      | refine x_ixl7 ?_
      | refine x_ixl (by with_unfolding_all rfl) ?_
      | refine x_add ?_
      | refine x_addt ?_ ?_
      | refine x_addl ?_ ?_
      | refine x_sub ?_
      | refine x_mul ?_ ?_
      | refine x_div ?_ ?_
      | refine x_mod ?_ ?_
      | refine x_pow ?_ ?_
      | refine x_lt ?_
      | refine x_le ?_
      | refine x_gt ?_
      | refine x_ge ?_
      | refine x_eq ?_
      | refine x_ne ?_
      | refine x_is ?_
      | refine x_bl ?_
      | refine x_blG ?_
      | refine x_tru ?_
      | refine x_truB ?_
      | refine x_truI ?_
      | refine x_truL ?_
      | refine x_truT ?_
      | refine x_andC ?_
      | refine x_orC ?_
      | refine x_notC ?_
      | refine x_andV ?_
      | refine x_orV ?_
      | refine x_notV ?_
      | refine x_ch ?_
      | refine x_sl ?_
      | refine x_noPart ?_
      | refine x_part ?_
      | refine x_partG ?_
      | refine x_slL ?_
      | refine x_slT ?_
      | refine x_items ?_
      | refine x_itL ?_
      | refine x_itT ?_
      | refine x_range1 ?_
      | refine x_rgG ?_ ?_
      | refine x_range2 ?_
      | refine x_rgG2 ?_ ?_
      | refine x_lc ?_
      | refine x_yes ?_
      | refine x_take (by with_unfolding_all decide) (by with_unfolding_all rfl) ?_
      | refine x_takeD (by with_unfolding_all decide) (by with_unfolding_all rfl) ?_
      | refine x_app ⟨_, (by with_unfolding_all rfl)⟩ ?_
      | refine x_appG (by with_unfolding_all rfl) ?_ ?_
      | refine x_isi ?_
      | refine x_isiT (by with_unfolding_all rfl) (by with_unfolding_all rfl) ?_
      | refine x_isiF (by with_unfolding_all rfl) (by with_unfolding_all rfl) ?_
      | refine x_int ?_
      | refine x_intB ?_
      | refine x_abs ?_
      | refine x_max2 ?_
      | refine x_min2 ?_
      | refine x_len (by with_unfolding_all rfl) ?_
      | refine x_lenT (by with_unfolding_all rfl) ?_
      | refine x_btup (by with_unfolding_all rfl) ?_
      | refine x_btupT ?_
      | refine x_blst (by with_unfolding_all rfl) ?_
      | refine x_blstT ?_
      | refine x_call ?_
      | refine x_callG (by with_unfolding_all rfl) (by with_unfolding_all rfl) (by with_unfolding_all rfl) (by with_unfolding_all rfl) ?_
      | refine x_callK ?_
      | refine x_callKG (by with_unfolding_all rfl) (by with_unfolding_all rfl) (by with_unfolding_all rfl) ?_
    · exact small_line (by omega)
    · rw [cut_take hr1, cut_drop (by omega), List.length_take, List.length_drop, sizeLine_eq]
      omega
    · obtain ⟨q1, q2⟩ := atI_split hr1 he
      refine ih _ ⟨zs, left.take r.toNat ++ left.drop (r + 1).toNat, found ++ [e], some (.dat (.int k)), some (.dat (.int r)), ?_, gz, ?_, by simp [hk]⟩
      · rw [cut_take hr1, cut_drop (by omega)]
        rfl
      · rw [show (r + 1).toNat = r.toNat + 1 by omega]
        refine List.Perm.trans ?_ hp
        have e2 : left ++ found = left.take r.toNat ++ (e :: left.drop (r.toNat + 1)) ++ found := by rw [← q2]
        rw [e2, List.append_assoc, List.append_assoc, List.cons_append]
        refine List.Perm.append_left _ ?_
        rw [← List.append_assoc]
        exact List.perm_append_singleton _ _
theorem W_shuffled_ok : ∀ args xp Q, args.length = F_shuffled.ps.length → F_shuffled.sp args xp Q → W_shuffled (endsOf [0, 1] 2 Q) (startD 6 args) xp := by
  rintro args xp Q _ ⟨xs, a, ys, rfl, e, g, h0, h⟩
  have hA : ∀ (st left found : List D) (c d : Option Sl), Good st → (left ++ found).Perm ys → found.length = ys.length → wSeq (wRet (wTake [0, 1] 3)) wNext (endsOf [0, 1] 2 Q) [some (.ob (.L st)), some a, some (.ob (.L left)), some (.ob (.L found)), c, d] xp := fun st left found c d g hp hl => by
    have e0 : left = [] := by
      have := hp.length_eq
      rw [List.length_append] at this
      exact List.eq_nil_of_length_eq_zero (by omega)
    subst e0
    unfold endsOf
    repeat' with_reducible first
      | refine x_seq ?_
      | refine x_next ?_
      | refine x_brk ?_
      | refine x_cnt ?_
      | refine x_ret ?_
      | refine x_retN ?_
      | refine x_set (by with_unfolding_all decide) ?_
      | refine x_drop ?_
      | refine x_ifS ?_
      | refine x_ite (fun hc => ?_) (fun hc => ?_)
      | refine x_iteN (fun hc => ?_) (fun hc => ?_)
      | refine x_iteT ?_
      | refine x_iteF ?_
      | refine x_iteNT ?_
      | refine x_iteNF ?_
      | refine x_for ?_
      | refine x_par (by with_unfolding_all decide) (by with_unfolding_all decide) ?_
      | refine x_parG ?_
      | refine x_par3 (by with_unfolding_all decide) (by with_unfolding_all decide) (by with_unfolding_all decide) ?_
      | refine x_parG3 ?_
      | refine x_asg ?_
      | refine x_to (by with_unfolding_all decide) ?_
      | refine x_gT (by with_unfolding_all rfl) ?_
      | refine x_g0 ?_
      | refine x_g1 ?_
      | refine x_aug (by with_unfolding_all decide) (by with_unfolding_all rfl) ?_
      | refine x_augG ?_
      | refine x_augS (by with_unfolding_all rfl) ?_
      | refine x_augS1 (by with_unfolding_all rfl) (by with_unfolding_all rfl) (by with_unfolding_all rfl) ?_
      | refine x_augS2 (by with_unfolding_all rfl) (by with_unfolding_all rfl) ?_
      | refine x_put ?_
      | refine x_putG (by with_unfolding_all rfl) ?_
      | refine x_putL (by with_unfolding_all rfl) (by with_unfolding_all rfl) ?_
      | refine x_op ?_
      | refine x_fv ?_
      | refine x_fl ?_
      | refine x_c ?_
      | refine x_var (by with_unfolding_all rfl) ?_
      | refine x_varO (by with_unfolding_all rfl) ?_
      | refine x_bi ?_
      | refine x_nil ?_
      | refine x_dat ?_
      | refine x_handD (by with_unfolding_all rfl) ?_
      | refine x_handO (by with_unfolding_all rfl) ?_
      | refine x_tup ?_
      | refine x_lst ?_
      | refine x_tupG (by with_unfolding_all rfl) (by with_unfolding_all rfl) ?_
      | refine x_if ?_
      | refine x_neg ?_
      | refine x_negG ?_
      | refine x_ixNO (by with_unfolding_all rfl) ?_
      | refine x_ixND (by with_unfolding_all rfl) ?_
      | refine x_ixG (by with_unfolding_all rfl) (by with_unfolding_all rfl) ?_
      | refine x_ixt0 ?_
      | refine x_ixt1 ?_
      | refine x_ixt2 ?_
      | refine x_ixt3 ?_
      | refine x_ixt4 ?_
      | refine x_ixt5 ?_
      | refine x_ixt6 ?_
      | refine x_ixt7 ?_
      | refine x_ixt (by with_unfolding_all rfl) ?_
      | refine x_ixl0 ?_
      | refine x_ixl1 ?_
      | refine x_ixl2 ?_
      | refine x_ixl3 ?_
      | refine x_ixl4 ?_
      | refine x_ixl5 ?_
      | refine x_ixl6 ?_
      | refine x_ixl7 ?_
      | refine x_ixl (by with_unfolding_all rfl) ?_
      | refine x_add ?_
      | refine x_addt ?_ ?_
      | refine x_addl ?_ ?_
      | refine x_sub ?_
      | refine x_mul ?_ ?_
      | refine x_div ?_ ?_
      | refine x_mod ?_ ?_
      | refine x_pow ?_ ?_
      | refine x_lt ?_
      | refine x_le ?_
      | refine x_gt ?_
      | refine x_ge ?_
      | refine x_eq ?_
      | refine x_ne ?_
      | refine x_is ?_
      | refine x_bl ?_
      | refine x_blG ?_
      | refine x_tru ?_
      | refine x_truB ?_
      | refine x_truI ?_
      | refine x_truL ?_
      | refine x_truT ?_
      | refine x_andC ?_
      | refine x_orC ?_
      | refine x_notC ?_
      | refine x_andV ?_
      | refine x_orV ?_
      | refine x_notV ?_
      | refine x_ch ?_
      | refine x_sl ?_
      | refine x_noPart ?_
      | refine x_part ?_
      | refine x_partG ?_
      | refine x_slL ?_
      | refine x_slT ?_
      | refine x_items ?_
      | refine x_itL ?_
      | refine x_itT ?_
      | refine x_range1 ?_
      | refine x_rgG ?_ ?_
      | refine x_range2 ?_
      | refine x_rgG2 ?_ ?_
      | refine x_lc ?_
      | refine x_yes ?_
      | refine x_take (by with_unfolding_all decide) (by with_unfolding_all rfl) ?_
      | refine x_takeD (by with_unfolding_all decide) (by with_unfolding_all rfl) ?_
      | refine x_app ⟨_, (by with_unfolding_all rfl)⟩ ?_
      | refine x_appG (by with_unfolding_all rfl) ?_ ?_
      | refine x_isi ?_
      | refine x_isiT (by with_unfolding_all rfl) (by with_unfolding_all rfl) ?_
      | refine x_isiF (by with_unfolding_all rfl) (by with_unfolding_all rfl) ?_
      | refine x_int ?_
      | refine x_intB ?_
      | refine x_abs ?_
      | refine x_max2 ?_
      | refine x_min2 ?_
      | refine x_len (by with_unfolding_all rfl) ?_
      | refine x_lenT (by with_unfolding_all rfl) ?_
      | refine x_btup (by with_unfolding_all rfl) ?_
      | refine x_btupT ?_
      | refine x_blst (by with_unfolding_all rfl) ?_
      | refine x_blstT ?_
      | refine x_call ?_
      | refine x_callG (by with_unfolding_all rfl) (by with_unfolding_all rfl) (by with_unfolding_all rfl) (by with_unfolding_all rfl) ?_
      | refine x_callK ?_
      | refine x_callKG (by with_unfolding_all rfl) (by with_unfolding_all rfl) (by with_unfolding_all rfl) ?_
    exact h _ _ hp g
  unfold W_shuffled
  match a, e with
  | .dat (.list ys), rfl =>
    repeat' with_reducible first
      | refine x_seq ?_
      | refine x_next ?_
      | refine x_brk ?_
      | refine x_cnt ?_
      | refine x_ret ?_
      | refine x_retN ?_
      | refine x_set (by with_unfolding_all decide) ?_
      | refine x_drop ?_
      | refine x_ifS ?_
      | refine x_ite (fun hc => ?_) (fun hc => ?_)
      | refine x_iteN (fun hc => ?_) (fun hc => ?_)
      | refine x_iteT ?_
      | refine x_iteF ?_
      | refine x_iteNT ?_
      | refine x_iteNF ?_
      | refine x_par (by with_unfolding_all decide) (by with_unfolding_all decide) ?_
      | refine x_parG ?_
      | refine x_par3 (by with_unfolding_all decide) (by with_unfolding_all decide) (by with_unfolding_all decide) ?_
      | refine x_parG3 ?_
      | refine x_asg ?_
      | refine x_to (by with_unfolding_all decide) ?_
      | refine x_gT (by with_unfolding_all rfl) ?_
      | refine x_g0 ?_
      | refine x_g1 ?_
      | refine x_aug (by with_unfolding_all decide) (by with_unfolding_all rfl) ?_
      | refine x_augG ?_
      | refine x_augS (by with_unfolding_all rfl) ?_
      | refine x_augS1 (by with_unfolding_all rfl) (by with_unfolding_all rfl) (by with_unfolding_all rfl) ?_
      | refine x_augS2 (by with_unfolding_all rfl) (by with_unfolding_all rfl) ?_
      | refine x_put ?_
      | refine x_putG (by with_unfolding_all rfl) ?_
      | refine x_putL (by with_unfolding_all rfl) (by with_unfolding_all rfl) ?_
      | refine x_op ?_
      | refine x_fv ?_
      | refine x_fl ?_
      | refine x_c ?_
      | refine x_var (by with_unfolding_all rfl) ?_
      | refine x_varO (by with_unfolding_all rfl) ?_
      | refine x_bi ?_
      | refine x_nil ?_
      | refine x_dat ?_
      | refine x_handD (by with_unfolding_all rfl) ?_
      | refine x_handO (by with_unfolding_all rfl) ?_
      | refine x_tup ?_
      | refine x_lst ?_
      | refine x_tupG (by with_unfolding_all rfl) (by with_unfolding_all rfl) ?_
      | refine x_if ?_
      | refine x_neg ?_
      | refine x_negG ?_
      | refine x_ixNO (by with_unfolding_all rfl) ?_
      | refine x_ixND (by with_unfolding_all rfl) ?_
      | refine x_ixG (by with_unfolding_all rfl) (by with_unfolding_all rfl) ?_
      | refine x_ixt0 ?_
      | refine x_ixt1 ?_
      | refine x_ixt2 ?_
      | refine x_ixt3 ?_
      | refine x_ixt4 ?_
      | refine x_ixt5 ?_
      | refine x_ixt6 ?_
      | refine x_ixt7 ?_
      | refine x_ixt (by with_unfolding_all rfl) ?_
      | refine x_ixl0 ?_
      | refine x_ixl1 ?_
      | refine x_ixl2 ?_
      | refine x_ixl3 ?_
      | refine x_ixl4 ?_
      | refine x_ixl5 ?_
      | refine x_ixl6 ?_
      | refine x_ixl7 ?_
      | refine x_ixl (by with_unfolding_all rfl) ?_
      | refine x_add ?_
      | refine x_addt ?_ ?_
      | refine x_addl ?_ ?_
      | refine x_sub ?_
      | refine x_mul ?_ ?_
      | refine x_div ?_ ?_
      | refine x_mod ?_ ?_
      | refine x_pow ?_ ?_
      | refine x_lt ?_
      | refine x_le ?_
      | refine x_gt ?_
      | refine x_ge ?_
      | refine x_eq ?_
      | refine x_ne ?_
      | refine x_is ?_
      | refine x_bl ?_
      | refine x_blG ?_
      | refine x_tru ?_
      | refine x_truB ?_
      | refine x_truI ?_
      | refine x_truL ?_
      | refine x_truT ?_
      | refine x_andC ?_
      | refine x_orC ?_
      | refine x_notC ?_
      | refine x_andV ?_
      | refine x_orV ?_
      | refine x_notV ?_
      | refine x_ch ?_
      | refine x_sl ?_
      | refine x_noPart ?_
      | refine x_part ?_
      | refine x_partG ?_
      | refine x_slL ?_
      | refine x_slT ?_
      | refine x_items ?_
      | refine x_itL ?_
      | refine x_itT ?_
      | refine x_range1 ?_
      | refine x_rgG ?_ ?_
      | refine x_range2 ?_
      | refine x_rgG2 ?_ ?_
      | refine x_lc ?_
      | refine x_yes ?_
      | refine x_take (by with_unfolding_all decide) (by with_unfolding_all rfl) ?_
      | refine x_takeD (by with_unfolding_all decide) (by with_unfolding_all rfl) ?_
      | refine x_app ⟨_, (by with_unfolding_all rfl)⟩ ?_
      | refine x_appG (by with_unfolding_all rfl) ?_ ?_
      | refine x_isi ?_
      | refine x_isiT (by with_unfolding_all rfl) (by with_unfolding_all rfl) ?_
      | refine x_isiF (by with_unfolding_all rfl) (by with_unfolding_all rfl) ?_
      | refine x_int ?_
      | refine x_intB ?_
      | refine x_abs ?_
      | refine x_max2 ?_
      | refine x_min2 ?_
      | refine x_len (by with_unfolding_all rfl) ?_
      | refine x_lenT (by with_unfolding_all rfl) ?_
      | refine x_btup (by with_unfolding_all rfl) ?_
      | refine x_btupT ?_
      | refine x_blst (by with_unfolding_all rfl) ?_
      | refine x_blstT ?_
      | refine x_call ?_
      | refine x_callG (by with_unfolding_all rfl) (by with_unfolding_all rfl) (by with_unfolding_all rfl) (by with_unfolding_all rfl) ?_
      | refine x_callK ?_
      | refine x_callKG (by with_unfolding_all rfl) (by with_unfolding_all rfl) (by with_unfolding_all rfl) ?_
    refine x_for ?_
    repeat' with_reducible first
      | refine x_seq ?_
      | refine x_next ?_
      | refine x_brk ?_
      | refine x_cnt ?_
      | refine x_ret ?_
      | refine x_retN ?_
      | refine x_set (by with_unfolding_all decide) ?_
      | refine x_drop ?_
      | refine x_ifS ?_
      | refine x_ite (fun hc => ?_) (fun hc => ?_)
      | refine x_iteN (fun hc => ?_) (fun hc => ?_)
      | refine x_iteT ?_
      | refine x_iteF ?_
      | refine x_iteNT ?_
      | refine x_iteNF ?_
      | refine x_for ?_
      | refine x_par (by with_unfolding_all decide) (by with_unfolding_all decide) ?_
      | refine x_parG ?_
      | refine x_par3 (by with_unfolding_all decide) (by with_unfolding_all decide) (by with_unfolding_all decide) ?_
      | refine x_parG3 ?_
      | refine x_asg ?_
      | refine x_to (by with_unfolding_all decide) ?_
      | refine x_gT (by with_unfolding_all rfl) ?_
      | refine x_g0 ?_
      | refine x_g1 ?_
      | refine x_aug (by with_unfolding_all decide) (by with_unfolding_all rfl) ?_
      | refine x_augG ?_
      | refine x_augS (by with_unfolding_all rfl) ?_
      | refine x_augS1 (by with_unfolding_all rfl) (by with_unfolding_all rfl) (by with_unfolding_all rfl) ?_
      | refine x_augS2 (by with_unfolding_all rfl) (by with_unfolding_all rfl) ?_
      | refine x_put ?_
      | refine x_putG (by with_unfolding_all rfl) ?_
      | refine x_putL (by with_unfolding_all rfl) (by with_unfolding_all rfl) ?_
      | refine x_op ?_
      | refine x_fv ?_
      | refine x_fl ?_
      | refine x_c ?_
      | refine x_var (by with_unfolding_all rfl) ?_
      | refine x_varO (by with_unfolding_all rfl) ?_
      | refine x_bi ?_
      | refine x_nil ?_
      | refine x_dat ?_
      | refine x_handD (by with_unfolding_all rfl) ?_
      | refine x_handO (by with_unfolding_all rfl) ?_
      | refine x_tup ?_
      | refine x_lst ?_
      | refine x_tupG (by with_unfolding_all rfl) (by with_unfolding_all rfl) ?_
      | refine x_if ?_
      | refine x_neg ?_
      | refine x_negG ?_
      | refine x_ixNO (by with_unfolding_all rfl) ?_
      | refine x_ixND (by with_unfolding_all rfl) ?_
      | refine x_ixG (by with_unfolding_all rfl) (by with_unfolding_all rfl) ?_
      | refine x_ixt0 ?_
      | refine x_ixt1 ?_
      | refine x_ixt2 ?_
      | refine x_ixt3 ?_
      | refine x_ixt4 ?_
      | refine x_ixt5 ?_
      | refine x_ixt6 ?_
      | refine x_ixt7 ?_
      | refine x_ixt (by with_unfolding_all rfl) ?_
      | refine x_ixl0 ?_
      | refine x_ixl1 ?_
      | refine x_ixl2 ?_
      | refine x_ixl3 ?_
      | refine x_ixl4 ?_
      | refine x_ixl5 ?_
      | refine x_ixl6 ?_
      | refine x_ixl7 ?_
      | refine x_ixl (by with_unfolding_all rfl) ?_
      | refine x_add ?_
      | refine x_addt ?_ ?_
      | refine x_addl ?_ ?_
      | refine x_sub ?_
      | refine x_mul ?_ ?_
      | refine x_div ?_ ?_
      | refine x_mod ?_ ?_
      | refine x_pow ?_ ?_
      | refine x_lt ?_
      | refine x_le ?_
      | refine x_gt ?_
      | refine x_ge ?_
      | refine x_eq ?_
      | refine x_ne ?_
      | refine x_is ?_
      | refine x_bl ?_
      | refine x_blG ?_
      | refine x_tru ?_
      | refine x_truB ?_
      | refine x_truI ?_
      | refine x_truL ?_
      | refine x_truT ?_
      | refine x_andC ?_
      | refine x_orC ?_
      | refine x_notC ?_
      | refine x_andV ?_
      | refine x_orV ?_
      | refine x_notV ?_
      | refine x_ch ?_
      | refine x_sl ?_
      | refine x_noPart ?_
      | refine x_part ?_
      | refine x_partG ?_
      | refine x_slL ?_
      | refine x_slT ?_
      | refine x_items ?_
      | refine x_itL ?_
      | refine x_itT ?_
      | refine x_range1 ?_
      | refine x_rgG ?_ ?_
      | refine x_range2 ?_
      | refine x_rgG2 ?_ ?_
      | refine x_lc ?_
      | refine x_yes ?_
      | refine x_take (by with_unfolding_all decide) (by with_unfolding_all rfl) ?_
      | refine x_takeD (by with_unfolding_all decide) (by with_unfolding_all rfl) ?_
      | refine x_app ⟨_, (by with_unfolding_all rfl)⟩ ?_
      | refine x_appG (by with_unfolding_all rfl) ?_ ?_
      | refine x_isi ?_
      | refine x_isiT (by with_unfolding_all rfl) (by with_unfolding_all rfl) ?_
      | refine x_isiF (by with_unfolding_all rfl) (by with_unfolding_all rfl) ?_
      | refine x_int ?_
      | refine x_intB ?_
      | refine x_abs ?_
      | refine x_max2 ?_
      | refine x_min2 ?_
      | refine x_len (by with_unfolding_all rfl) ?_
      | refine x_lenT (by with_unfolding_all rfl) ?_
      | refine x_btup (by with_unfolding_all rfl) ?_
      | refine x_btupT ?_
      | refine x_blst (by with_unfolding_all rfl) ?_
      | refine x_blstT ?_
      | refine x_call ?_
      | refine x_callG (by with_unfolding_all rfl) (by with_unfolding_all rfl) (by with_unfolding_all rfl) (by with_unfolding_all rfl) ?_
      | refine x_callK ?_
      | refine x_callKG (by with_unfolding_all rfl) (by with_unfolding_all rfl) (by with_unfolding_all rfl) ?_
    · omega
    · exact shuf_loop g h0 h hA rfl
  | .dat (.tuple ys), rfl =>
    repeat' with_reducible first
      | refine x_seq ?_
      | refine x_next ?_
      | refine x_brk ?_
      | refine x_cnt ?_
      | refine x_ret ?_
      | refine x_retN ?_
      | refine x_set (by with_unfolding_all decide) ?_
      | refine x_drop ?_
      | refine x_ifS ?_
      | refine x_ite (fun hc => ?_) (fun hc => ?_)
      | refine x_iteN (fun hc => ?_) (fun hc => ?_)
      | refine x_iteT ?_
      | refine x_iteF ?_
      | refine x_iteNT ?_
      | refine x_iteNF ?_
      | refine x_par (by with_unfolding_all decide) (by with_unfolding_all decide) ?_
      | refine x_parG ?_
      | refine x_par3 (by with_unfolding_all decide) (by with_unfolding_all decide) (by with_unfolding_all decide) ?_
      | refine x_parG3 ?_
      | refine x_asg ?_
      | refine x_to (by with_unfolding_all decide) ?_
      | refine x_gT (by with_unfolding_all rfl) ?_
      | refine x_g0 ?_
      | refine x_g1 ?_
      | refine x_aug (by with_unfolding_all decide) (by with_unfolding_all rfl) ?_
      | refine x_augG ?_
      | refine x_augS (by with_unfolding_all rfl) ?_
      | refine x_augS1 (by with_unfolding_all rfl) (by with_unfolding_all rfl) (by with_unfolding_all rfl) ?_
      | refine x_augS2 (by with_unfolding_all rfl) (by with_unfolding_all rfl) ?_
      | refine x_put ?_
      | refine x_putG (by with_unfolding_all rfl) ?_
      | refine x_putL (by with_unfolding_all rfl) (by with_unfolding_all rfl) ?_
      | refine x_op ?_
      | refine x_fv ?_
      | refine x_fl ?_
      | refine x_c ?_
      | refine x_var (by with_unfolding_all rfl) ?_
      | refine x_varO (by with_unfolding_all rfl) ?_
      | refine x_bi ?_
      | refine x_nil ?_
      | refine x_dat ?_
      | refine x_handD (by with_unfolding_all rfl) ?_
      | refine x_handO (by with_unfolding_all rfl) ?_
      | refine x_tup ?_
      | refine x_lst ?_
      | refine x_tupG (by with_unfolding_all rfl) (by with_unfolding_all rfl) ?_
      | refine x_if ?_
      | refine x_neg ?_
      | refine x_negG ?_
      | refine x_ixNO (by with_unfolding_all rfl) ?_
      | refine x_ixND (by with_unfolding_all rfl) ?_
      | refine x_ixG (by with_unfolding_all rfl) (by with_unfolding_all rfl) ?_
      | refine x_ixt0 ?_
      | refine x_ixt1 ?_
      | refine x_ixt2 ?_
      | refine x_ixt3 ?_
      | refine x_ixt4 ?_
      | refine x_ixt5 ?_
      | refine x_ixt6 ?_
      | refine x_ixt7 ?_
      | refine x_ixt (by with_unfolding_all rfl) ?_
      | refine x_ixl0 ?_
      | refine x_ixl1 ?_
      | refine x_ixl2 ?_
      | refine x_ixl3 ?_
      | refine x_ixl4 ?_
      | refine x_ixl5 ?_
      | refine x_ixl6 ?_
      | refine x_ixl7 ?_
      | refine x_ixl (by with_unfolding_all rfl) ?_
      | refine x_add ?_
      | refine x_addt ?_ ?_
      | refine x_addl ?_ ?_
      | refine x_sub ?_
      | refine x_mul ?_ ?_
      | refine x_div ?_ ?_
      | refine x_mod ?_ ?_
      | refine x_pow ?_ ?_
      | refine x_lt ?_
      | refine x_le ?_
      | refine x_gt ?_
      | refine x_ge ?_
      | refine x_eq ?_
      | refine x_ne ?_
      | refine x_is ?_
      | refine x_bl ?_
      | refine x_blG ?_
      | refine x_tru ?_
      | refine x_truB ?_
      | refine x_truI ?_
      | refine x_truL ?_
      | refine x_truT ?_
      | refine x_andC ?_
      | refine x_orC ?_
      | refine x_notC ?_
      | refine x_andV ?_
      | refine x_orV ?_
      | refine x_notV ?_
      | refine x_ch ?_
      | refine x_sl ?_
      | refine x_noPart ?_
      | refine x_part ?_
      | refine x_partG ?_
      | refine x_slL ?_
      | refine x_slT ?_
      | refine x_items ?_
      | refine x_itL ?_
      | refine x_itT ?_
      | refine x_range1 ?_
      | refine x_rgG ?_ ?_
      | refine x_range2 ?_
      | refine x_rgG2 ?_ ?_
      | refine x_lc ?_
      | refine x_yes ?_
      | refine x_take (by with_unfolding_all decide) (by with_unfolding_all rfl) ?_
      | refine x_takeD (by with_unfolding_all decide) (by with_unfolding_all rfl) ?_
      | refine x_app ⟨_, (by with_unfolding_all rfl)⟩ ?_
      | refine x_appG (by with_unfolding_all rfl) ?_ ?_
      | refine x_isi ?_
      | refine x_isiT (by with_unfolding_all rfl) (by with_unfolding_all rfl) ?_
      | refine x_isiF (by with_unfolding_all rfl) (by with_unfolding_all rfl) ?_
      | refine x_int ?_
      | refine x_intB ?_
      | refine x_abs ?_
      | refine x_max2 ?_
      | refine x_min2 ?_
      | refine x_len (by with_unfolding_all rfl) ?_
      | refine x_lenT (by with_unfolding_all rfl) ?_
      | refine x_btup (by with_unfolding_all rfl) ?_
      | refine x_btupT ?_
      | refine x_blst (by with_unfolding_all rfl) ?_
      | refine x_blstT ?_
      | refine x_call ?_
      | refine x_callG (by with_unfolding_all rfl) (by with_unfolding_all rfl) (by with_unfolding_all rfl) (by with_unfolding_all rfl) ?_
      | refine x_callK ?_
      | refine x_callKG (by with_unfolding_all rfl) (by with_unfolding_all rfl) (by with_unfolding_all rfl) ?_
    refine x_for ?_
    repeat' with_reducible first
      | refine x_seq ?_
      | refine x_next ?_
      | refine x_brk ?_
      | refine x_cnt ?_
      | refine x_ret ?_
      | refine x_retN ?_
      | refine x_set (by with_unfolding_all decide) ?_
      | refine x_drop ?_
      | refine x_ifS ?_
      | refine x_ite (fun hc => ?_) (fun hc => ?_)
      | refine x_iteN (fun hc => ?_) (fun hc => ?_)
      | refine x_iteT ?_
      | refine x_iteF ?_
      | refine x_iteNT ?_
      | refine x_iteNF ?_
      | refine x_for ?_
      | refine x_par (by with_unfolding_all decide) (by with_unfolding_all decide) ?_
      | refine x_parG ?_
      | refine x_par3 (by with_unfolding_all decide) (by with_unfolding_all decide) (by with_unfolding_all decide) ?_
      | refine x_parG3 ?_
      | refine x_asg ?_
      | refine x_to (by with_unfolding_all decide) ?_
      | refine x_gT (by with_unfolding_all rfl) ?_
      | refine x_g0 ?_
      | refine x_g1 ?_
      | refine x_aug (by with_unfolding_all decide) (by with_unfolding_all rfl) ?_
      | refine x_augG ?_
      | refine x_augS (by with_unfolding_all rfl) ?_
      | refine x_augS1 (by with_unfolding_all rfl) (by with_unfolding_all rfl) (by with_unfolding_all rfl) ?_
      | refine x_augS2 (by with_unfolding_all rfl) (by with_unfolding_all rfl) ?_
      | refine x_put ?_
      | refine x_putG (by with_unfolding_all rfl) ?_
      | refine x_putL (by with_unfolding_all rfl) (by with_unfolding_all rfl) ?_
      | refine x_op ?_
      | refine x_fv ?_
      | refine x_fl ?_
      | refine x_c ?_
      | refine x_var (by with_unfolding_all rfl) ?_
      | refine x_varO (by with_unfolding_all rfl) ?_
      | refine x_bi ?_
      | refine x_nil ?_
      | refine x_dat ?_
      | refine x_handD (by with_unfolding_all rfl) ?_
      | refine x_handO (by with_unfolding_all rfl) ?_
      | refine x_tup ?_
      | refine x_lst ?_
      | refine x_tupG (by with_unfolding_all rfl) (by with_unfolding_all rfl) ?_
      | refine x_if ?_
      | refine x_neg ?_
      | refine x_negG ?_
      | refine x_ixNO (by with_unfolding_all rfl) ?_
      | refine x_ixND (by with_unfolding_all rfl) ?_
      | refine x_ixG (by with_unfolding_all rfl) (by with_unfolding_all rfl) ?_
      | refine x_ixt0 ?_
      | refine x_ixt1 ?_
      | refine x_ixt2 ?_
      | refine x_ixt3 ?_
      | refine x_ixt4 ?_
      | refine x_ixt5 ?_
      | refine x_ixt6 ?_
      | refine x_ixt7 ?_
      | refine x_ixt (by with_unfolding_all rfl) ?_
      | refine x_ixl0 ?_
      | refine x_ixl1 ?_
      | refine x_ixl2 ?_
      | refine x_ixl3 ?_
      | refine x_ixl4 ?_
      | refine x_ixl5 ?_
      | refine x_ixl6 ?_
      | refine x_ixl7 ?_
      | refine x_ixl (by with_unfolding_all rfl) ?_
      | refine x_add ?_
      | refine x_addt ?_ ?_
      | refine x_addl ?_ ?_
      | refine x_sub ?_
      | refine x_mul ?_ ?_
      | refine x_div ?_ ?_
      | refine x_mod ?_ ?_
      | refine x_pow ?_ ?_
      | refine x_lt ?_
      | refine x_le ?_
      | refine x_gt ?_
      | refine x_ge ?_
      | refine x_eq ?_
      | refine x_ne ?_
      | refine x_is ?_
      | refine x_bl ?_
      | refine x_blG ?_
      | refine x_tru ?_
      | refine x_truB ?_
      | refine x_truI ?_
      | refine x_truL ?_
      | refine x_truT ?_
      | refine x_andC ?_
      | refine x_orC ?_
      | refine x_notC ?_
      | refine x_andV ?_
      | refine x_orV ?_
      | refine x_notV ?_
      | refine x_ch ?_
      | refine x_sl ?_
      | refine x_noPart ?_
      | refine x_part ?_
      | refine x_partG ?_
      | refine x_slL ?_
      | refine x_slT ?_
      | refine x_items ?_
      | refine x_itL ?_
      | refine x_itT ?_
      | refine x_range1 ?_
      | refine x_rgG ?_ ?_
      | refine x_range2 ?_
      | refine x_rgG2 ?_ ?_
      | refine x_lc ?_
      | refine x_yes ?_
      | refine x_take (by with_unfolding_all decide) (by with_unfolding_all rfl) ?_
      | refine x_takeD (by with_unfolding_all decide) (by with_unfolding_all rfl) ?_
      | refine x_app ⟨_, (by with_unfolding_all rfl)⟩ ?_
      | refine x_appG (by with_unfolding_all rfl) ?_ ?_
      | refine x_isi ?_
      | refine x_isiT (by with_unfolding_all rfl) (by with_unfolding_all rfl) ?_
      | refine x_isiF (by with_unfolding_all rfl) (by with_unfolding_all rfl) ?_
      | refine x_int ?_
      | refine x_intB ?_
      | refine x_abs ?_
      | refine x_max2 ?_
      | refine x_min2 ?_
      | refine x_len (by with_unfolding_all rfl) ?_
      | refine x_lenT (by with_unfolding_all rfl) ?_
      | refine x_btup (by with_unfolding_all rfl) ?_
      | refine x_btupT ?_
      | refine x_blst (by with_unfolding_all rfl) ?_
      | refine x_blstT ?_
      | refine x_call ?_
      | refine x_callG (by with_unfolding_all rfl) (by with_unfolding_all rfl) (by with_unfolding_all rfl) (by with_unfolding_all rfl) ?_
      | refine x_callK ?_
      | refine x_callKG (by with_unfolding_all rfl) (by with_unfolding_all rfl) (by with_unfolding_all rfl) ?_
    · omega
    · exact shuf_loop g h0 h hA rfl
  | .ob (.L ys), rfl =>
    repeat' with_reducible first
      | refine x_seq ?_
      | refine x_next ?_
      | refine x_brk ?_
      | refine x_cnt ?_
      | refine x_ret ?_
      | refine x_retN ?_
      | refine x_set (by with_unfolding_all decide) ?_
      | refine x_drop ?_
      | refine x_ifS ?_
      | refine x_ite (fun hc => ?_) (fun hc => ?_)
      | refine x_iteN (fun hc => ?_) (fun hc => ?_)
      | refine x_iteT ?_
      | refine x_iteF ?_
      | refine x_iteNT ?_
      | refine x_iteNF ?_
      | refine x_par (by with_unfolding_all decide) (by with_unfolding_all decide) ?_
      | refine x_parG ?_
      | refine x_par3 (by with_unfolding_all decide) (by with_unfolding_all decide) (by with_unfolding_all decide) ?_
      | refine x_parG3 ?_
      | refine x_asg ?_
      | refine x_to (by with_unfolding_all decide) ?_
      | refine x_gT (by with_unfolding_all rfl) ?_
      | refine x_g0 ?_
      | refine x_g1 ?_
      | refine x_aug (by with_unfolding_all decide) (by with_unfolding_all rfl) ?_
      | refine x_augG ?_
      | refine x_augS (by with_unfolding_all rfl) ?_
      | refine x_augS1 (by with_unfolding_all rfl) (by with_unfolding_all rfl) (by with_unfolding_all rfl) ?_
      | refine x_augS2 (by with_unfolding_all rfl) (by with_unfolding_all rfl) ?_
      | refine x_put ?_
      | refine x_putG (by with_unfolding_all rfl) ?_
      | refine x_putL (by with_unfolding_all rfl) (by with_unfolding_all rfl) ?_
      | refine x_op ?_
      | refine x_fv ?_
      | refine x_fl ?_
      | refine x_c ?_
      | refine x_var (by with_unfolding_all rfl) ?_
      | refine x_varO (by with_unfolding_all rfl) ?_
      | refine x_bi ?_
      | refine x_nil ?_
      | refine x_dat ?_
      | refine x_handD (by with_unfolding_all rfl) ?_
      | refine x_handO (by with_unfolding_all rfl) ?_
      | refine x_tup ?_
      | refine x_lst ?_
      | refine x_tupG (by with_unfolding_all rfl) (by with_unfolding_all rfl) ?_
      | refine x_if ?_
      | refine x_neg ?_
      | refine x_negG ?_
      | refine x_ixNO (by with_unfolding_all rfl) ?_
      | refine x_ixND (by with_unfolding_all rfl) ?_
      | refine x_ixG (by with_unfolding_all rfl) (by with_unfolding_all rfl) ?_
      | refine x_ixt0 ?_
      | refine x_ixt1 ?_
      | refine x_ixt2 ?_
      | refine x_ixt3 ?_
      | refine x_ixt4 ?_
      | refine x_ixt5 ?_
      | refine x_ixt6 ?_
      | refine x_ixt7 ?_
      | refine x_ixt (by with_unfolding_all rfl) ?_
      | refine x_ixl0 ?_
      | refine x_ixl1 ?_
      | refine x_ixl2 ?_
      | refine x_ixl3 ?_
      | refine x_ixl4 ?_
      | refine x_ixl5 ?_
      | refine x_ixl6 ?_
      | refine x_ixl7 ?_
      | refine x_ixl (by with_unfolding_all rfl) ?_
      | refine x_add ?_
      | refine x_addt ?_ ?_
      | refine x_addl ?_ ?_
      | refine x_sub ?_
      | refine x_mul ?_ ?_
      | refine x_div ?_ ?_
      | refine x_mod ?_ ?_
      | refine x_pow ?_ ?_
      | refine x_lt ?_
      | refine x_le ?_
      | refine x_gt ?_
      | refine x_ge ?_
      | refine x_eq ?_
      | refine x_ne ?_
      | refine x_is ?_
      | refine x_bl ?_
      | refine x_blG ?_
      | refine x_tru ?_
      | refine x_truB ?_
      | refine x_truI ?_
      | refine x_truL ?_
      | refine x_truT ?_
      | refine x_andC ?_
      | refine x_orC ?_
      | refine x_notC ?_
      | refine x_andV ?_
      | refine x_orV ?_
      | refine x_notV ?_
      | refine x_ch ?_
      | refine x_sl ?_
      | refine x_noPart ?_
      | refine x_part ?_
      | refine x_partG ?_
      | refine x_slL ?_
      | refine x_slT ?_
      | refine x_items ?_
      | refine x_itL ?_
      | refine x_itT ?_
      | refine x_range1 ?_
      | refine x_rgG ?_ ?_
      | refine x_range2 ?_
      | refine x_rgG2 ?_ ?_
      | refine x_lc ?_
      | refine x_yes ?_
      | refine x_take (by with_unfolding_all decide) (by with_unfolding_all rfl) ?_
      | refine x_takeD (by with_unfolding_all decide) (by with_unfolding_all rfl) ?_
      | refine x_app ⟨_, (by with_unfolding_all rfl)⟩ ?_
      | refine x_appG (by with_unfolding_all rfl) ?_ ?_
      | refine x_isi ?_
      | refine x_isiT (by with_unfolding_all rfl) (by with_unfolding_all rfl) ?_
      | refine x_isiF (by with_unfolding_all rfl) (by with_unfolding_all rfl) ?_
      | refine x_int ?_
      | refine x_intB ?_
      | refine x_abs ?_
      | refine x_max2 ?_
      | refine x_min2 ?_
      | refine x_len (by with_unfolding_all rfl) ?_
      | refine x_lenT (by with_unfolding_all rfl) ?_
      | refine x_btup (by with_unfolding_all rfl) ?_
      | refine x_btupT ?_
      | refine x_blst (by with_unfolding_all rfl) ?_
      | refine x_blstT ?_
      | refine x_call ?_
      | refine x_callG (by with_unfolding_all rfl) (by with_unfolding_all rfl) (by with_unfolding_all rfl) (by with_unfolding_all rfl) ?_
      | refine x_callK ?_
      | refine x_callKG (by with_unfolding_all rfl) (by with_unfolding_all rfl) (by with_unfolding_all rfl) ?_
    refine x_for ?_
    repeat' with_reducible first
      | refine x_seq ?_
      | refine x_next ?_
      | refine x_brk ?_
      | refine x_cnt ?_
      | refine x_ret ?_
      | refine x_retN ?_
      | refine x_set (by with_unfolding_all decide) ?_
      | refine x_drop ?_
      | refine x_ifS ?_
      | refine x_ite (fun hc => ?_) (fun hc => ?_)
      | refine x_iteN (fun hc => ?_) (fun hc => ?_)
      | refine x_iteT ?_
      | refine x_iteF ?_
      | refine x_iteNT ?_
      | refine x_iteNF ?_
      | refine x_for ?_
      | refine x_par (by with_unfolding_all decide) (by with_unfolding_all decide) ?_
      | refine x_parG ?_
      | refine x_par3 (by with_unfolding_all decide) (by with_unfolding_all decide) (by with_unfolding_all decide) ?_
      | refine x_parG3 ?_
      | refine x_asg ?_
      | refine x_to (by with_unfolding_all decide) ?_
      | refine x_gT (by with_unfolding_all rfl) ?_
      | refine x_g0 ?_
      | refine x_g1 ?_
      | refine x_aug (by with_unfolding_all decide) (by with_unfolding_all rfl) ?_
      | refine x_augG ?_
      | refine x_augS (by with_unfolding_all rfl) ?_
      | refine x_augS1 (by with_unfolding_all rfl) (by with_unfolding_all rfl) (by with_unfolding_all rfl) ?_
      | refine x_augS2 (by with_unfolding_all rfl) (by with_unfolding_all rfl) ?_
      | refine x_put ?_
      | refine x_putG (by with_unfolding_all rfl) ?_
      | refine x_putL (by with_unfolding_all rfl) (by with_unfolding_all rfl) ?_
      | refine x_op ?_
      | refine x_fv ?_
      | refine x_fl ?_
      | refine x_c ?_
      | refine x_var (by with_unfolding_all rfl) ?_
      | refine x_varO (by with_unfolding_all rfl) ?_
      | refine x_bi ?_
      | refine x_nil ?_
      | refine x_dat ?_
      | refine x_handD (by with_unfolding_all rfl) ?_
      | refine x_handO (by with_unfolding_all rfl) ?_
      | refine x_tup ?_
      | refine x_lst ?_
      | refine x_tupG (by with_unfolding_all rfl) (by with_unfolding_all rfl) ?_
      | refine x_if ?_
      | refine x_neg ?_
      | refine x_negG ?_
      | refine x_ixNO (by with_unfolding_all rfl) ?_
      | refine x_ixND (by with_unfolding_all rfl) ?_
      | refine x_ixG (by with_unfolding_all rfl) (by with_unfolding_all rfl) ?_
      | refine x_ixt0 ?_
      | refine x_ixt1 ?_
      | refine x_ixt2 ?_
      | refine x_ixt3 ?_
      | refine x_ixt4 ?_
      | refine x_ixt5 ?_
      | refine x_ixt6 ?_
      | refine x_ixt7 ?_
      | refine x_ixt (by with_unfolding_all rfl) ?_
      | refine x_ixl0 ?_
      | refine x_ixl1 ?_
      | refine x_ixl2 ?_
      | refine x_ixl3 ?_
      | refine x_ixl4 ?_
      | refine x_ixl5 ?_
      | refine x_ixl6 ?_
      | refine x_ixl7 ?_
      | refine x_ixl (by with_unfolding_all rfl) ?_
      | refine x_add ?_
      | refine x_addt ?_ ?_
      | refine x_addl ?_ ?_
      | refine x_sub ?_
      | refine x_mul ?_ ?_
      | refine x_div ?_ ?_
      | refine x_mod ?_ ?_
      | refine x_pow ?_ ?_
      | refine x_lt ?_
      | refine x_le ?_
      | refine x_gt ?_
      | refine x_ge ?_
      | refine x_eq ?_
      | refine x_ne ?_
      | refine x_is ?_
      | refine x_bl ?_
      | refine x_blG ?_
      | refine x_tru ?_
      | refine x_truB ?_
      | refine x_truI ?_
      | refine x_truL ?_
      | refine x_truT ?_
      | refine x_andC ?_
      | refine x_orC ?_
      | refine x_notC ?_
      | refine x_andV ?_
      | refine x_orV ?_
      | refine x_notV ?_
      | refine x_ch ?_
      | refine x_sl ?_
      | refine x_noPart ?_
      | refine x_part ?_
      | refine x_partG ?_
      | refine x_slL ?_
      | refine x_slT ?_
      | refine x_items ?_
      | refine x_itL ?_
      | refine x_itT ?_
      | refine x_range1 ?_
      | refine x_rgG ?_ ?_
      | refine x_range2 ?_
      | refine x_rgG2 ?_ ?_
      | refine x_lc ?_
      | refine x_yes ?_
      | refine x_take (by with_unfolding_all decide) (by with_unfolding_all rfl) ?_
      | refine x_takeD (by with_unfolding_all decide) (by with_unfolding_all rfl) ?_
      | refine x_app ⟨_, (by with_unfolding_all rfl)⟩ ?_
      | refine x_appG (by with_unfolding_all rfl) ?_ ?_
      | refine x_isi ?_
      | refine x_isiT (by with_unfolding_all rfl) (by with_unfolding_all rfl) ?_
      | refine x_isiF (by with_unfolding_all rfl) (by with_unfolding_all rfl) ?_
      | refine x_int ?_
      | refine x_intB ?_
      | refine x_abs ?_
      | refine x_max2 ?_
      | refine x_min2 ?_
      | refine x_len (by with_unfolding_all rfl) ?_
      | refine x_lenT (by with_unfolding_all rfl) ?_
      | refine x_btup (by with_unfolding_all rfl) ?_
      | refine x_btupT ?_
      | refine x_blst (by with_unfolding_all rfl) ?_
      | refine x_blstT ?_
      | refine x_call ?_
      | refine x_callG (by with_unfolding_all rfl) (by with_unfolding_all rfl) (by with_unfolding_all rfl) (by with_unfolding_all rfl) ?_
      | refine x_callK ?_
      | refine x_callKG (by with_unfolding_all rfl) (by with_unfolding_all rfl) (by with_unfolding_all rfl) ?_
    · omega
    · exact shuf_loop g h0 h hA rfl
/-! ### _law_some -/
def F_some : Fn := ⟨["state", "low", "high"], [0], [], fun args _ Q => ∃ (xs : List D) (lo hi : Int), args = [.ob (.L xs), .dat (.int lo), .dat (.int hi)] ∧ Good xs ∧ (lo ≤ hi ∧ hi - lo < 1000000000) ∧ ∀ (r : Int) (zs : List D), lo ≤ r ∧ r ≤ hi → Good zs → Q (.val (.int r)) [some (.ob (.L zs)), none, none]⟩
theorem F_some_mono : MonoF F_some.sp := fun args xp xp' Q Q' _ hq ⟨xs, lo, hi, e, g, h0, h⟩ => ⟨xs, lo, hi, e, g, h0, fun r zs h1 h2 => hq _ _ (h r zs h1 h2)⟩
theorem y_some {xs : List D} {lo hi : Int} {xp : Ex → Prop} {Q : Rv → Sd → Prop} (g : Good xs) (h0 : lo ≤ hi ∧ hi - lo < 1000000000) (h : ∀ (r : Int) (zs : List D), lo ≤ r ∧ r ≤ hi → Good zs → Q (.val (.int r)) [some (.ob (.L zs)), none, none]) : F_some.sp [.ob (.L xs), .dat (.int lo), .dat (.int hi)] xp Q := ⟨xs, lo, hi, rfl, g, h0, h⟩
def W_some : WS := wSeq (wRet (wCall F_pick (wHand 0 (wDat (wLst (wDat (wVar 1) (wDat (wVar 2) (wDat (wOp gAdd (wVar 1) (wCall F_take (wHand 0 (wDat (wOp gAdd (wOp gSub (wVar 2) (wVar 1)) (wC (.int 1))) (wNil))))) (wDat (wBi bMin2 (wHand 2 (wDat (wOp gAdd (wVar 1) (wCall F_take (wHand 0 (wDat (wC (.int 25)) (wNil))))) (wNil)))) (wNil)))))) (wNil))))) (wNext)
theorem W_some_ok : ∀ args xp Q, args.length = F_some.ps.length → F_some.sp args xp Q → W_some (endsOf [0] 3 Q) (startD 3 args) xp := by
  rintro args xp Q _ ⟨xs, lo, hi, rfl, g, h0, h⟩
  unfold W_some endsOf
  repeat' with_reducible first
    | refine y_take (by assumption) ⟨by omega, by omega⟩ (fun r zs hr1 hr2 gz => ?_)
    | refine y_pick rfl (by assumption) ⟨by simp, by simp⟩ (fun e us he gu => ?_)
    | refine x_seq ?_
    | refine x_next ?_
    | refine x_brk ?_
    | refine x_cnt ?_
    | refine x_ret ?_
    | refine x_retN ?_
    | refine x_set (by with_unfolding_all decide) ?_
    | refine x_drop ?_
    | refine x_ifS ?_
    | refine x_ite (fun hc => ?_) (fun hc => ?_)
    | refine x_iteN (fun hc => ?_) (fun hc => ?_)
    | refine x_iteT ?_
    | refine x_iteF ?_
    | refine x_iteNT ?_
    | refine x_iteNF ?_
    | refine x_for ?_
    | refine x_par (by with_unfolding_all decide) (by with_unfolding_all decide) ?_
    | refine x_parG ?_
    | refine x_par3 (by with_unfolding_all decide) (by with_unfolding_all decide) (by with_unfolding_all decide) ?_
    | refine x_parG3 ?_
    | refine x_asg ?_
    | refine x_to (by with_unfolding_all decide) ?_
    | refine x_gT (by with_unfolding_all rfl) ?_
    | refine x_g0 ?_
    | refine x_g1 ?_
    | refine x_aug (by with_unfolding_all decide) (by with_unfolding_all rfl) ?_
    | refine x_augG ?_
    | refine x_augS (by with_unfolding_all rfl) ?_
    | refine x_augS1 (by with_unfolding_all rfl) (by with_unfolding_all rfl) (by with_unfolding_all rfl) ?_
    | refine x_augS2 (by with_unfolding_all rfl) (by with_unfolding_all rfl) ?_
    | refine x_put ?_
    | refine x_putG (by with_unfolding_all rfl) ?_
    | refine x_putL (by with_unfolding_all rfl) (by with_unfolding_all rfl) ?_
    | refine x_op ?_
    | refine x_fv ?_
    | refine x_fl ?_
    | refine x_c ?_
    | refine x_var (by with_unfolding_all rfl) ?_
    | refine x_varO (by with_unfolding_all rfl) ?_
    | refine x_bi ?_
    | refine x_nil ?_
    | refine x_dat ?_
    | refine x_handD (by with_unfolding_all rfl) ?_
    | refine x_handO (by with_unfolding_all rfl) ?_
    | refine x_tup ?_
    | refine x_lst ?_
    | refine x_tupG (by with_unfolding_all rfl) (by with_unfolding_all rfl) ?_
    | refine x_if ?_
    | refine x_neg ?_
    | refine x_negG ?_
    | refine x_ixNO (by with_unfolding_all rfl) ?_
    | refine x_ixND (by with_unfolding_all rfl) ?_
    | refine x_ixG (by with_unfolding_all rfl) (by with_unfolding_all rfl) ?_
    | refine x_ixt0 ?_
    | refine x_ixt1 ?_
    | refine x_ixt2 ?_
    | refine x_ixt3 ?_
    | refine x_ixt4 ?_
    | refine x_ixt5 ?_
    | refine x_ixt6 ?_
    | refine x_ixt7 ?_
    | refine x_ixt (by with_unfolding_all rfl) ?_
    | refine x_ixl0 ?_
    | refine x_ixl1 ?_
    | refine x_ixl2 ?_
    | refine x_ixl3 ?_
    | refine x_ixl4 ?_
    | refine x_ixl5 ?_
    | refine x_ixl6 ?_
    | refine x_ixl7 ?_
    | refine x_ixl (by with_unfolding_all rfl) ?_
    | refine x_add ?_
    | refine x_addt ?_ ?_
    | refine x_addl ?_ ?_
    | refine x_sub ?_
    | refine x_mul ?_ ?_
    | refine x_div ?_ ?_
    | refine x_mod ?_ ?_
    | refine x_pow ?_ ?_
    | refine x_lt ?_
    | refine x_le ?_
    | refine x_gt ?_
    | refine x_ge ?_
    | refine x_eq ?_
    | refine x_ne ?_
    | refine x_is ?_
    | refine x_bl ?_
    | refine x_blG ?_
    | refine x_tru ?_
    | refine x_truB ?_
    | refine x_truI ?_
    | refine x_truL ?_
    | refine x_truT ?_
    | refine x_andC ?_
    | refine x_orC ?_
    | refine x_notC ?_
    | refine x_andV ?_
    | refine x_orV ?_
    | refine x_notV ?_
    | refine x_ch ?_
    | refine x_sl ?_
    | refine x_noPart ?_
    | refine x_part ?_
    | refine x_partG ?_
    | refine x_slL ?_
    | refine x_slT ?_
    | refine x_items ?_
    | refine x_itL ?_
    | refine x_itT ?_
    | refine x_range1 ?_
    | refine x_rgG ?_ ?_
    | refine x_range2 ?_
    | refine x_rgG2 ?_ ?_
    | refine x_lc ?_
    | refine x_yes ?_
    | refine x_take (by with_unfolding_all decide) (by with_unfolding_all rfl) ?_
    | refine x_takeD (by with_unfolding_all decide) (by with_unfolding_all rfl) ?_
    | refine x_app ⟨_, (by with_unfolding_all rfl)⟩ ?_
    | refine x_appG (by with_unfolding_all rfl) ?_ ?_
    | refine x_isi ?_
    | refine x_isiT (by with_unfolding_all rfl) (by with_unfolding_all rfl) ?_
    | refine x_isiF (by with_unfolding_all rfl) (by with_unfolding_all rfl) ?_
    | refine x_int ?_
    | refine x_intB ?_
    | refine x_abs ?_
    | refine x_max2 ?_
    | refine x_min2 ?_
    | refine x_len (by with_unfolding_all rfl) ?_
    | refine x_lenT (by with_unfolding_all rfl) ?_
    | refine x_btup (by with_unfolding_all rfl) ?_
    | refine x_btupT ?_
    | refine x_blst (by with_unfolding_all rfl) ?_
    | refine x_blstT ?_
    | refine x_call ?_
    | refine x_callG (by with_unfolding_all rfl) (by with_unfolding_all rfl) (by with_unfolding_all rfl) (by with_unfolding_all rfl) ?_
    | refine x_callK ?_
    | refine x_callKG (by with_unfolding_all rfl) (by with_unfolding_all rfl) (by with_unfolding_all rfl) ?_
  simp only [List.mem_cons, List.not_mem_nil, or_false] at he
  rcases he with rfl | rfl | rfl | rfl
  · exact h _ _ ⟨by omega, by omega⟩ gu
  · exact h _ _ ⟨by omega, by omega⟩ gu
  · exact h _ _ ⟨by omega, by omega⟩ gu
  · exact h _ _ ⟨by split <;> omega, by split <;> omega⟩ gu
/-! ### _law_hours -/
def F_hours : Fn := ⟨["state", "last"], [0], [], fun args _ Q => ∃ (xs : List D) (m : Int), args = [.ob (.L xs), .dat (.int m)] ∧ Good xs ∧ (0 ≤ m ∧ m < 1000000) ∧ ∀ (hs : List Int) (zs : List D), (∀ h ∈ hs, 0 ≤ h ∧ h < m) → hs.Pairwise (· < ·) → Good zs → Q (.val (.tuple (hs.map PyData.int))) [some (.ob (.L zs)), none]⟩
theorem F_hours_mono : MonoF F_hours.sp := fun args xp xp' Q Q' _ hq ⟨xs, m, e, g, h0, h⟩ => ⟨xs, m, e, g, h0, fun r zs h1 h2 h3 => hq _ _ (h r zs h1 h2 h3)⟩
theorem y_hours {xs : List D} {m : Int} {xp : Ex → Prop} {Q : Rv → Sd → Prop} (g : Good xs) (h0 : 0 ≤ m ∧ m < 1000000) (h : ∀ (hs : List Int) (zs : List D), (∀ h ∈ hs, 0 ≤ h ∧ h < m) → hs.Pairwise (· < ·) → Good zs → Q (.val (.tuple (hs.map PyData.int))) [some (.ob (.L zs)), none]) : F_hours.sp [.ob (.L xs), .dat (.int m)] xp Q := ⟨xs, m, rfl, g, h0, h⟩
def W_hours : WS := wSeq (wSet [0] 2 (wCall F_take (wHand 0 (wDat (wC (.int 5)) (wNil))))) (wSeq (wRet (wBi bTup (wDat (wLc (wRange1 (wHand 1 (wNil))) [3] (wTo [0] 3) (wBl (wOp gLt (wCall F_take (wHand 0 (wDat (wC (.int 4)) (wNil)))) (wVar 2))) (wVar 3)) (wNil)))) (wNext))
theorem W_hours_ok : ∀ args xp Q, args.length = F_hours.ps.length → F_hours.sp args xp Q → W_hours (endsOf [0] 2 Q) (startD 4 args) xp := by
  rintro args xp Q _ ⟨xs, m, rfl, g, h0, h⟩
  unfold W_hours endsOf
  repeat' with_reducible first
    | refine y_take (by assumption) ⟨by omega, by omega⟩ (fun r zs hr1 hr2 gz => ?_)
    | refine x_seq ?_
    | refine x_next ?_
    | refine x_brk ?_
    | refine x_cnt ?_
    | refine x_ret ?_
    | refine x_retN ?_
    | refine x_set (by with_unfolding_all decide) ?_
    | refine x_drop ?_
    | refine x_ifS ?_
    | refine x_ite (fun hc => ?_) (fun hc => ?_)
    | refine x_iteN (fun hc => ?_) (fun hc => ?_)
    | refine x_iteT ?_
    | refine x_iteF ?_
    | refine x_iteNT ?_
    | refine x_iteNF ?_
    | refine x_for ?_
    | refine x_par (by with_unfolding_all decide) (by with_unfolding_all decide) ?_
    | refine x_parG ?_
    | refine x_par3 (by with_unfolding_all decide) (by with_unfolding_all decide) (by with_unfolding_all decide) ?_
    | refine x_parG3 ?_
    | refine x_asg ?_
    | refine x_to (by with_unfolding_all decide) ?_
    | refine x_gT (by with_unfolding_all rfl) ?_
    | refine x_g0 ?_
    | refine x_g1 ?_
    | refine x_aug (by with_unfolding_all decide) (by with_unfolding_all rfl) ?_
    | refine x_augG ?_
    | refine x_augS (by with_unfolding_all rfl) ?_
    | refine x_augS1 (by with_unfolding_all rfl) (by with_unfolding_all rfl) (by with_unfolding_all rfl) ?_
    | refine x_augS2 (by with_unfolding_all rfl) (by with_unfolding_all rfl) ?_
    | refine x_put ?_
    | refine x_putG (by with_unfolding_all rfl) ?_
    | refine x_putL (by with_unfolding_all rfl) (by with_unfolding_all rfl) ?_
    | refine x_op ?_
    | refine x_fv ?_
    | refine x_fl ?_
    | refine x_c ?_
    | refine x_var (by with_unfolding_all rfl) ?_
    | refine x_varO (by with_unfolding_all rfl) ?_
    | refine x_bi ?_
    | refine x_nil ?_
    | refine x_dat ?_
    | refine x_handD (by with_unfolding_all rfl) ?_
    | refine x_handO (by with_unfolding_all rfl) ?_
    | refine x_tup ?_
    | refine x_lst ?_
    | refine x_tupG (by with_unfolding_all rfl) (by with_unfolding_all rfl) ?_
    | refine x_if ?_
    | refine x_neg ?_
    | refine x_negG ?_
    | refine x_ixNO (by with_unfolding_all rfl) ?_
    | refine x_ixND (by with_unfolding_all rfl) ?_
    | refine x_ixG (by with_unfolding_all rfl) (by with_unfolding_all rfl) ?_
    | refine x_ixt0 ?_
    | refine x_ixt1 ?_
    | refine x_ixt2 ?_
    | refine x_ixt3 ?_
    | refine x_ixt4 ?_
    | refine x_ixt5 ?_
    | refine x_ixt6 ?_
    | refine x_ixt7 ?_
    | refine x_ixt (by with_unfolding_all rfl) ?_
    | refine x_ixl0 ?_
    | refine x_ixl1 ?_
    | refine x_ixl2 ?_
    | refine x_ixl3 ?_
    | refine x_ixl4 ?_
    | refine x_ixl5 ?_
    | refine x_ixl6 ?_
    | refine x_ixl7 ?_
    | refine x_ixl (by with_unfolding_all rfl) ?_
    | refine x_add ?_
    | refine x_addt ?_ ?_
    | refine x_addl ?_ ?_
    | refine x_sub ?_
    | refine x_mul ?_ ?_
    | refine x_div ?_ ?_
    | refine x_mod ?_ ?_
    | refine x_pow ?_ ?_
    | refine x_lt ?_
    | refine x_le ?_
    | refine x_gt ?_
    | refine x_ge ?_
    | refine x_eq ?_
    | refine x_ne ?_
    | refine x_is ?_
    | refine x_bl ?_
    | refine x_blG ?_
    | refine x_tru ?_
    | refine x_truB ?_
    | refine x_truI ?_
    | refine x_truL ?_
    | refine x_truT ?_
    | refine x_andC ?_
    | refine x_orC ?_
    | refine x_notC ?_
    | refine x_andV ?_
    | refine x_orV ?_
    | refine x_notV ?_
    | refine x_ch ?_
    | refine x_sl ?_
    | refine x_noPart ?_
    | refine x_part ?_
    | refine x_partG ?_
    | refine x_slL ?_
    | refine x_slT ?_
    | refine x_items ?_
    | refine x_itL ?_
    | refine x_itT ?_
    | refine x_range1 ?_
    | refine x_rgG ?_ ?_
    | refine x_range2 ?_
    | refine x_rgG2 ?_ ?_
    | refine x_lc ?_
    | refine x_yes ?_
    | refine x_take (by with_unfolding_all decide) (by with_unfolding_all rfl) ?_
    | refine x_takeD (by with_unfolding_all decide) (by with_unfolding_all rfl) ?_
    | refine x_app ⟨_, (by with_unfolding_all rfl)⟩ ?_
    | refine x_appG (by with_unfolding_all rfl) ?_ ?_
    | refine x_isi ?_
    | refine x_isiT (by with_unfolding_all rfl) (by with_unfolding_all rfl) ?_
    | refine x_isiF (by with_unfolding_all rfl) (by with_unfolding_all rfl) ?_
    | refine x_int ?_
    | refine x_intB ?_
    | refine x_abs ?_
    | refine x_max2 ?_
    | refine x_min2 ?_
    | refine x_len (by with_unfolding_all rfl) ?_
    | refine x_lenT (by with_unfolding_all rfl) ?_
    | refine x_btup (by with_unfolding_all rfl) ?_
    | refine x_btupT ?_
    | refine x_blst (by with_unfolding_all rfl) ?_
    | refine x_blstT ?_
    | refine x_call ?_
    | refine x_callG (by with_unfolding_all rfl) (by with_unfolding_all rfl) (by with_unfolding_all rfl) (by with_unfolding_all rfl) ?_
    | refine x_callK ?_
    | refine x_callKG (by with_unfolding_all rfl) (by with_unfolding_all rfl) (by with_unfolding_all rfl) ?_
  · omega
  · refine rgl_rule (fun k acc s => ∃ (hs : List Int) (zs : List D), acc = hs.map PyData.int ∧ s = [some (.ob (.L zs)), some (.dat (.int m)), some (.dat (.int r)), none] ∧ Good zs ∧ (∀ h ∈ hs, 0 ≤ h ∧ h < k) ∧ hs.Pairwise (· < ·) ∧ (hs.length : Int) ≤ k) 0 m (by omega) ⟨[], _, rfl, rfl, gz, by simp, List.Pairwise.nil, by simp⟩ ?_ ?_
    · rintro acc sd ⟨hs, zs, rfl, rfl, gz, q1, q2, q3⟩
      repeat' with_reducible first
        | refine x_seq ?_
        | refine x_next ?_
        | refine x_brk ?_
        | refine x_cnt ?_
        | refine x_ret ?_
        | refine x_retN ?_
        | refine x_set (by with_unfolding_all decide) ?_
        | refine x_drop ?_
        | refine x_ifS ?_
        | refine x_ite (fun hc => ?_) (fun hc => ?_)
        | refine x_iteN (fun hc => ?_) (fun hc => ?_)
        | refine x_iteT ?_
        | refine x_iteF ?_
        | refine x_iteNT ?_
        | refine x_iteNF ?_
        | refine x_for ?_
        | refine x_par (by with_unfolding_all decide) (by with_unfolding_all decide) ?_
        | refine x_parG ?_
        | refine x_par3 (by with_unfolding_all decide) (by with_unfolding_all decide) (by with_unfolding_all decide) ?_
        | refine x_parG3 ?_
        | refine x_asg ?_
        | refine x_to (by with_unfolding_all decide) ?_
        | refine x_gT (by with_unfolding_all rfl) ?_
        | refine x_g0 ?_
        | refine x_g1 ?_
        | refine x_aug (by with_unfolding_all decide) (by with_unfolding_all rfl) ?_
        | refine x_augG ?_
        | refine x_augS (by with_unfolding_all rfl) ?_
        | refine x_augS1 (by with_unfolding_all rfl) (by with_unfolding_all rfl) (by with_unfolding_all rfl) ?_
        | refine x_augS2 (by with_unfolding_all rfl) (by with_unfolding_all rfl) ?_
        | refine x_put ?_
        | refine x_putG (by with_unfolding_all rfl) ?_
        | refine x_putL (by with_unfolding_all rfl) (by with_unfolding_all rfl) ?_
        | refine x_op ?_
        | refine x_fv ?_
        | refine x_fl ?_
        | refine x_c ?_
        | refine x_var (by with_unfolding_all rfl) ?_
        | refine x_varO (by with_unfolding_all rfl) ?_
        | refine x_bi ?_
        | refine x_nil ?_
        | refine x_dat ?_
        | refine x_handD (by with_unfolding_all rfl) ?_
        | refine x_handO (by with_unfolding_all rfl) ?_
        | refine x_tup ?_
        | refine x_lst ?_
        | refine x_tupG (by with_unfolding_all rfl) (by with_unfolding_all rfl) ?_
        | refine x_if ?_
        | refine x_neg ?_
        | refine x_negG ?_
        | refine x_ixNO (by with_unfolding_all rfl) ?_
        | refine x_ixND (by with_unfolding_all rfl) ?_
        | refine x_ixG (by with_unfolding_all rfl) (by with_unfolding_all rfl) ?_
        | refine x_ixt0 ?_
        | refine x_ixt1 ?_
        | refine x_ixt2 ?_
        | refine x_ixt3 ?_
        | refine x_ixt4 ?_
        | refine x_ixt5 ?_
        | refine x_ixt6 ?_
        | refine x_ixt7 ?_
        | refine x_ixt (by with_unfolding_all rfl) ?_
        | refine x_ixl0 ?_
        | refine x_ixl1 ?_
        | refine x_ixl2 ?_
        | refine x_ixl3 ?_
        | refine x_ixl4 ?_
        | refine x_ixl5 ?_
        | refine x_ixl6 ?_
        | refine x_ixl7 ?_
        | refine x_ixl (by with_unfolding_all rfl) ?_
        | refine x_add ?_
        | refine x_addt ?_ ?_
        | refine x_addl ?_ ?_
        | refine x_sub ?_
        | refine x_mul ?_ ?_
        | refine x_div ?_ ?_
        | refine x_mod ?_ ?_
        | refine x_pow ?_ ?_
        | refine x_lt ?_
        | refine x_le ?_
        | refine x_gt ?_
        | refine x_ge ?_
        | refine x_eq ?_
        | refine x_ne ?_
        | refine x_is ?_
        | refine x_bl ?_
        | refine x_blG ?_
        | refine x_tru ?_
        | refine x_truB ?_
        | refine x_truI ?_
        | refine x_truL ?_
        | refine x_truT ?_
        | refine x_andC ?_
        | refine x_orC ?_
        | refine x_notC ?_
        | refine x_andV ?_
        | refine x_orV ?_
        | refine x_notV ?_
        | refine x_ch ?_
        | refine x_sl ?_
        | refine x_noPart ?_
        | refine x_part ?_
        | refine x_partG ?_
        | refine x_slL ?_
        | refine x_slT ?_
        | refine x_items ?_
        | refine x_itL ?_
        | refine x_itT ?_
        | refine x_range1 ?_
        | refine x_rgG ?_ ?_
        | refine x_range2 ?_
        | refine x_rgG2 ?_ ?_
        | refine x_lc ?_
        | refine x_yes ?_
        | refine x_take (by with_unfolding_all decide) (by with_unfolding_all rfl) ?_
        | refine x_takeD (by with_unfolding_all decide) (by with_unfolding_all rfl) ?_
        | refine x_app ⟨_, (by with_unfolding_all rfl)⟩ ?_
        | refine x_appG (by with_unfolding_all rfl) ?_ ?_
        | refine x_isi ?_
        | refine x_isiT (by with_unfolding_all rfl) (by with_unfolding_all rfl) ?_
        | refine x_isiF (by with_unfolding_all rfl) (by with_unfolding_all rfl) ?_
        | refine x_int ?_
        | refine x_intB ?_
        | refine x_abs ?_
        | refine x_max2 ?_
        | refine x_min2 ?_
        | refine x_len (by with_unfolding_all rfl) ?_
        | refine x_lenT (by with_unfolding_all rfl) ?_
        | refine x_btup (by with_unfolding_all rfl) ?_
        | refine x_btupT ?_
        | refine x_blst (by with_unfolding_all rfl) ?_
        | refine x_blstT ?_
        | refine x_call ?_
        | refine x_callG (by with_unfolding_all rfl) (by with_unfolding_all rfl) (by with_unfolding_all rfl) (by with_unfolding_all rfl) ?_
        | refine x_callK ?_
        | refine x_callKG (by with_unfolding_all rfl) (by with_unfolding_all rfl) (by with_unfolding_all rfl) ?_
      exact h _ _ q1 q2 gz
    · rintro NX k acc sd k0 k1 ⟨hs, zs, rfl, rfl, gz, q1, q2, q3⟩ ih
      repeat' with_reducible first
        | refine y_take (by assumption) ⟨by omega, by omega⟩ (fun r zs hr1 hr2 gz => ?_)
        | refine x_seq ?_
        | refine x_next ?_
        | refine x_brk ?_
        | refine x_cnt ?_
        | refine x_ret ?_
        | refine x_retN ?_
        | refine x_set (by with_unfolding_all decide) ?_
        | refine x_drop ?_
        | refine x_ifS ?_
        | refine x_ite (fun hc => ?_) (fun hc => ?_)
        | refine x_iteN (fun hc => ?_) (fun hc => ?_)
        | refine x_iteT ?_
        | refine x_iteF ?_
        | refine x_iteNT ?_
        | refine x_iteNF ?_
        | refine x_for ?_
        | refine x_par (by with_unfolding_all decide) (by with_unfolding_all decide) ?_
        | refine x_parG ?_
        | refine x_par3 (by with_unfolding_all decide) (by with_unfolding_all decide) (by with_unfolding_all decide) ?_
        | refine x_parG3 ?_
        | refine x_asg ?_
        | refine x_to (by with_unfolding_all decide) ?_
        | refine x_gT (by with_unfolding_all rfl) ?_
        | refine x_g0 ?_
        | refine x_g1 ?_
        | refine x_aug (by with_unfolding_all decide) (by with_unfolding_all rfl) ?_
        | refine x_augG ?_
        | refine x_augS (by with_unfolding_all rfl) ?_
        | refine x_augS1 (by with_unfolding_all rfl) (by with_unfolding_all rfl) (by with_unfolding_all rfl) ?_
        | refine x_augS2 (by with_unfolding_all rfl) (by with_unfolding_all rfl) ?_
        | refine x_put ?_
        | refine x_putG (by with_unfolding_all rfl) ?_
        | refine x_putL (by with_unfolding_all rfl) (by with_unfolding_all rfl) ?_
        | refine x_op ?_
        | refine x_fv ?_
        | refine x_fl ?_
        | refine x_c ?_
        | refine x_var (by with_unfolding_all rfl) ?_
        | refine x_varO (by with_unfolding_all rfl) ?_
        | refine x_bi ?_
        | refine x_nil ?_
        | refine x_dat ?_
        | refine x_handD (by with_unfolding_all rfl) ?_
        | refine x_handO (by with_unfolding_all rfl) ?_
        | refine x_tup ?_
        | refine x_lst ?_
        | refine x_tupG (by with_unfolding_all rfl) (by with_unfolding_all rfl) ?_
        | refine x_if ?_
        | refine x_neg ?_
        | refine x_negG ?_
        | refine x_ixNO (by with_unfolding_all rfl) ?_
        | refine x_ixND (by with_unfolding_all rfl) ?_
        | refine x_ixG (by with_unfolding_all rfl) (by with_unfolding_all rfl) ?_
        | refine x_ixt0 ?_
        | refine x_ixt1 ?_
        | refine x_ixt2 ?_
        | refine x_ixt3 ?_
        | refine x_ixt4 ?_
        | refine x_ixt5 ?_
        | refine x_ixt6 ?_
        | refine x_ixt7 ?_
        | refine x_ixt (by with_unfolding_all rfl) ?_
        | refine x_ixl0 ?_
        | refine x_ixl1 ?_
        | refine x_ixl2 ?_
        | refine x_ixl3 ?_
        | refine x_ixl4 ?_
        | refine x_ixl5 ?_
        | refine x_ixl6 ?_
        | refine x_ixl7 ?_
        | refine x_ixl (by with_unfolding_all rfl) ?_
        | refine x_add ?_
        | refine x_addt ?_ ?_
        | refine x_addl ?_ ?_
        | refine x_sub ?_
        | refine x_mul ?_ ?_
        | refine x_div ?_ ?_
        | refine x_mod ?_ ?_
        | refine x_pow ?_ ?_
        | refine x_lt ?_
        | refine x_le ?_
        | refine x_gt ?_
        | refine x_ge ?_
        | refine x_eq ?_
        | refine x_ne ?_
        | refine x_is ?_
        | refine x_bl ?_
        | refine x_blG ?_
        | refine x_tru ?_
        | refine x_truB ?_
        | refine x_truI ?_
        | refine x_truL ?_
        | refine x_truT ?_
        | refine x_andC ?_
        | refine x_orC ?_
        | refine x_notC ?_
        | refine x_andV ?_
        | refine x_orV ?_
        | refine x_notV ?_
        | refine x_ch ?_
        | refine x_sl ?_
        | refine x_noPart ?_
        | refine x_part ?_
        | refine x_partG ?_
        | refine x_slL ?_
        | refine x_slT ?_
        | refine x_items ?_
        | refine x_itL ?_
        | refine x_itT ?_
        | refine x_range1 ?_
        | refine x_rgG ?_ ?_
        | refine x_range2 ?_
        | refine x_rgG2 ?_ ?_
        | refine x_lc ?_
        | refine x_yes ?_
        | refine x_take (by with_unfolding_all decide) (by with_unfolding_all rfl) ?_
        | refine x_takeD (by with_unfolding_all decide) (by with_unfolding_all rfl) ?_
        | refine x_app ⟨_, (by with_unfolding_all rfl)⟩ ?_
        | refine x_appG (by with_unfolding_all rfl) ?_ ?_
        | refine x_isi ?_
        | refine x_isiT (by with_unfolding_all rfl) (by with_unfolding_all rfl) ?_
        | refine x_isiF (by with_unfolding_all rfl) (by with_unfolding_all rfl) ?_
        | refine x_int ?_
        | refine x_intB ?_
        | refine x_abs ?_
        | refine x_max2 ?_
        | refine x_min2 ?_
        | refine x_len (by with_unfolding_all rfl) ?_
        | refine x_lenT (by with_unfolding_all rfl) ?_
        | refine x_btup (by with_unfolding_all rfl) ?_
        | refine x_btupT ?_
        | refine x_blst (by with_unfolding_all rfl) ?_
        | refine x_blstT ?_
        | refine x_call ?_
        | refine x_callG (by with_unfolding_all rfl) (by with_unfolding_all rfl) (by with_unfolding_all rfl) (by with_unfolding_all rfl) ?_
        | refine x_callK ?_
        | refine x_callKG (by with_unfolding_all rfl) (by with_unfolding_all rfl) (by with_unfolding_all rfl) ?_
      · refine ⟨small_line (by rw [List.length_map]; omega), ?_⟩
        refine ih _ _ ⟨hs ++ [k], _, by simp, rfl, by assumption, ?_, ?_, by simp; omega⟩
        · intro h m
          rcases List.mem_append.mp m with m | m
          · have := q1 h m; omega
          · rw [List.mem_singleton] at m; omega
        · refine List.pairwise_append.mpr ⟨q2, List.pairwise_singleton _ _, fun a ma b mb => ?_⟩
          rw [List.mem_singleton] at mb
          have := q1 a ma
          omega
      · exact ih _ _ ⟨hs, _, rfl, rfl, by assumption, fun h m => by have := q1 h m; omega, q2, by omega⟩
end Ev


/-! EvR: the module's defs one by one; the law's own promise. -/
namespace Ev
open PySem PySem.Spec PyProof.Rows L2
def fnL : List (Str × Fn) → Str → Option Fn
  | [], _ => none
  | (a, f) :: r, x => if x = a then some f else fnL r x
def bis : List Str := ["len", "abs", "max", "min", "sorted", "int", "tuple", "list", "isinstance", "bool", "range", "sum", "all", "any"]
def tabOf (N : List Str) (st : Stmt) (g : Fn) (l : List (Str × Fn)) (tb : Option Str := none) : Tab := ⟨N, defScope st, g.pin, bis, fnL l, fun _ => none, fun _ => true, tb⟩
/-- the table of the def's code object is known -/
def TbOk (base : Heap) (mg : Str → Option Value) (fd : FuncData) (cl : Glo) (tb : Option Str) : Prop := ∀ z, tb = some z → ∃ c Pt, GxR.TabB base mg c Pt ∧ fd.code = .ref c ∧ cl.t z = some Pt
theorem tb_none {base : Heap} {mg : Str → Option Value} {fd : FuncData} {cl : Glo} : TbOk base mg fd cl none := fun z e => by cases e
section
variable {Pg : Program} {w : World} {K : PySem.W.Frag} {mg : Str → Option Value} {base : Heap} {k : Nat} {cl : Glo} {l : List (Str × Fn)}
abbrev ModL (Pg : Program) (w : World) (K : PySem.W.Frag) (mg : Str → Option Value) (base : Heap) (k : Nat) (l : List (Str × Fn)) (cl : Glo) : Prop := Mod0 Pg w K mg base k bis (fnL l) (fun _ => none) cl
theorem ModL.nil (hb : ∀ x ∈ bis, mg x = none) : ModL Pg w K mg base 0 [] cl := ⟨hb, fun _ _ h => (by cases h), fun _ _ h => (by cases h)⟩
/-- how a def's keyword calls bind -/
def KwOk (K : PySem.W.Frag) (fd : FuncData) (g : Fn) : Prop := ∀ q ∈ g.kw, ∃ gg gV, KBinds K fd g.ps q.1 gg gV ∧ ∀ zs : List V, zs.length = q.1.length → gV [] zs = q.2.map fun j : Nat => zs.getD j .non
theorem ModL.add {x qual : Str} {st : Stmt} {f : Addr} {fd : FuncData} {N : List Str} {g : Fn} {tb : Option Str} (fuel : Nat) {W : WS} (ht : TbOk base mg fd cl tb) (M : ModL Pg w K mg base k l cl) (F : L2.Fun K x qual st f fd) (S : FnScope N g.ps (defScope st)) (hx : mg x = some (.ref f)) (mono : MonoF g.sp) (hb : Binds K fd g.ps []) (hk : KwOk K fd g)
    (he : wSs (tabOf N st g l tb) fuel (defBody st) = W) (hs : ∀ args xp Q, args.length = g.ps.length → g.sp args xp Q → W (endsOf g.pin g.ps.length Q) (startD N.length args) xp) : ModL Pg w K mg base (k + 1) ((x, g) :: l) cl := by
  have G : FnOk Pg w K mg base CX0 (k + 1) f fd g.ps (fun vs H Q _ => spOf K cl g vs H Q E0) := def_ok fuel ht M F S fun args xp Q hl hq => by
    have := hs args xp Q hl hq
    rw [← he] at this
    exact this
  refine ⟨M.bi, M.gl, fun y h e => ?_⟩
  unfold fnL at e
  split at e
  · rename_i ey
    cases e
    subst ey
    exact ⟨mono, f, fd, G, hx, F.kp, hb, hk⟩
  · obtain ⟨m, a, fd', h1, h2, h3, h4, h5⟩ := M.fn y h e
    exact ⟨m, a, fd', h1.mono (Nat.le_succ k), h2, h3, h4, h5⟩
theorem ModL.fnok {x qual : Str} {st : Stmt} {f : Addr} {fd : FuncData} {N : List Str} {g : Fn} {tb : Option Str} (fuel : Nat) {W : WS} (ht : TbOk base mg fd cl tb) (M : ModL Pg w K mg base k l cl) (F : L2.Fun K x qual st f fd) (S : FnScope N g.ps (defScope st))
    (he : wSs (tabOf N st g l tb) fuel (defBody st) = W) (hs : ∀ args xp Q, args.length = g.ps.length → g.sp args xp Q → W (endsOf g.pin g.ps.length Q) (startD N.length args) xp) : FnOk Pg w K mg base CX0 (k + 1) f fd g.ps (fun vs H Q _ => spOf K cl g vs H Q E0) :=
  def_ok fuel ht M F S fun args xp Q hl hq => by
    have := hs args xp Q hl hq
    rw [← he] at this
    exact this
/-- a def that is called, under a promise that nothing asks for -/
theorem ModL.none {x qual : Str} {st : Stmt} {f : Addr} {fd : FuncData} {g : Fn} (M : ModL Pg w K mg base k l cl) (F : L2.Fun K x qual st f fd) (hx : mg x = some (.ref f)) (hb : Binds K fd g.ps []) (hk : KwOk K fd g) (h0 : ∀ args xp Q, ¬ g.sp args xp Q) : ModL Pg w K mg base k ((x, g) :: l) cl := by
  refine ⟨M.bi, M.gl, fun y h e => ?_⟩
  unfold fnL at e
  split at e
  · rename_i ey
    cases e
    subst ey
    refine ⟨fun args xp xp' Q Q' _ _ h => absurd h (h0 _ _ _), f, fd, ⟨fun vs H Q E ⟨_, _, _, _, _, _, h⟩ => absurd h (h0 _ _ _), fun A outer s H args us vs Q E _ _ _ _ ⟨_, _, _, _, _, _, h⟩ => absurd h (h0 _ _ _)⟩, hx, F.kp, hb, hk⟩
  · exact M.fn y h e
theorem vals_perm {zs : List V} {ws : List Value} (r : Vals zs ws) : ∀ perm : List Nat, (∀ j ∈ perm, j < zs.length) → Vals (perm.map fun j : Nat => zs.getD j .non) (perm.map fun j : Nat => ws.getD j .none)
  | [], _ => .nil
  | j :: perm, h => by
    have hj : j < zs.length := h j List.mem_cons_self
    obtain ⟨u, e, q⟩ := r.get (List.getElem?_eq_getElem hj)
    refine .cons ?_ (vals_perm r perm fun i m => h i (List.mem_cons_of_mem _ m))
    show RelV (zs.getD j .non) (ws.getD j .none)
    rw [List.getD_eq_getElem?_getD, List.getD_eq_getElem?_getD, e, List.getElem?_eq_getElem hj]
    exact q
theorem kw_nil {fd : FuncData} {g : Fn} (h : g.kw = []) : KwOk K fd g := fun q m => by rw [h] at m; cases m
theorem kw_one {x qual : Str} {st : Stmt} {f : Addr} {fd : FuncData} {g : Fn} {ks : List Str} {perm : List Nat} (F : L2.Fun K x qual st f fd) (hg : g.kw = [(ks, perm)]) (hp : perm.length = g.ps.length) (h0 : g.ps ≠ []) (hj : ∀ j ∈ perm, j < ks.length)
    (h : ∀ (kV doc pm : Value) (an : Option Addr) (cdv ct : Value) (ws : List Value), ws.length = ks.length → bindArgs (PySem.W.fnOf x qual (defArgs st) (defBody st) (defScope st) .none kV doc pm an cdv ct) ⟨[], ks.zip ws⟩ = pure (g.ps.zip (perm.map fun j : Nat => ws.getD j .none))) : KwOk K fd g := by
  intro q m
  rw [hg, List.mem_singleton] at m
  subst m
  obtain ⟨oc, od, kV, doc, pm, an, cdv, ct, osl, rfl, lk, hcd⟩ := F.ex
  have hps : g.ps.length ≠ 0 := fun e => h0 (List.eq_nil_of_length_eq_zero e)
  refine ⟨fun us ws => if us.length = 0 ∧ ws.length = ks.length then perm.map fun j : Nat => ws.getD j .none else [], fun us ws => if us.length = 0 ∧ ws.length = ks.length then perm.map fun j : Nat => ws.getD j .non else [], ⟨fun s us ws hK hl => ?_, fun {vs us zs ws} r1 r2 => ?_⟩, fun zs hz => ?_⟩
  · by_cases c : us.length = 0 ∧ ws.length = ks.length
    · have e : us = [] := List.eq_nil_of_length_eq_zero c.1
      subst e
      rw [if_pos c]
      exact .of_eq (h kV doc pm an cdv ct ws c.2)
    · rw [if_neg c] at hl
      exact absurd hl.symm hps
  · by_cases c : us.length = 0 ∧ ws.length = ks.length
    · have c2 : vs.length = 0 ∧ zs.length = ks.length := ⟨by rw [r1.length]; exact c.1, by rw [r2.length]; exact c.2⟩
      rw [if_pos c, if_pos c2]
      exact vals_perm r2 perm fun j m => by rw [c2.2]; exact hj j m
    · have c2 : ¬ (vs.length = 0 ∧ zs.length = ks.length) := fun z => c ⟨by rw [← r1.length]; exact z.1, by rw [← r2.length]; exact z.2⟩
      rw [if_neg c, if_neg c2]
      exact .nil
  · show (if ([] : List V).length = 0 ∧ zs.length = ks.length then perm.map fun j : Nat => zs.getD j .non else []) = _
    exact if_pos ⟨rfl, hz⟩
end
def gx1 (t : Option Bool) (e : Option D) : Option (Option D) := t.bind fun b => if b = true then e.map some else some none
section
variable {w : WT} {f : Sd → D → Option (Option D)} {k : GK} {sd : Sd} {xp : Ex → Prop} {Q : Rv → Sd → Prop} {d : D} {xs : List D}
def GxG (f : Sd → D → Option (Option D)) (k : GK) (d : D) (sd1 : Sd) (Q : Rv → Sd → Prop) : Prop := ∃ xs ys, seqD d = some xs ∧ gxAll (f sd1) xs = some ys ∧ k ys fun r => Q r sd1
theorem x_gx (h : w sd xp fun r s => frz r fun d => GxG f k d s Q) : wGx w f k sd xp Q := h
theorem x_gxSum (ns : List Int) (h1 : seqD d = some xs) (h2 : gxAll (f sd) xs = some (ns.map PyData.int)) (h3 : PyProof.Rows.SumFits ns) (h : Q (.val (.int ns.sum)) sd) : GxG f kSum d sd Q := ⟨xs, _, h1, h2, ns, rfl, h3, h⟩
theorem x_gxTup (ys : List D) (h1 : seqD d = some xs) (h2 : gxAll (f sd) xs = some ys) (h3 : ys.all scalD = true) (h4 : ys.length ≤ sizeLine) (h : Q (.val (.tuple ys)) sd) : GxG f kTup d sd Q := ⟨xs, _, h1, h2, h3, h4, h⟩
theorem x_gxAll (bs : List Bool) (h1 : seqD d = some xs) (h2 : gxAll (f sd) xs = some (bs.map PyData.bool)) (h : Q (.val (.bool (bs.all id))) sd) : GxG f kAll d sd Q := ⟨xs, _, h1, h2, bs, rfl, h⟩
theorem x_gxAny (bs : List Bool) (h1 : seqD d = some xs) (h2 : gxAll (f sd) xs = some (bs.map PyData.bool)) (h : Q (.val (.bool (bs.any id))) sd) : GxG f kAny d sd Q := ⟨xs, _, h1, h2, bs, rfl, h⟩
end
/-- the number of steps that are at most m -/
def cnt (ns : List Int) (m : Int) : Int := ((ns.filter fun n => decide (n ≤ m)).length : Nat)
theorem sum_ones : ∀ n : Nat, (List.replicate n (1 : Int)).sum = (n : Int)
  | 0 => rfl
  | n + 1 => by rw [List.replicate_succ, List.sum_cons, sum_ones n]; omega
theorem ones_fit {n : Nat} (h : n < 1000000) : PyProof.Rows.SumFits (List.replicate n (1 : Int)) := by
  intro j hj
  rw [List.length_replicate] at hj
  refine ⟨?_, ?_⟩
  · rw [List.getD_eq_getElem?_getD, List.getElem?_replicate, if_pos hj]
    exact ⟨by decide, by decide⟩
  · rw [List.take_replicate, sum_ones]
    exact ⟨by omega, by omega⟩
/-- sum(1 for x in ns if x <= m) -/
theorem gx_cnt (sd : Sd) (m : Int) (i : Nat) (h : gAt sd i = some (.int m)) : ∀ ns : List Int, gxAll (fun d => gx1 (qCmpT .LtE (some d) (gAt sd i)) (some (.int 1))) (ns.map PyData.int) = some ((List.replicate (ns.filter fun n => decide (n ≤ m)).length (1 : Int)).map PyData.int)
  | [] => rfl
  | n :: r => by
    have ih := gx_cnt sd m i h r
    have e : gx1 (qCmpT .LtE (some (.int n)) (gAt sd i)) (some (.int 1)) = if decide (n ≤ m) = true then some (some (.int 1)) else some none := by
      rw [h]
      rfl
    rw [List.map_cons]
    show ((gx1 (qCmpT .LtE (some (.int n)) (gAt sd i)) (some (.int 1))).bind fun o => match o with | none => gxAll _ (r.map PyData.int) | some d => (gxAll _ (r.map PyData.int)).map (d :: ·)) = _
    rw [e, ih, List.filter_cons]
    by_cases hc : decide (n ≤ m) = true
    · rw [if_pos hc, if_pos hc]
      rfl
    · rw [if_neg hc, if_neg hc]
      rfl
/-! ### the law -/
def F_law : Fn := ⟨["script"], [], [], fun args _ Q => ∃ ns : List Int, ns.length ≤ 63 ∧ args = [.dat (.list (ns.map PyData.int))] ∧ ∀ s, Q (.val (.bool true)) s⟩
theorem F_law_mono : MonoF F_law.sp := fun args xp xp' Q Q' _ hq ⟨ns, h1, h2, h3⟩ => ⟨ns, h1, h2, fun s => hq _ _ (h3 s)⟩
def spLaw (K : PySem.W.Frag) (cl : Glo := g0) : Sp := fun vs H Q _ => spOf K cl F_law vs H Q E0
/-- the defs' tables, by name -/
def gOf (tbs : List (Str × Addr × Addr)) : Glo := ⟨fun _ => none, fun x => (tbs.find? fun q => decide (q.1 = x)).map (·.2.2)⟩
theorem gOf_mem {tbs : List (Str × Addr × Addr)} {x : Str} {a : Addr} (h : (gOf tbs).t x = some a) : ∃ q ∈ tbs, q.2.2 = a := by
  obtain ⟨q, e, rfl⟩ := Option.map_eq_some_iff.mp (show (tbs.find? fun q => decide (q.1 = x)).map (·.2.2) = some a from h)
  exact ⟨q, List.mem_of_find?_eq_some e, rfl⟩
theorem tab_end {tbs : List (Str × Addr × Addr)} {H : Hp} (hH : ∀ p ∈ tbs.map (·.2), H p.2 = some (.tbl #[])) : ∀ x a, (gOf tbs).t x = some a → GxR.TabG H a := fun x a e => by
  obtain ⟨q, m, rfl⟩ := gOf_mem e
  exact ⟨#[], hH _ (List.mem_map.mpr ⟨q, m, rfl⟩), True.intro⟩
theorem tb_some {base : Heap} {mg : Str → Option Value} {fd : FuncData} {tbs : List (Str × Addr × Addr)} {x : Str} {c Pt : Addr} (h : ∀ p ∈ tbs.map (·.2), LamX.TabB base mg p.1 p.2) (hx : (tbs.find? fun q => decide (q.1 = x)) = some (x, c, Pt)) (hc : fd.code = .ref c) : TbOk base mg fd (gOf tbs) (some x) := fun z e => by
  cases e
  obtain ⟨q1, q2, q3⟩ := h _ (List.mem_map.mpr ⟨_, List.mem_of_find?_eq_some hx, rfl⟩)
  refine ⟨c, Pt, ⟨q1, q2, q3⟩, hc, ?_⟩
  show (tbs.find? fun q => decide (q.1 = x)).map (·.2.2) = some Pt
  rw [hx]
  rfl
theorem tabIn_mk {K : PySem.W.Frag} {x : Str} {f c Pt : Addr} {oc oq : Value} {od dq : Option Addr} {fd : FuncData} {sl sq : Array (Option Value)} {vs : Array Value} (a : PySem.W.nsIn K mainGlobals x = some (some (.ref f))) (l : K.lookup f = some ⟨oc, od, .func fd, sl⟩) (hc : fd.code = .ref c)
    (q : K.lookup c = some ⟨oq, dq, .fields vs, sq⟩) (t : vs[11]? = some (.ref Pt)) : PySem.W.tabIn K x = some (c, Pt) := by
  unfold PySem.W.tabIn
  rw [a]
  simp only [l, hc, q, t]
def TK (K : PySem.W.Frag) (q : Program) (x : Str) (c Pt : Addr) : Prop := PySem.W.tabIn K x = some (c, Pt) ∧ K.lookup Pt = none ∧ ∃ d, (recsOf q).find? (fun e => e.name == x) = some d
theorem tabs_ok {K : PySem.W.Frag} {q : Program} {loose : List Str} {mean : ExcName → Option Value} {mg mb : Str → Option Value} {h : Heap} {tbs : List (Str × Addr × Addr)} (X : K.In h) (T : Top q loose mean mg mb h) (hk : ∀ p ∈ tbs, TK K q p.1 p.2.1 p.2.2) :
    (∀ p ∈ tbs.map (·.2), h.get? p.2 = some { cls := .none, data := .fields #[] }) ∧ (∀ p ∈ tbs.map (·.2), K.lookup p.2 = none) ∧ ∀ p ∈ tbs.map (·.2), PySem.W.CodeHd h p.1 p.2 := by
  refine ⟨fun p m => ?_, fun p m => ?_, fun p m => ?_⟩ <;> obtain ⟨q, m2, rfl⟩ := List.mem_map.mp m <;> obtain ⟨h1, h2, d, h3⟩ := hk q m2
  · exact (PySem.W.tab_of T X h3 h1).2
  · exact h2
  · exact (PySem.W.tab_of T X h3 h1).1
/-- the end of a law's row, where defs' tables are known -/
theorem walk_tb {l : PySem.W.OpenLaw} {n k : Nat} {q : Program} {loose : List Str} {XP : (Str → Option Value) → Heap → Prop} {YP : World → Heap → Prop} {d : DefRec} {K : Params → PySem.W.Frag} {CX : World → CXT} {x : Str}
    (hn : l.most = some n) (hn2 : n ≤ sizeLine) (hdf : d.params.defaults = []) (hr : Room k callerA) (hY : ∀ (w : World) (h : Heap), YP w h → (K w.params).In h)
    (F : ∀ (w : World) (mg mb : Str → Option Value) (fa : Addr) (h : Heap) (mean : ExcName → Option Value), (K w.params).In h → Top q (PySem.W.looseW q loose) mean mg mb h → h.Ns mainGlobals mg → mg d.name = some (.ref fa) → LamX.LawAtS l w (K w.params) (CX w) k n x mg fa h)
    (hCX : ∀ (w : World) (H : Hp) (s : Shared) (e : Value) (s' : Shared), CX w [] H s (fun _ _ _ => False) e s' → False) :
    PySem.W.WalkO q loose XP YP l.row.toRowW d [] (fun f vs => PySem.call f vs) := by
  refine Att.attach_callB hn hdf fun w s₀ s₁ mg mb fa o pm cd doc a vs ns G Y ho hd hcd hmg hobj hints hlen hbits hg => ?_
  have KX := hY w _ Y
  obtain ⟨fd, cs, sp, hT, nT, C, hb, hsp, hF⟩ := F w mg mb fa _ _ KX G.T G.T.g hmg
  exact LamX.law_callTs KX G.T.g G.T.b G.T.builtins G.T.nolimit hg hT nT C G.T.bmain hobj hints (Nat.le_trans hlen hn2) hr hF hb (fun H hH hS => hsp H a ns hlen hbits hH hS) fun H e s' => hCX w H s₁ e s'
theorem law_end {K : PySem.W.Frag} {cl : Glo} {H : Hp} {a : Addr} {ns : List Int} (hl : ns.length ≤ 63) (ht : ∀ x a, cl.t x = some a → GxR.TabG H a) (hs : SqL K H a (ns.map V.int)) : spOf K cl F_law [.ref a] H (fun v _ => v = .bl true) E0 := by
  have sm : ∀ b o, H b = some o → isTbl o = false → hid (Hd (fun _ => False) fun _ => none) H b = some o := fun b o e t => hid_some.mpr ⟨fun z => (by
    rcases z with z | ⟨_, z⟩
    · exact z
    · cases z), e, t⟩
  have hs2 : SqL K (hid (Hd (fun _ => False) fun _ => none) H) a (ns.map V.int) := by
    rcases hs with (h | ⟨o, h⟩) | h
    · exact .inl (.inl (sm _ _ h rfl))
    · exact .inl (.inr ⟨o, sm _ _ h rfl⟩)
    · exact .inr h
  refine ⟨⟨H, fun _ => False, fun _ => none, fun _ => False⟩, [.dat (.list (ns.map PyData.int))], ⟨fun i v e => (by cases e), fun ex v d H' _ h => h.elim, ht⟩, rfl, rfl, ⟨fun _ => none, ⟨fun _ => GoT.rfl, fun a z => z.elim, fun i j a e => (by cases e), fun i a e => (by cases e), fun i v e => (by cases e), fun i s e => ?_, .nil⟩⟩, ⟨ns, hl, rfl, fun s v H' rel => ?_⟩⟩
  · cases i with
    | zero =>
      cases e
      exact ⟨_, rfl, .lst hs2 (reps_ints ns)⟩
    | succ i => cases e
  · have r : Reps K _ [v] [.bool true] := RelP.at rel
    cases r with | cons r _ => exact rep_bl r
end Ev

/-! EvT: the laws' own books: tables, modes, events. -/
namespace Ev
open PySem PySem.Spec PyProof.Rows L2
theorem putG_keys {κ α : Type} [DecidableEq κ] (kds : List (κ × α)) (k : κ) (v : α) : (putG kds k v).map (·.1) = if k ∈ kds.map (·.1) then kds.map (·.1) else kds.map (·.1) ++ [k] := by
  unfold putG
  by_cases h : (kds.any fun kv => decide (kv.1 = k)) = true
  · have hm : k ∈ kds.map (·.1) := by
      obtain ⟨x, mx, e⟩ := List.any_eq_true.mp h
      exact List.mem_map.mpr ⟨x, mx, of_decide_eq_true e⟩
    rw [if_pos h, if_pos hm, List.map_map]
    refine List.map_congr_left fun x _ => ?_
    show (if x.1 = k then (x.1, v) else x).1 = x.1
    split <;> rfl
  · have hm : k ∉ kds.map (·.1) := fun m => h (by
      obtain ⟨x, mx, e⟩ := List.mem_map.mp m
      exact List.any_eq_true.mpr ⟨x, mx, decide_eq_true e⟩)
    rw [if_neg h, if_neg hm, List.map_append]
    rfl
theorem put_ints {α : Type} {kds : List (Key × α)} {ks : List Int} (e : kds.map (·.1) = ks.map Sum.inl) (n : Int) (v : α) : ∃ ks' : List Int, (putG kds (Sum.inl n) v).map (·.1) = ks'.map Sum.inl ∧ (∀ m ∈ ks', m ∈ ks ∨ m = n) ∧ ks'.length ≤ ks.length + 1 ∧ (ks.Nodup → ks'.Nodup) := by
  rw [putG_keys, e]
  by_cases h : (Sum.inl n : Key) ∈ ks.map Sum.inl
  · rw [if_pos h]
    exact ⟨ks, rfl, fun m q => .inl q, Nat.le_succ _, fun q => q⟩
  · rw [if_neg h]
    refine ⟨ks ++ [n], by simp, fun m q => ?_, by simp, fun q => ?_⟩
    · rcases List.mem_append.mp q with q | q
      · exact .inl q
      · exact .inr (List.mem_singleton.mp q)
    · refine List.nodup_append.mpr ⟨q, (by simp), fun a ma b mb => ?_⟩
      rw [List.mem_singleton] at mb
      subst mb
      intro z
      subst z
      exact h (List.mem_map.mpr ⟨_, ma, rfl⟩)
theorem put_rows {α : Type} {kds : List (List Key × α)} {ks : List (List Int)} (e : kds.map (·.1) = ks.map (fun ns => ns.map Sum.inl)) (n : List Int) (v : α) : ∃ ks' : List (List Int), (putG kds (n.map Sum.inl) v).map (·.1) = ks'.map (fun ns => ns.map Sum.inl) ∧ (∀ m ∈ ks', m ∈ ks ∨ m = n) ∧ ks'.length ≤ ks.length + 1 ∧ (ks.Nodup → ks'.Nodup) := by
  rw [putG_keys, e]
  by_cases h : (n.map Sum.inl : List Key) ∈ ks.map (fun ns => ns.map Sum.inl)
  · rw [if_pos h]
    exact ⟨ks, rfl, fun m q => .inl q, Nat.le_succ _, fun q => q⟩
  · rw [if_neg h]
    refine ⟨ks ++ [n], by simp, fun m q => ?_, by simp, fun q => ?_⟩
    · rcases List.mem_append.mp q with q | q
      · exact .inl q
      · exact .inr (List.mem_singleton.mp q)
    · refine List.nodup_append.mpr ⟨q, (by simp), fun a ma b mb => ?_⟩
      rw [List.mem_singleton] at mb
      subst mb
      intro z
      subst z
      exact h (List.mem_map.mpr ⟨_, ma, rfl⟩)
section
variable {sd : Sd} {i : Nat} {d : D} {n a b c : Int} {QS : Sd → Prop} {Q : Rv → Sd → Prop} {xp : Ex → Prop}
theorem x_dicK (h : Q (.fresh (.K [])) sd) : wDic sd xp Q := .inl h
theorem x_dicT (h : Q (.fresh (.T [])) sd) : wDic sd xp Q := .inr h
theorem x_putK {kds : List (Key × D)} (h1 : sd[i]? = some (some (.ob (.K kds)))) (h2 : kds.length < sizeLine) (h : QS (sd.set i (some (.ob (.K (putG kds (Sum.inl n) d)))))) : PutG2 i d (.int n) sd QS := by
  unfold PutG2
  rw [h1]
  exact ⟨.inl n, rfl, h2, h⟩
theorem x_putT3 {kds : List (List Key × D)} (h1 : sd[i]? = some (some (.ob (.T kds)))) (h2 : kds.length < sizeLine) (h : QS (sd.set i (some (.ob (.T (putG kds ([a, b, c].map Sum.inl) d)))))) : PutG2 i d (.tuple [.int a, .int b, .int c]) sd QS := by
  unfold PutG2
  rw [h1]
  exact ⟨[.inl a, .inl b, .inl c], rfl, h2, h⟩
end
theorem len_keys {κ α β : Type} {kds : List (κ × α)} {ks : List β} {f : β → κ} (e : kds.map (·.1) = ks.map f) : kds.length = ks.length := by have := congrArg List.length e; simpa using this
theorem strict_of {ns : List Int} (h : ns.Pairwise (· ≤ ·)) (n : ns.Nodup) : ns.Pairwise (· < ·) := by
  refine List.Pairwise.imp (fun {a b} q => ?_) (h.and n)
  have := q.1
  have := q.2
  omega
/-! ### _law_rising -/
def F_rising : Fn := ⟨["state", "low", "high", "most"], [0], [], fun args _ Q => ∃ (xs : List D) (lo hi m : Int), args = [.ob (.L xs), .dat (.int lo), .dat (.int hi), .dat (.int m)] ∧ Good xs ∧ (lo ≤ hi ∧ hi - lo < 1000000000 ∧ 0 ≤ m ∧ m < 60) ∧
  ∀ (ns : List Int) (zs : List D), (∀ n ∈ ns, lo ≤ n ∧ n ≤ hi) → ns.Pairwise (· < ·) → (ns.length : Int) ≤ m → Good zs → Q (.val (.tuple (ns.map PyData.int))) [some (.ob (.L zs)), none, none, none]⟩
theorem F_rising_mono : MonoF F_rising.sp := fun args xp xp' Q Q' _ hq ⟨xs, lo, hi, m, e, g, h0, h⟩ => ⟨xs, lo, hi, m, e, g, h0, fun r zs h1 h2 h3 h4 => hq _ _ (h r zs h1 h2 h3 h4)⟩
theorem y_rising {xs : List D} {lo hi m : Int} {xp : Ex → Prop} {Q : Rv → Sd → Prop} (g : Good xs) (h0 : lo ≤ hi ∧ hi - lo < 1000000000 ∧ 0 ≤ m ∧ m < 60) (h : ∀ (ns : List Int) (zs : List D), (∀ n ∈ ns, lo ≤ n ∧ n ≤ hi) → ns.Pairwise (· < ·) → (ns.length : Int) ≤ m → Good zs → Q (.val (.tuple (ns.map PyData.int))) [some (.ob (.L zs)), none, none, none]) : F_rising.sp [.ob (.L xs), .dat (.int lo), .dat (.int hi), .dat (.int m)] xp Q := ⟨xs, lo, hi, m, rfl, g, h0, h⟩
def W_rising : WS := wSeq (wSet [0] 4 (wDic)) (wSeq (wFor (wRange1 (wDat (wCall F_take (wHand 0 (wDat (wOp gAdd (wVar 3) (wC (.int 1))) (wNil)))) (wNil))) (wTo [0] 5) (wSeq (wPut 4 (wC (.bool true)) (wOp gAdd (wVar 1) (wCall F_take (wHand 0 (wDat (wOp gAdd (wOp gSub (wVar 2) (wVar 1)) (wC (.int 1))) (wNil)))))) (wNext))) (wSeq (wRet (wBi bTup (wDat (wBi bSort (wHand 4 (wNil))) (wNil)))) (wNext)))
theorem W_rising_ok : ∀ args xp Q, args.length = F_rising.ps.length → F_rising.sp args xp Q → W_rising (endsOf [0] 4 Q) (startD 6 args) xp := by
  rintro args xp Q _ ⟨xs, lo, hi, m, rfl, g, h0, h⟩
  unfold W_rising endsOf
  repeat' with_reducible first
    | refine x_dicK ?_
    | refine y_take (by assumption) ⟨by omega, by omega⟩ (fun t zs ht1 ht2 gz => ?_)
    | refine x_seq ?_
    | refine x_next ?_
    | refine x_brk ?_
    | refine x_cnt ?_
    | refine x_ret ?_
    | refine x_retN ?_
    | refine x_set (by with_unfolding_all decide) ?_
    | refine x_drop ?_
    | refine x_ifS ?_
    | refine x_ite (fun hc => ?_) (fun hc => ?_)
    | refine x_iteN (fun hc => ?_) (fun hc => ?_)
    | refine x_iteT ?_
    | refine x_iteF ?_
    | refine x_iteNT ?_
    | refine x_iteNF ?_
    | refine x_for ?_
    | refine x_par (by with_unfolding_all decide) (by with_unfolding_all decide) ?_
    | refine x_parG ?_
    | refine x_par3 (by with_unfolding_all decide) (by with_unfolding_all decide) (by with_unfolding_all decide) ?_
    | refine x_parG3 ?_
    | refine x_asg ?_
    | refine x_to (by with_unfolding_all decide) ?_
    | refine x_gT (by with_unfolding_all rfl) ?_
    | refine x_g0 ?_
    | refine x_g1 ?_
    | refine x_aug (by with_unfolding_all decide) (by with_unfolding_all rfl) ?_
    | refine x_augG ?_
    | refine x_augS (by with_unfolding_all rfl) ?_
    | refine x_augS1 (by with_unfolding_all rfl) (by with_unfolding_all rfl) (by with_unfolding_all rfl) ?_
    | refine x_augS2 (by with_unfolding_all rfl) (by with_unfolding_all rfl) ?_
    | refine x_put ?_
    | refine x_putG (by with_unfolding_all rfl) ?_
    | refine x_putL (by with_unfolding_all rfl) (by with_unfolding_all rfl) ?_
    | refine x_op ?_
    | refine x_fv ?_
    | refine x_fl ?_
    | refine x_c ?_
    | refine x_var (by with_unfolding_all rfl) ?_
    | refine x_varO (by with_unfolding_all rfl) ?_
    | refine x_bi ?_
    | refine x_nil ?_
    | refine x_dat ?_
    | refine x_handD (by with_unfolding_all rfl) ?_
    | refine x_handO (by with_unfolding_all rfl) ?_
    | refine x_tup ?_
    | refine x_lst ?_
    | refine x_tupG (by with_unfolding_all rfl) (by with_unfolding_all rfl) ?_
    | refine x_if ?_
    | refine x_neg ?_
    | refine x_negG ?_
    | refine x_ixNO (by with_unfolding_all rfl) ?_
    | refine x_ixND (by with_unfolding_all rfl) ?_
    | refine x_ixG (by with_unfolding_all rfl) (by with_unfolding_all rfl) ?_
    | refine x_ixt0 ?_
    | refine x_ixt1 ?_
    | refine x_ixt2 ?_
    | refine x_ixt3 ?_
    | refine x_ixt4 ?_
    | refine x_ixt5 ?_
    | refine x_ixt6 ?_
    | refine x_ixt7 ?_
    | refine x_ixt (by with_unfolding_all rfl) ?_
    | refine x_ixl0 ?_
    | refine x_ixl1 ?_
    | refine x_ixl2 ?_
    | refine x_ixl3 ?_
    | refine x_ixl4 ?_
    | refine x_ixl5 ?_
    | refine x_ixl6 ?_
    | refine x_ixl7 ?_
    | refine x_ixl (by with_unfolding_all rfl) ?_
    | refine x_add ?_
    | refine x_addt ?_ ?_
    | refine x_addl ?_ ?_
    | refine x_sub ?_
    | refine x_mul ?_ ?_
    | refine x_div ?_ ?_
    | refine x_mod ?_ ?_
    | refine x_pow ?_ ?_
    | refine x_lt ?_
    | refine x_le ?_
    | refine x_gt ?_
    | refine x_ge ?_
    | refine x_eq ?_
    | refine x_ne ?_
    | refine x_is ?_
    | refine x_bl ?_
    | refine x_blG ?_
    | refine x_tru ?_
    | refine x_truB ?_
    | refine x_truI ?_
    | refine x_truL ?_
    | refine x_truT ?_
    | refine x_andC ?_
    | refine x_orC ?_
    | refine x_notC ?_
    | refine x_andV ?_
    | refine x_orV ?_
    | refine x_notV ?_
    | refine x_ch ?_
    | refine x_sl ?_
    | refine x_noPart ?_
    | refine x_part ?_
    | refine x_partG ?_
    | refine x_slL ?_
    | refine x_slT ?_
    | refine x_items ?_
    | refine x_itL ?_
    | refine x_itT ?_
    | refine x_range1 ?_
    | refine x_rgG ?_ ?_
    | refine x_range2 ?_
    | refine x_rgG2 ?_ ?_
    | refine x_lc ?_
    | refine x_yes ?_
    | refine x_take (by with_unfolding_all decide) (by with_unfolding_all rfl) ?_
    | refine x_takeD (by with_unfolding_all decide) (by with_unfolding_all rfl) ?_
    | refine x_app ⟨_, (by with_unfolding_all rfl)⟩ ?_
    | refine x_appG (by with_unfolding_all rfl) ?_ ?_
    | refine x_isi ?_
    | refine x_isiT (by with_unfolding_all rfl) (by with_unfolding_all rfl) ?_
    | refine x_isiF (by with_unfolding_all rfl) (by with_unfolding_all rfl) ?_
    | refine x_int ?_
    | refine x_intB ?_
    | refine x_abs ?_
    | refine x_max2 ?_
    | refine x_min2 ?_
    | refine x_len (by with_unfolding_all rfl) ?_
    | refine x_lenT (by with_unfolding_all rfl) ?_
    | refine x_btup (by with_unfolding_all rfl) ?_
    | refine x_btupT ?_
    | refine x_blst (by with_unfolding_all rfl) ?_
    | refine x_blstT ?_
    | refine x_call ?_
    | refine x_callG (by with_unfolding_all rfl) (by with_unfolding_all rfl) (by with_unfolding_all rfl) (by with_unfolding_all rfl) ?_
    | refine x_callK ?_
    | refine x_callKG (by with_unfolding_all rfl) (by with_unfolding_all rfl) (by with_unfolding_all rfl) ?_
  · omega
  refine rg_rule (fun k s => ∃ (st : List D) (kds : List (Key × D)) (ks : List Int) (c5 : Option Sl), s = [some (.ob (.L st)), some (.dat (.int lo)), some (.dat (.int hi)), some (.dat (.int m)), some (.ob (.K kds)), c5] ∧ Good st ∧ kds.map (·.1) = ks.map Sum.inl ∧ (∀ n ∈ ks, lo ≤ n ∧ n ≤ hi) ∧ ks.Nodup ∧ (ks.length : Int) ≤ k) 0 t (by omega) ⟨_, [], [], _, rfl, gz, rfl, by simp, List.nodup_nil, by simp⟩ ?_ ?_
  · rintro sd ⟨st, kds, ks, c5, rfl, gs, q1, q2, q3, q4⟩
    repeat' with_reducible first
      | refine x_sortK ks (by with_unfolding_all rfl) q1 (by omega) (fun ns' hp hs => ?_)
      | refine x_seq ?_
      | refine x_next ?_
      | refine x_brk ?_
      | refine x_cnt ?_
      | refine x_ret ?_
      | refine x_retN ?_
      | refine x_set (by with_unfolding_all decide) ?_
      | refine x_drop ?_
      | refine x_ifS ?_
      | refine x_ite (fun hc => ?_) (fun hc => ?_)
      | refine x_iteN (fun hc => ?_) (fun hc => ?_)
      | refine x_iteT ?_
      | refine x_iteF ?_
      | refine x_iteNT ?_
      | refine x_iteNF ?_
      | refine x_for ?_
      | refine x_par (by with_unfolding_all decide) (by with_unfolding_all decide) ?_
      | refine x_parG ?_
      | refine x_par3 (by with_unfolding_all decide) (by with_unfolding_all decide) (by with_unfolding_all decide) ?_
      | refine x_parG3 ?_
      | refine x_asg ?_
      | refine x_to (by with_unfolding_all decide) ?_
      | refine x_gT (by with_unfolding_all rfl) ?_
      | refine x_g0 ?_
      | refine x_g1 ?_
      | refine x_aug (by with_unfolding_all decide) (by with_unfolding_all rfl) ?_
      | refine x_augG ?_
      | refine x_augS (by with_unfolding_all rfl) ?_
      | refine x_augS1 (by with_unfolding_all rfl) (by with_unfolding_all rfl) (by with_unfolding_all rfl) ?_
      | refine x_augS2 (by with_unfolding_all rfl) (by with_unfolding_all rfl) ?_
      | refine x_put ?_
      | refine x_putG (by with_unfolding_all rfl) ?_
      | refine x_putL (by with_unfolding_all rfl) (by with_unfolding_all rfl) ?_
      | refine x_op ?_
      | refine x_fv ?_
      | refine x_fl ?_
      | refine x_c ?_
      | refine x_var (by with_unfolding_all rfl) ?_
      | refine x_varO (by with_unfolding_all rfl) ?_
      | refine x_bi ?_
      | refine x_nil ?_
      | refine x_dat ?_
      | refine x_handD (by with_unfolding_all rfl) ?_
      | refine x_handO (by with_unfolding_all rfl) ?_
      | refine x_tup ?_
      | refine x_lst ?_
      | refine x_tupG (by with_unfolding_all rfl) (by with_unfolding_all rfl) ?_
      | refine x_if ?_
      | refine x_neg ?_
      | refine x_negG ?_
      | refine x_ixNO (by with_unfolding_all rfl) ?_
      | refine x_ixND (by with_unfolding_all rfl) ?_
      | refine x_ixG (by with_unfolding_all rfl) (by with_unfolding_all rfl) ?_
      | refine x_ixt0 ?_
      | refine x_ixt1 ?_
      | refine x_ixt2 ?_
      | refine x_ixt3 ?_
      | refine x_ixt4 ?_
      | refine x_ixt5 ?_
      | refine x_ixt6 ?_
      | refine x_ixt7 ?_
      | refine x_ixt (by with_unfolding_all rfl) ?_
      | refine x_ixl0 ?_
      | refine x_ixl1 ?_
      | refine x_ixl2 ?_
      | refine x_ixl3 ?_
      | refine x_ixl4 ?_
      | refine x_ixl5 ?_
      | refine x_ixl6 ?_
      | refine x_ixl7 ?_
      | refine x_ixl (by with_unfolding_all rfl) ?_
      | refine x_add ?_
      | refine x_addt ?_ ?_
      | refine x_addl ?_ ?_
      | refine x_sub ?_
      | refine x_mul ?_ ?_
      | refine x_div ?_ ?_
      | refine x_mod ?_ ?_
      | refine x_pow ?_ ?_
      | refine x_lt ?_
      | refine x_le ?_
      | refine x_gt ?_
      | refine x_ge ?_
      | refine x_eq ?_
      | refine x_ne ?_
      | refine x_is ?_
      | refine x_bl ?_
      | refine x_blG ?_
      | refine x_tru ?_
      | refine x_truB ?_
      | refine x_truI ?_
      | refine x_truL ?_
      | refine x_truT ?_
      | refine x_andC ?_
      | refine x_orC ?_
      | refine x_notC ?_
      | refine x_andV ?_
      | refine x_orV ?_
      | refine x_notV ?_
      | refine x_ch ?_
      | refine x_sl ?_
      | refine x_noPart ?_
      | refine x_part ?_
      | refine x_partG ?_
      | refine x_slL ?_
      | refine x_slT ?_
      | refine x_items ?_
      | refine x_itL ?_
      | refine x_itT ?_
      | refine x_range1 ?_
      | refine x_rgG ?_ ?_
      | refine x_range2 ?_
      | refine x_rgG2 ?_ ?_
      | refine x_lc ?_
      | refine x_yes ?_
      | refine x_take (by with_unfolding_all decide) (by with_unfolding_all rfl) ?_
      | refine x_takeD (by with_unfolding_all decide) (by with_unfolding_all rfl) ?_
      | refine x_app ⟨_, (by with_unfolding_all rfl)⟩ ?_
      | refine x_appG (by with_unfolding_all rfl) ?_ ?_
      | refine x_isi ?_
      | refine x_isiT (by with_unfolding_all rfl) (by with_unfolding_all rfl) ?_
      | refine x_isiF (by with_unfolding_all rfl) (by with_unfolding_all rfl) ?_
      | refine x_int ?_
      | refine x_intB ?_
      | refine x_abs ?_
      | refine x_max2 ?_
      | refine x_min2 ?_
      | refine x_len (by with_unfolding_all rfl) ?_
      | refine x_lenT (by with_unfolding_all rfl) ?_
      | refine x_btup (by with_unfolding_all rfl) ?_
      | refine x_btupT ?_
      | refine x_blst (by with_unfolding_all rfl) ?_
      | refine x_blstT ?_
      | refine x_call ?_
      | refine x_callG (by with_unfolding_all rfl) (by with_unfolding_all rfl) (by with_unfolding_all rfl) (by with_unfolding_all rfl) ?_
      | refine x_callK ?_
      | refine x_callKG (by with_unfolding_all rfl) (by with_unfolding_all rfl) (by with_unfolding_all rfl) ?_
    refine h _ _ (fun n mn => q2 n (hp.mem_iff.mp mn)) (strict_of hs (hp.nodup_iff.mpr q3)) (by rw [hp.length_eq]; omega) gs
  · rintro NX k sd k0 k1 ⟨st, kds, ks, c5, rfl, gs, q1, q2, q3, q4⟩ ih
    repeat' with_reducible first
      | refine y_take (by assumption) ⟨by omega, by omega⟩ (fun t zs ht1 ht2 gz => ?_)
      | refine x_putK (by with_unfolding_all rfl) ?_ ?_
      | refine x_seq ?_
      | refine x_next ?_
      | refine x_brk ?_
      | refine x_cnt ?_
      | refine x_ret ?_
      | refine x_retN ?_
      | refine x_set (by with_unfolding_all decide) ?_
      | refine x_drop ?_
      | refine x_ifS ?_
      | refine x_ite (fun hc => ?_) (fun hc => ?_)
      | refine x_iteN (fun hc => ?_) (fun hc => ?_)
      | refine x_iteT ?_
      | refine x_iteF ?_
      | refine x_iteNT ?_
      | refine x_iteNF ?_
      | refine x_for ?_
      | refine x_par (by with_unfolding_all decide) (by with_unfolding_all decide) ?_
      | refine x_parG ?_
      | refine x_par3 (by with_unfolding_all decide) (by with_unfolding_all decide) (by with_unfolding_all decide) ?_
      | refine x_parG3 ?_
      | refine x_asg ?_
      | refine x_to (by with_unfolding_all decide) ?_
      | refine x_gT (by with_unfolding_all rfl) ?_
      | refine x_g0 ?_
      | refine x_g1 ?_
      | refine x_aug (by with_unfolding_all decide) (by with_unfolding_all rfl) ?_
      | refine x_augG ?_
      | refine x_augS (by with_unfolding_all rfl) ?_
      | refine x_augS1 (by with_unfolding_all rfl) (by with_unfolding_all rfl) (by with_unfolding_all rfl) ?_
      | refine x_augS2 (by with_unfolding_all rfl) (by with_unfolding_all rfl) ?_
      | refine x_put ?_
      | refine x_putG (by with_unfolding_all rfl) ?_
      | refine x_putL (by with_unfolding_all rfl) (by with_unfolding_all rfl) ?_
      | refine x_op ?_
      | refine x_fv ?_
      | refine x_fl ?_
      | refine x_c ?_
      | refine x_var (by with_unfolding_all rfl) ?_
      | refine x_varO (by with_unfolding_all rfl) ?_
      | refine x_bi ?_
      | refine x_nil ?_
      | refine x_dat ?_
      | refine x_handD (by with_unfolding_all rfl) ?_
      | refine x_handO (by with_unfolding_all rfl) ?_
      | refine x_tup ?_
      | refine x_lst ?_
      | refine x_tupG (by with_unfolding_all rfl) (by with_unfolding_all rfl) ?_
      | refine x_if ?_
      | refine x_neg ?_
      | refine x_negG ?_
      | refine x_ixNO (by with_unfolding_all rfl) ?_
      | refine x_ixND (by with_unfolding_all rfl) ?_
      | refine x_ixG (by with_unfolding_all rfl) (by with_unfolding_all rfl) ?_
      | refine x_ixt0 ?_
      | refine x_ixt1 ?_
      | refine x_ixt2 ?_
      | refine x_ixt3 ?_
      | refine x_ixt4 ?_
      | refine x_ixt5 ?_
      | refine x_ixt6 ?_
      | refine x_ixt7 ?_
      | refine x_ixt (by with_unfolding_all rfl) ?_
      | refine x_ixl0 ?_
      | refine x_ixl1 ?_
      | refine x_ixl2 ?_
      | refine x_ixl3 ?_
      | refine x_ixl4 ?_
      | refine x_ixl5 ?_
      | refine x_ixl6 ?_
      | refine x_ixl7 ?_
      | refine x_ixl (by with_unfolding_all rfl) ?_
      | refine x_add ?_
      | refine x_addt ?_ ?_
      | refine x_addl ?_ ?_
      | refine x_sub ?_
      | refine x_mul ?_ ?_
      | refine x_div ?_ ?_
      | refine x_mod ?_ ?_
      | refine x_pow ?_ ?_
      | refine x_lt ?_
      | refine x_le ?_
      | refine x_gt ?_
      | refine x_ge ?_
      | refine x_eq ?_
      | refine x_ne ?_
      | refine x_is ?_
      | refine x_bl ?_
      | refine x_blG ?_
      | refine x_tru ?_
      | refine x_truB ?_
      | refine x_truI ?_
      | refine x_truL ?_
      | refine x_truT ?_
      | refine x_andC ?_
      | refine x_orC ?_
      | refine x_notC ?_
      | refine x_andV ?_
      | refine x_orV ?_
      | refine x_notV ?_
      | refine x_ch ?_
      | refine x_sl ?_
      | refine x_noPart ?_
      | refine x_part ?_
      | refine x_partG ?_
      | refine x_slL ?_
      | refine x_slT ?_
      | refine x_items ?_
      | refine x_itL ?_
      | refine x_itT ?_
      | refine x_range1 ?_
      | refine x_rgG ?_ ?_
      | refine x_range2 ?_
      | refine x_rgG2 ?_ ?_
      | refine x_lc ?_
      | refine x_yes ?_
      | refine x_take (by with_unfolding_all decide) (by with_unfolding_all rfl) ?_
      | refine x_takeD (by with_unfolding_all decide) (by with_unfolding_all rfl) ?_
      | refine x_app ⟨_, (by with_unfolding_all rfl)⟩ ?_
      | refine x_appG (by with_unfolding_all rfl) ?_ ?_
      | refine x_isi ?_
      | refine x_isiT (by with_unfolding_all rfl) (by with_unfolding_all rfl) ?_
      | refine x_isiF (by with_unfolding_all rfl) (by with_unfolding_all rfl) ?_
      | refine x_int ?_
      | refine x_intB ?_
      | refine x_abs ?_
      | refine x_max2 ?_
      | refine x_min2 ?_
      | refine x_len (by with_unfolding_all rfl) ?_
      | refine x_lenT (by with_unfolding_all rfl) ?_
      | refine x_btup (by with_unfolding_all rfl) ?_
      | refine x_btupT ?_
      | refine x_blst (by with_unfolding_all rfl) ?_
      | refine x_blstT ?_
      | refine x_call ?_
      | refine x_callG (by with_unfolding_all rfl) (by with_unfolding_all rfl) (by with_unfolding_all rfl) (by with_unfolding_all rfl) ?_
      | refine x_callK ?_
      | refine x_callKG (by with_unfolding_all rfl) (by with_unfolding_all rfl) (by with_unfolding_all rfl) ?_
    · exact small_line (by rw [len_keys q1]; omega)
    · obtain ⟨ks', e1, e2, e3, e4⟩ := put_ints q1 _ _
      refine ih _ ⟨_, _, ks', _, rfl, by assumption, e1, fun n mn => ?_, e4 q3, by omega⟩
      rcases e2 n mn with z | z
      · exact q2 n z
      · omega
theorem y_pickI2 {xs : List D} {a b : Int} {xp : Ex → Prop} {Q : Rv → Sd → Prop} (g : Good xs) (h : ∀ (r : Int) (zs : List D), r = a ∨ r = b → Good zs → Q (.val (.int r)) [some (.ob (.L zs)), some (.dat (.list [.int a, .int b]))]) : F_pick.sp [.ob (.L xs), .dat (.list [.int a, .int b])] xp Q := y_pick rfl g ⟨by simp, by simp⟩ fun d zs m gz => by
  simp only [List.mem_cons, List.not_mem_nil, or_false] at m
  rcases m with rfl | rfl
  · exact h _ _ (.inl rfl) gz
  · exact h _ _ (.inr rfl) gz
theorem y_pickI3 {xs : List D} {a b c : Int} {xp : Ex → Prop} {Q : Rv → Sd → Prop} (g : Good xs) (h : ∀ (r : Int) (zs : List D), r = a ∨ r = b ∨ r = c → Good zs → Q (.val (.int r)) [some (.ob (.L zs)), some (.dat (.list [.int a, .int b, .int c]))]) : F_pick.sp [.ob (.L xs), .dat (.list [.int a, .int b, .int c])] xp Q := y_pick rfl g ⟨by simp, by simp⟩ fun d zs m gz => by
  simp only [List.mem_cons, List.not_mem_nil, or_false] at m
  rcases m with rfl | rfl | rfl
  · exact h _ _ (.inl rfl) gz
  · exact h _ _ (.inr (.inl rfl)) gz
  · exact h _ _ (.inr (.inr rfl)) gz
/-! ### _law_table -/
def TabOk (d : D) : Prop := ∃ (v : Int) (ns : List Int), d = .tuple [.int v, .tuple (ns.map PyData.int)] ∧ (0 ≤ v ∧ v ≤ 2000) ∧ (∀ n ∈ ns, 1 ≤ n ∧ n ≤ 2000) ∧ ns.Pairwise (· < ·) ∧ ns.length ≤ 12
def F_table : Fn := ⟨["state", "book"], [0], [], fun args _ Q => ∃ (xs : List D) (e g : Int) (rest : List D), args = [.ob (.L xs), .dat (.tuple (.int e :: .int g :: rest))] ∧ Good xs ∧ (1 ≤ e ∧ e ≤ g ∧ g ≤ 2000) ∧ ∀ (d : D) (zs : List D), TabOk d → Good zs → Q (.val d) [some (.ob (.L zs)), none]⟩
theorem F_table_mono : MonoF F_table.sp := fun args xp xp' Q Q' _ hq ⟨xs, e, g, t, e1, gd, h0, h⟩ => ⟨xs, e, g, t, e1, gd, h0, fun r zs h1 h2 => hq _ _ (h r zs h1 h2)⟩
theorem y_table {xs : List D} {e g : Int} {t : List D} {xp : Ex → Prop} {Q : Rv → Sd → Prop} (gd : Good xs) (h0 : 1 ≤ e ∧ e ≤ g ∧ g ≤ 2000) (h : ∀ (d : D) (zs : List D), TabOk d → Good zs → Q (.val d) [some (.ob (.L zs)), none]) : F_table.sp [.ob (.L xs), .dat (.tuple (.int e :: .int g :: t))] xp Q := ⟨xs, e, g, t, rfl, gd, h0, h⟩
def W_table : WS := wSeq (wAsg (wCall F_pick (wHand 0 (wDat (wLst (wDat (wTup (wDat (wC (.int 1)) (wDat (wC (.int 2000)) (wNil)))) (wDat (wTup (wDat (wIxN 1 (wC (.int 0))) (wDat (wIxN 1 (wC (.int 1))) (wNil)))) (wDat (wTup (wDat (wIxN 1 (wC (.int 0))) (wDat (wIxN 1 (wC (.int 1))) (wNil)))) (wNil))))) (wNil)))) (wGT 2 (wG1 (wTo [0] 2) (wG1 (wTo [0] 3) (wG0))))) (wSeq (wRet (wTup (wDat (wIf (wBl (wOp gEq (wCall F_take (wHand 0 (wDat (wC (.int 4)) (wNil)))) (wC (.int 0)))) (wCall F_some (wHand 0 (wDat (wC (.int 0)) (wDat (wC (.int 2000)) (wNil))))) (wCall F_take (wHand 0 (wDat (wC (.int 6)) (wNil))))) (wDat (wCall F_rising (wHand 0 (wHand 2 (wHand 3 (wDat (wCall F_pick (wHand 0 (wDat (wLst (wDat (wC (.int 3)) (wDat (wC (.int 12)) (wNil)))) (wNil)))) (wNil)))))) (wNil))))) (wNext))
theorem W_table_ok : ∀ args xp Q, args.length = F_table.ps.length → F_table.sp args xp Q → W_table (endsOf [0] 2 Q) (startD 4 args) xp := by
  rintro args xp Q _ ⟨xs, e, g, t, rfl, gd, h0, h⟩
  unfold W_table endsOf
  repeat' with_reducible first
    | refine y_pick rfl (by assumption) ⟨by simp, by simp⟩ (fun d zs md gz => ?_)
    | refine x_seq ?_
    | refine x_next ?_
    | refine x_brk ?_
    | refine x_cnt ?_
    | refine x_ret ?_
    | refine x_retN ?_
    | refine x_set (by with_unfolding_all decide) ?_
    | refine x_drop ?_
    | refine x_ifS ?_
    | refine x_ite (fun hc => ?_) (fun hc => ?_)
    | refine x_iteN (fun hc => ?_) (fun hc => ?_)
    | refine x_iteT ?_
    | refine x_iteF ?_
    | refine x_iteNT ?_
    | refine x_iteNF ?_
    | refine x_for ?_
    | refine x_par (by with_unfolding_all decide) (by with_unfolding_all decide) ?_
    | refine x_parG ?_
    | refine x_par3 (by with_unfolding_all decide) (by with_unfolding_all decide) (by with_unfolding_all decide) ?_
    | refine x_parG3 ?_
    | refine x_asg ?_
    | refine x_to (by with_unfolding_all decide) ?_
    | refine x_gT (by with_unfolding_all rfl) ?_
    | refine x_g0 ?_
    | refine x_g1 ?_
    | refine x_aug (by with_unfolding_all decide) (by with_unfolding_all rfl) ?_
    | refine x_augG ?_
    | refine x_augS (by with_unfolding_all rfl) ?_
    | refine x_augS1 (by with_unfolding_all rfl) (by with_unfolding_all rfl) (by with_unfolding_all rfl) ?_
    | refine x_augS2 (by with_unfolding_all rfl) (by with_unfolding_all rfl) ?_
    | refine x_put ?_
    | refine x_putG (by with_unfolding_all rfl) ?_
    | refine x_putL (by with_unfolding_all rfl) (by with_unfolding_all rfl) ?_
    | refine x_op ?_
    | refine x_fv ?_
    | refine x_fl ?_
    | refine x_c ?_
    | refine x_var (by with_unfolding_all rfl) ?_
    | refine x_varO (by with_unfolding_all rfl) ?_
    | refine x_bi ?_
    | refine x_nil ?_
    | refine x_dat ?_
    | refine x_handD (by with_unfolding_all rfl) ?_
    | refine x_handO (by with_unfolding_all rfl) ?_
    | refine x_tup ?_
    | refine x_lst ?_
    | refine x_tupG (by with_unfolding_all rfl) (by with_unfolding_all rfl) ?_
    | refine x_if ?_
    | refine x_neg ?_
    | refine x_negG ?_
    | refine x_ixNO (by with_unfolding_all rfl) ?_
    | refine x_ixND (by with_unfolding_all rfl) ?_
    | refine x_ixG (by with_unfolding_all rfl) (by with_unfolding_all rfl) ?_
    | refine x_ixt0 ?_
    | refine x_ixt1 ?_
    | refine x_ixt2 ?_
    | refine x_ixt3 ?_
    | refine x_ixt4 ?_
    | refine x_ixt5 ?_
    | refine x_ixt6 ?_
    | refine x_ixt7 ?_
    | refine x_ixt (by with_unfolding_all rfl) ?_
    | refine x_ixl0 ?_
    | refine x_ixl1 ?_
    | refine x_ixl2 ?_
    | refine x_ixl3 ?_
    | refine x_ixl4 ?_
    | refine x_ixl5 ?_
    | refine x_ixl6 ?_
    | refine x_ixl7 ?_
    | refine x_ixl (by with_unfolding_all rfl) ?_
    | refine x_add ?_
    | refine x_addt ?_ ?_
    | refine x_addl ?_ ?_
    | refine x_sub ?_
    | refine x_mul ?_ ?_
    | refine x_div ?_ ?_
    | refine x_mod ?_ ?_
    | refine x_pow ?_ ?_
    | refine x_lt ?_
    | refine x_le ?_
    | refine x_gt ?_
    | refine x_ge ?_
    | refine x_eq ?_
    | refine x_ne ?_
    | refine x_is ?_
    | refine x_bl ?_
    | refine x_blG ?_
    | refine x_tru ?_
    | refine x_truB ?_
    | refine x_truI ?_
    | refine x_truL ?_
    | refine x_truT ?_
    | refine x_andC ?_
    | refine x_orC ?_
    | refine x_notC ?_
    | refine x_andV ?_
    | refine x_orV ?_
    | refine x_notV ?_
    | refine x_ch ?_
    | refine x_sl ?_
    | refine x_noPart ?_
    | refine x_part ?_
    | refine x_partG ?_
    | refine x_slL ?_
    | refine x_slT ?_
    | refine x_items ?_
    | refine x_itL ?_
    | refine x_itT ?_
    | refine x_range1 ?_
    | refine x_rgG ?_ ?_
    | refine x_range2 ?_
    | refine x_rgG2 ?_ ?_
    | refine x_lc ?_
    | refine x_yes ?_
    | refine x_take (by with_unfolding_all decide) (by with_unfolding_all rfl) ?_
    | refine x_takeD (by with_unfolding_all decide) (by with_unfolding_all rfl) ?_
    | refine x_app ⟨_, (by with_unfolding_all rfl)⟩ ?_
    | refine x_appG (by with_unfolding_all rfl) ?_ ?_
    | refine x_isi ?_
    | refine x_isiT (by with_unfolding_all rfl) (by with_unfolding_all rfl) ?_
    | refine x_isiF (by with_unfolding_all rfl) (by with_unfolding_all rfl) ?_
    | refine x_int ?_
    | refine x_intB ?_
    | refine x_abs ?_
    | refine x_max2 ?_
    | refine x_min2 ?_
    | refine x_len (by with_unfolding_all rfl) ?_
    | refine x_lenT (by with_unfolding_all rfl) ?_
    | refine x_btup (by with_unfolding_all rfl) ?_
    | refine x_btupT ?_
    | refine x_blst (by with_unfolding_all rfl) ?_
    | refine x_blstT ?_
    | refine x_call ?_
    | refine x_callG (by with_unfolding_all rfl) (by with_unfolding_all rfl) (by with_unfolding_all rfl) (by with_unfolding_all rfl) ?_
    | refine x_callK ?_
    | refine x_callKG (by with_unfolding_all rfl) (by with_unfolding_all rfl) (by with_unfolding_all rfl) ?_
  simp only [List.mem_cons, List.not_mem_nil, or_false] at md
  rcases md with rfl | rfl | rfl
  · skip
    repeat' with_reducible first
      | refine y_take (by assumption) ⟨by omega, by omega⟩ (fun t zs ht1 ht2 gz => ?_)
      | refine y_some (by assumption) ⟨by omega, by omega⟩ (fun t zs ht gz => ?_)
      | refine y_pickI2 (by assumption) (fun p us hp gz => ?_)
      | refine y_rising (by assumption) ⟨by omega, by omega, by omega, by omega⟩ (fun ns zs hn1 hn2 hn3 gz => ?_)
      | refine x_seq ?_
      | refine x_next ?_
      | refine x_brk ?_
      | refine x_cnt ?_
      | refine x_ret ?_
      | refine x_retN ?_
      | refine x_set (by with_unfolding_all decide) ?_
      | refine x_drop ?_
      | refine x_ifS ?_
      | refine x_ite (fun hc => ?_) (fun hc => ?_)
      | refine x_iteN (fun hc => ?_) (fun hc => ?_)
      | refine x_iteT ?_
      | refine x_iteF ?_
      | refine x_iteNT ?_
      | refine x_iteNF ?_
      | refine x_for ?_
      | refine x_par (by with_unfolding_all decide) (by with_unfolding_all decide) ?_
      | refine x_parG ?_
      | refine x_par3 (by with_unfolding_all decide) (by with_unfolding_all decide) (by with_unfolding_all decide) ?_
      | refine x_parG3 ?_
      | refine x_asg ?_
      | refine x_to (by with_unfolding_all decide) ?_
      | refine x_gT (by with_unfolding_all rfl) ?_
      | refine x_g0 ?_
      | refine x_g1 ?_
      | refine x_aug (by with_unfolding_all decide) (by with_unfolding_all rfl) ?_
      | refine x_augG ?_
      | refine x_augS (by with_unfolding_all rfl) ?_
      | refine x_augS1 (by with_unfolding_all rfl) (by with_unfolding_all rfl) (by with_unfolding_all rfl) ?_
      | refine x_augS2 (by with_unfolding_all rfl) (by with_unfolding_all rfl) ?_
      | refine x_put ?_
      | refine x_putG (by with_unfolding_all rfl) ?_
      | refine x_putL (by with_unfolding_all rfl) (by with_unfolding_all rfl) ?_
      | refine x_op ?_
      | refine x_fv ?_
      | refine x_fl ?_
      | refine x_c ?_
      | refine x_var (by with_unfolding_all rfl) ?_
      | refine x_varO (by with_unfolding_all rfl) ?_
      | refine x_bi ?_
      | refine x_nil ?_
      | refine x_dat ?_
      | refine x_handD (by with_unfolding_all rfl) ?_
      | refine x_handO (by with_unfolding_all rfl) ?_
      | refine x_tup ?_
      | refine x_lst ?_
      | refine x_tupG (by with_unfolding_all rfl) (by with_unfolding_all rfl) ?_
      | refine x_if ?_
      | refine x_neg ?_
      | refine x_negG ?_
      | refine x_ixNO (by with_unfolding_all rfl) ?_
      | refine x_ixND (by with_unfolding_all rfl) ?_
      | refine x_ixG (by with_unfolding_all rfl) (by with_unfolding_all rfl) ?_
      | refine x_ixt0 ?_
      | refine x_ixt1 ?_
      | refine x_ixt2 ?_
      | refine x_ixt3 ?_
      | refine x_ixt4 ?_
      | refine x_ixt5 ?_
      | refine x_ixt6 ?_
      | refine x_ixt7 ?_
      | refine x_ixt (by with_unfolding_all rfl) ?_
      | refine x_ixl0 ?_
      | refine x_ixl1 ?_
      | refine x_ixl2 ?_
      | refine x_ixl3 ?_
      | refine x_ixl4 ?_
      | refine x_ixl5 ?_
      | refine x_ixl6 ?_
      | refine x_ixl7 ?_
      | refine x_ixl (by with_unfolding_all rfl) ?_
      | refine x_add ?_
      | refine x_addt ?_ ?_
      | refine x_addl ?_ ?_
      | refine x_sub ?_
      | refine x_mul ?_ ?_
      | refine x_div ?_ ?_
      | refine x_mod ?_ ?_
      | refine x_pow ?_ ?_
      | refine x_lt ?_
      | refine x_le ?_
      | refine x_gt ?_
      | refine x_ge ?_
      | refine x_eq ?_
      | refine x_ne ?_
      | refine x_is ?_
      | refine x_bl ?_
      | refine x_blG ?_
      | refine x_tru ?_
      | refine x_truB ?_
      | refine x_truI ?_
      | refine x_truL ?_
      | refine x_truT ?_
      | refine x_andC ?_
      | refine x_orC ?_
      | refine x_notC ?_
      | refine x_andV ?_
      | refine x_orV ?_
      | refine x_notV ?_
      | refine x_ch ?_
      | refine x_sl ?_
      | refine x_noPart ?_
      | refine x_part ?_
      | refine x_partG ?_
      | refine x_slL ?_
      | refine x_slT ?_
      | refine x_items ?_
      | refine x_itL ?_
      | refine x_itT ?_
      | refine x_range1 ?_
      | refine x_rgG ?_ ?_
      | refine x_range2 ?_
      | refine x_rgG2 ?_ ?_
      | refine x_lc ?_
      | refine x_yes ?_
      | refine x_take (by with_unfolding_all decide) (by with_unfolding_all rfl) ?_
      | refine x_takeD (by with_unfolding_all decide) (by with_unfolding_all rfl) ?_
      | refine x_app ⟨_, (by with_unfolding_all rfl)⟩ ?_
      | refine x_appG (by with_unfolding_all rfl) ?_ ?_
      | refine x_isi ?_
      | refine x_isiT (by with_unfolding_all rfl) (by with_unfolding_all rfl) ?_
      | refine x_isiF (by with_unfolding_all rfl) (by with_unfolding_all rfl) ?_
      | refine x_int ?_
      | refine x_intB ?_
      | refine x_abs ?_
      | refine x_max2 ?_
      | refine x_min2 ?_
      | refine x_len (by with_unfolding_all rfl) ?_
      | refine x_lenT (by with_unfolding_all rfl) ?_
      | refine x_btup (by with_unfolding_all rfl) ?_
      | refine x_btupT ?_
      | refine x_blst (by with_unfolding_all rfl) ?_
      | refine x_blstT ?_
      | refine x_call ?_
      | refine x_callG (by with_unfolding_all rfl) (by with_unfolding_all rfl) (by with_unfolding_all rfl) (by with_unfolding_all rfl) ?_
      | refine x_callK ?_
      | refine x_callKG (by with_unfolding_all rfl) (by with_unfolding_all rfl) (by with_unfolding_all rfl) ?_
    all_goals exact h _ _ ⟨_, _, rfl, ⟨by omega, by omega⟩, fun n mn => by have := hn1 n mn; omega, hn2, by omega⟩ (by assumption)
  · skip
    repeat' with_reducible first
      | refine y_take (by assumption) ⟨by omega, by omega⟩ (fun t zs ht1 ht2 gz => ?_)
      | refine y_some (by assumption) ⟨by omega, by omega⟩ (fun t zs ht gz => ?_)
      | refine y_pickI2 (by assumption) (fun p us hp gz => ?_)
      | refine y_rising (by assumption) ⟨by omega, by omega, by omega, by omega⟩ (fun ns zs hn1 hn2 hn3 gz => ?_)
      | refine x_seq ?_
      | refine x_next ?_
      | refine x_brk ?_
      | refine x_cnt ?_
      | refine x_ret ?_
      | refine x_retN ?_
      | refine x_set (by with_unfolding_all decide) ?_
      | refine x_drop ?_
      | refine x_ifS ?_
      | refine x_ite (fun hc => ?_) (fun hc => ?_)
      | refine x_iteN (fun hc => ?_) (fun hc => ?_)
      | refine x_iteT ?_
      | refine x_iteF ?_
      | refine x_iteNT ?_
      | refine x_iteNF ?_
      | refine x_for ?_
      | refine x_par (by with_unfolding_all decide) (by with_unfolding_all decide) ?_
      | refine x_parG ?_
      | refine x_par3 (by with_unfolding_all decide) (by with_unfolding_all decide) (by with_unfolding_all decide) ?_
      | refine x_parG3 ?_
      | refine x_asg ?_
      | refine x_to (by with_unfolding_all decide) ?_
      | refine x_gT (by with_unfolding_all rfl) ?_
      | refine x_g0 ?_
      | refine x_g1 ?_
      | refine x_aug (by with_unfolding_all decide) (by with_unfolding_all rfl) ?_
      | refine x_augG ?_
      | refine x_augS (by with_unfolding_all rfl) ?_
      | refine x_augS1 (by with_unfolding_all rfl) (by with_unfolding_all rfl) (by with_unfolding_all rfl) ?_
      | refine x_augS2 (by with_unfolding_all rfl) (by with_unfolding_all rfl) ?_
      | refine x_put ?_
      | refine x_putG (by with_unfolding_all rfl) ?_
      | refine x_putL (by with_unfolding_all rfl) (by with_unfolding_all rfl) ?_
      | refine x_op ?_
      | refine x_fv ?_
      | refine x_fl ?_
      | refine x_c ?_
      | refine x_var (by with_unfolding_all rfl) ?_
      | refine x_varO (by with_unfolding_all rfl) ?_
      | refine x_bi ?_
      | refine x_nil ?_
      | refine x_dat ?_
      | refine x_handD (by with_unfolding_all rfl) ?_
      | refine x_handO (by with_unfolding_all rfl) ?_
      | refine x_tup ?_
      | refine x_lst ?_
      | refine x_tupG (by with_unfolding_all rfl) (by with_unfolding_all rfl) ?_
      | refine x_if ?_
      | refine x_neg ?_
      | refine x_negG ?_
      | refine x_ixNO (by with_unfolding_all rfl) ?_
      | refine x_ixND (by with_unfolding_all rfl) ?_
      | refine x_ixG (by with_unfolding_all rfl) (by with_unfolding_all rfl) ?_
      | refine x_ixt0 ?_
      | refine x_ixt1 ?_
      | refine x_ixt2 ?_
      | refine x_ixt3 ?_
      | refine x_ixt4 ?_
      | refine x_ixt5 ?_
      | refine x_ixt6 ?_
      | refine x_ixt7 ?_
      | refine x_ixt (by with_unfolding_all rfl) ?_
      | refine x_ixl0 ?_
      | refine x_ixl1 ?_
      | refine x_ixl2 ?_
      | refine x_ixl3 ?_
      | refine x_ixl4 ?_
      | refine x_ixl5 ?_
      | refine x_ixl6 ?_
      | refine x_ixl7 ?_
      | refine x_ixl (by with_unfolding_all rfl) ?_
      | refine x_add ?_
      | refine x_addt ?_ ?_
      | refine x_addl ?_ ?_
      | refine x_sub ?_
      | refine x_mul ?_ ?_
      | refine x_div ?_ ?_
      | refine x_mod ?_ ?_
      | refine x_pow ?_ ?_
      | refine x_lt ?_
      | refine x_le ?_
      | refine x_gt ?_
      | refine x_ge ?_
      | refine x_eq ?_
      | refine x_ne ?_
      | refine x_is ?_
      | refine x_bl ?_
      | refine x_blG ?_
      | refine x_tru ?_
      | refine x_truB ?_
      | refine x_truI ?_
      | refine x_truL ?_
      | refine x_truT ?_
      | refine x_andC ?_
      | refine x_orC ?_
      | refine x_notC ?_
      | refine x_andV ?_
      | refine x_orV ?_
      | refine x_notV ?_
      | refine x_ch ?_
      | refine x_sl ?_
      | refine x_noPart ?_
      | refine x_part ?_
      | refine x_partG ?_
      | refine x_slL ?_
      | refine x_slT ?_
      | refine x_items ?_
      | refine x_itL ?_
      | refine x_itT ?_
      | refine x_range1 ?_
      | refine x_rgG ?_ ?_
      | refine x_range2 ?_
      | refine x_rgG2 ?_ ?_
      | refine x_lc ?_
      | refine x_yes ?_
      | refine x_take (by with_unfolding_all decide) (by with_unfolding_all rfl) ?_
      | refine x_takeD (by with_unfolding_all decide) (by with_unfolding_all rfl) ?_
      | refine x_app ⟨_, (by with_unfolding_all rfl)⟩ ?_
      | refine x_appG (by with_unfolding_all rfl) ?_ ?_
      | refine x_isi ?_
      | refine x_isiT (by with_unfolding_all rfl) (by with_unfolding_all rfl) ?_
      | refine x_isiF (by with_unfolding_all rfl) (by with_unfolding_all rfl) ?_
      | refine x_int ?_
      | refine x_intB ?_
      | refine x_abs ?_
      | refine x_max2 ?_
      | refine x_min2 ?_
      | refine x_len (by with_unfolding_all rfl) ?_
      | refine x_lenT (by with_unfolding_all rfl) ?_
      | refine x_btup (by with_unfolding_all rfl) ?_
      | refine x_btupT ?_
      | refine x_blst (by with_unfolding_all rfl) ?_
      | refine x_blstT ?_
      | refine x_call ?_
      | refine x_callG (by with_unfolding_all rfl) (by with_unfolding_all rfl) (by with_unfolding_all rfl) (by with_unfolding_all rfl) ?_
      | refine x_callK ?_
      | refine x_callKG (by with_unfolding_all rfl) (by with_unfolding_all rfl) (by with_unfolding_all rfl) ?_
    all_goals exact h _ _ ⟨_, _, rfl, ⟨by omega, by omega⟩, fun n mn => by have := hn1 n mn; omega, hn2, by omega⟩ (by assumption)
  · skip
    repeat' with_reducible first
      | refine y_take (by assumption) ⟨by omega, by omega⟩ (fun t zs ht1 ht2 gz => ?_)
      | refine y_some (by assumption) ⟨by omega, by omega⟩ (fun t zs ht gz => ?_)
      | refine y_pickI2 (by assumption) (fun p us hp gz => ?_)
      | refine y_rising (by assumption) ⟨by omega, by omega, by omega, by omega⟩ (fun ns zs hn1 hn2 hn3 gz => ?_)
      | refine x_seq ?_
      | refine x_next ?_
      | refine x_brk ?_
      | refine x_cnt ?_
      | refine x_ret ?_
      | refine x_retN ?_
      | refine x_set (by with_unfolding_all decide) ?_
      | refine x_drop ?_
      | refine x_ifS ?_
      | refine x_ite (fun hc => ?_) (fun hc => ?_)
      | refine x_iteN (fun hc => ?_) (fun hc => ?_)
      | refine x_iteT ?_
      | refine x_iteF ?_
      | refine x_iteNT ?_
      | refine x_iteNF ?_
      | refine x_for ?_
      | refine x_par (by with_unfolding_all decide) (by with_unfolding_all decide) ?_
      | refine x_parG ?_
      | refine x_par3 (by with_unfolding_all decide) (by with_unfolding_all decide) (by with_unfolding_all decide) ?_
      | refine x_parG3 ?_
      | refine x_asg ?_
      | refine x_to (by with_unfolding_all decide) ?_
      | refine x_gT (by with_unfolding_all rfl) ?_
      | refine x_g0 ?_
      | refine x_g1 ?_
      | refine x_aug (by with_unfolding_all decide) (by with_unfolding_all rfl) ?_
      | refine x_augG ?_
      | refine x_augS (by with_unfolding_all rfl) ?_
      | refine x_augS1 (by with_unfolding_all rfl) (by with_unfolding_all rfl) (by with_unfolding_all rfl) ?_
      | refine x_augS2 (by with_unfolding_all rfl) (by with_unfolding_all rfl) ?_
      | refine x_put ?_
      | refine x_putG (by with_unfolding_all rfl) ?_
      | refine x_putL (by with_unfolding_all rfl) (by with_unfolding_all rfl) ?_
      | refine x_op ?_
      | refine x_fv ?_
      | refine x_fl ?_
      | refine x_c ?_
      | refine x_var (by with_unfolding_all rfl) ?_
      | refine x_varO (by with_unfolding_all rfl) ?_
      | refine x_bi ?_
      | refine x_nil ?_
      | refine x_dat ?_
      | refine x_handD (by with_unfolding_all rfl) ?_
      | refine x_handO (by with_unfolding_all rfl) ?_
      | refine x_tup ?_
      | refine x_lst ?_
      | refine x_tupG (by with_unfolding_all rfl) (by with_unfolding_all rfl) ?_
      | refine x_if ?_
      | refine x_neg ?_
      | refine x_negG ?_
      | refine x_ixNO (by with_unfolding_all rfl) ?_
      | refine x_ixND (by with_unfolding_all rfl) ?_
      | refine x_ixG (by with_unfolding_all rfl) (by with_unfolding_all rfl) ?_
      | refine x_ixt0 ?_
      | refine x_ixt1 ?_
      | refine x_ixt2 ?_
      | refine x_ixt3 ?_
      | refine x_ixt4 ?_
      | refine x_ixt5 ?_
      | refine x_ixt6 ?_
      | refine x_ixt7 ?_
      | refine x_ixt (by with_unfolding_all rfl) ?_
      | refine x_ixl0 ?_
      | refine x_ixl1 ?_
      | refine x_ixl2 ?_
      | refine x_ixl3 ?_
      | refine x_ixl4 ?_
      | refine x_ixl5 ?_
      | refine x_ixl6 ?_
      | refine x_ixl7 ?_
      | refine x_ixl (by with_unfolding_all rfl) ?_
      | refine x_add ?_
      | refine x_addt ?_ ?_
      | refine x_addl ?_ ?_
      | refine x_sub ?_
      | refine x_mul ?_ ?_
      | refine x_div ?_ ?_
      | refine x_mod ?_ ?_
      | refine x_pow ?_ ?_
      | refine x_lt ?_
      | refine x_le ?_
      | refine x_gt ?_
      | refine x_ge ?_
      | refine x_eq ?_
      | refine x_ne ?_
      | refine x_is ?_
      | refine x_bl ?_
      | refine x_blG ?_
      | refine x_tru ?_
      | refine x_truB ?_
      | refine x_truI ?_
      | refine x_truL ?_
      | refine x_truT ?_
      | refine x_andC ?_
      | refine x_orC ?_
      | refine x_notC ?_
      | refine x_andV ?_
      | refine x_orV ?_
      | refine x_notV ?_
      | refine x_ch ?_
      | refine x_sl ?_
      | refine x_noPart ?_
      | refine x_part ?_
      | refine x_partG ?_
      | refine x_slL ?_
      | refine x_slT ?_
      | refine x_items ?_
      | refine x_itL ?_
      | refine x_itT ?_
      | refine x_range1 ?_
      | refine x_rgG ?_ ?_
      | refine x_range2 ?_
      | refine x_rgG2 ?_ ?_
      | refine x_lc ?_
      | refine x_yes ?_
      | refine x_take (by with_unfolding_all decide) (by with_unfolding_all rfl) ?_
      | refine x_takeD (by with_unfolding_all decide) (by with_unfolding_all rfl) ?_
      | refine x_app ⟨_, (by with_unfolding_all rfl)⟩ ?_
      | refine x_appG (by with_unfolding_all rfl) ?_ ?_
      | refine x_isi ?_
      | refine x_isiT (by with_unfolding_all rfl) (by with_unfolding_all rfl) ?_
      | refine x_isiF (by with_unfolding_all rfl) (by with_unfolding_all rfl) ?_
      | refine x_int ?_
      | refine x_intB ?_
      | refine x_abs ?_
      | refine x_max2 ?_
      | refine x_min2 ?_
      | refine x_len (by with_unfolding_all rfl) ?_
      | refine x_lenT (by with_unfolding_all rfl) ?_
      | refine x_btup (by with_unfolding_all rfl) ?_
      | refine x_btupT ?_
      | refine x_blst (by with_unfolding_all rfl) ?_
      | refine x_blstT ?_
      | refine x_call ?_
      | refine x_callG (by with_unfolding_all rfl) (by with_unfolding_all rfl) (by with_unfolding_all rfl) (by with_unfolding_all rfl) ?_
      | refine x_callK ?_
      | refine x_callKG (by with_unfolding_all rfl) (by with_unfolding_all rfl) (by with_unfolding_all rfl) ?_
    all_goals exact h _ _ ⟨_, _, rfl, ⟨by omega, by omega⟩, fun n mn => by have := hn1 n mn; omega, hn2, by omega⟩ (by assumption)
/-! ### _law_mode -/
def PaceOk (e g : Int) (d : D) : Prop := ∃ (t : D) (c : Int), d = .tuple [t, .int c] ∧ TabOk t ∧ e ≤ c ∧ c ≤ g
def ModeOk (e g : Int) (d : D) : Prop := ∃ (ps : List D) (c : Int) (t1 t2 : D) (r f : Int), d = .tuple [.tuple ps, .int c, t1, t2, .int r, .int f] ∧ (∀ p ∈ ps, PaceOk e g p) ∧ (1 ≤ ps.length ∧ ps.length ≤ 4) ∧ (e ≤ c ∧ c ≤ g) ∧ TabOk t1 ∧ TabOk t2 ∧ (0 ≤ r ∧ r ≤ 200) ∧ (0 ≤ f ∧ f ≤ 200)
def F_mode : Fn := ⟨["state", "book"], [0], [], fun args _ Q => ∃ (xs : List D) (e g t : Int), args = [.ob (.L xs), .dat (.tuple [.int e, .int g, .int t])] ∧ Good xs ∧ (1 ≤ e ∧ e ≤ g ∧ g ≤ 2000) ∧ ∀ (d : D) (zs : List D), ModeOk e g d → Good zs → Q (.val d) [some (.ob (.L zs)), none]⟩
theorem F_mode_mono : MonoF F_mode.sp := fun args xp xp' Q Q' _ hq ⟨xs, e, g, t, e1, gd, h0, h⟩ => ⟨xs, e, g, t, e1, gd, h0, fun r zs h1 h2 => hq _ _ (h r zs h1 h2)⟩
theorem y_mode {xs : List D} {e g t : Int} {xp : Ex → Prop} {Q : Rv → Sd → Prop} (gd : Good xs) (h0 : 1 ≤ e ∧ e ≤ g ∧ g ≤ 2000) (h : ∀ (d : D) (zs : List D), ModeOk e g d → Good zs → Q (.val d) [some (.ob (.L zs)), none]) : F_mode.sp [.ob (.L xs), .dat (.tuple [.int e, .int g, .int t])] xp Q := ⟨xs, e, g, t, rfl, gd, h0, h⟩
def W_mode : WS := wSeq (wSet [0] 2 (wLst (wNil))) (wSeq (wFor (wRange1 (wDat (wOp gAdd (wC (.int 1)) (wCall F_take (wHand 0 (wDat (wC (.int 4)) (wNil))))) (wNil))) (wTo [0] 3) (wSeq (wDrop (wApp 2 (wTup (wDat (wCall F_table (wHand 0 (wHand 1 (wNil)))) (wDat (wCall F_some (wHand 0 (wDat (wIxN 1 (wC (.int 0))) (wDat (wIxN 1 (wC (.int 1))) (wNil))))) (wNil)))))) (wNext))) (wSeq (wPar [0] 4 5 (wDat (wCall F_pick (wHand 0 (wDat (wLst (wDat (wC (.int 0)) (wDat (wCall F_take (wHand 0 (wDat (wC (.int 5)) (wNil)))) (wDat (wC (.int 200)) (wNil))))) (wNil)))) (wDat (wCall F_pick (wHand 0 (wDat (wLst (wDat (wC (.int 0)) (wDat (wCall F_take (wHand 0 (wDat (wC (.int 5)) (wNil)))) (wDat (wC (.int 200)) (wNil))))) (wNil)))) (wNil)))) (wSeq (wRet (wTup (wDat (wBi bTup (wHand 2 (wNil))) (wDat (wCall F_some (wHand 0 (wDat (wIxN 1 (wC (.int 0))) (wDat (wIxN 1 (wC (.int 1))) (wNil))))) (wDat (wCall F_table (wHand 0 (wHand 1 (wNil)))) (wDat (wCall F_table (wHand 0 (wHand 1 (wNil)))) (wDat (wVar 4) (wDat (wVar 5) (wNil))))))))) (wNext))))
theorem W_mode_ok : ∀ args xp Q, args.length = F_mode.ps.length → F_mode.sp args xp Q → W_mode (endsOf [0] 2 Q) (startD 6 args) xp := by
  rintro args xp Q _ ⟨xs, e, g, t, rfl, gd, h0, h⟩
  unfold W_mode endsOf
  repeat' with_reducible first
    | refine y_take (by assumption) ⟨by omega, by omega⟩ (fun q zs ht1 ht2 gz => ?_)
    | refine x_seq ?_
    | refine x_next ?_
    | refine x_brk ?_
    | refine x_cnt ?_
    | refine x_ret ?_
    | refine x_retN ?_
    | refine x_set (by with_unfolding_all decide) ?_
    | refine x_drop ?_
    | refine x_ifS ?_
    | refine x_ite (fun hc => ?_) (fun hc => ?_)
    | refine x_iteN (fun hc => ?_) (fun hc => ?_)
    | refine x_iteT ?_
    | refine x_iteF ?_
    | refine x_iteNT ?_
    | refine x_iteNF ?_
    | refine x_for ?_
    | refine x_par (by with_unfolding_all decide) (by with_unfolding_all decide) ?_
    | refine x_parG ?_
    | refine x_par3 (by with_unfolding_all decide) (by with_unfolding_all decide) (by with_unfolding_all decide) ?_
    | refine x_parG3 ?_
    | refine x_asg ?_
    | refine x_to (by with_unfolding_all decide) ?_
    | refine x_gT (by with_unfolding_all rfl) ?_
    | refine x_g0 ?_
    | refine x_g1 ?_
    | refine x_aug (by with_unfolding_all decide) (by with_unfolding_all rfl) ?_
    | refine x_augG ?_
    | refine x_augS (by with_unfolding_all rfl) ?_
    | refine x_augS1 (by with_unfolding_all rfl) (by with_unfolding_all rfl) (by with_unfolding_all rfl) ?_
    | refine x_augS2 (by with_unfolding_all rfl) (by with_unfolding_all rfl) ?_
    | refine x_put ?_
    | refine x_putG (by with_unfolding_all rfl) ?_
    | refine x_putL (by with_unfolding_all rfl) (by with_unfolding_all rfl) ?_
    | refine x_op ?_
    | refine x_fv ?_
    | refine x_fl ?_
    | refine x_c ?_
    | refine x_var (by with_unfolding_all rfl) ?_
    | refine x_varO (by with_unfolding_all rfl) ?_
    | refine x_bi ?_
    | refine x_nil ?_
    | refine x_dat ?_
    | refine x_handD (by with_unfolding_all rfl) ?_
    | refine x_handO (by with_unfolding_all rfl) ?_
    | refine x_tup ?_
    | refine x_lst ?_
    | refine x_tupG (by with_unfolding_all rfl) (by with_unfolding_all rfl) ?_
    | refine x_if ?_
    | refine x_neg ?_
    | refine x_negG ?_
    | refine x_ixNO (by with_unfolding_all rfl) ?_
    | refine x_ixND (by with_unfolding_all rfl) ?_
    | refine x_ixG (by with_unfolding_all rfl) (by with_unfolding_all rfl) ?_
    | refine x_ixt0 ?_
    | refine x_ixt1 ?_
    | refine x_ixt2 ?_
    | refine x_ixt3 ?_
    | refine x_ixt4 ?_
    | refine x_ixt5 ?_
    | refine x_ixt6 ?_
    | refine x_ixt7 ?_
    | refine x_ixt (by with_unfolding_all rfl) ?_
    | refine x_ixl0 ?_
    | refine x_ixl1 ?_
    | refine x_ixl2 ?_
    | refine x_ixl3 ?_
    | refine x_ixl4 ?_
    | refine x_ixl5 ?_
    | refine x_ixl6 ?_
    | refine x_ixl7 ?_
    | refine x_ixl (by with_unfolding_all rfl) ?_
    | refine x_add ?_
    | refine x_addt ?_ ?_
    | refine x_addl ?_ ?_
    | refine x_sub ?_
    | refine x_mul ?_ ?_
    | refine x_div ?_ ?_
    | refine x_mod ?_ ?_
    | refine x_pow ?_ ?_
    | refine x_lt ?_
    | refine x_le ?_
    | refine x_gt ?_
    | refine x_ge ?_
    | refine x_eq ?_
    | refine x_ne ?_
    | refine x_is ?_
    | refine x_bl ?_
    | refine x_blG ?_
    | refine x_tru ?_
    | refine x_truB ?_
    | refine x_truI ?_
    | refine x_truL ?_
    | refine x_truT ?_
    | refine x_andC ?_
    | refine x_orC ?_
    | refine x_notC ?_
    | refine x_andV ?_
    | refine x_orV ?_
    | refine x_notV ?_
    | refine x_ch ?_
    | refine x_sl ?_
    | refine x_noPart ?_
    | refine x_part ?_
    | refine x_partG ?_
    | refine x_slL ?_
    | refine x_slT ?_
    | refine x_items ?_
    | refine x_itL ?_
    | refine x_itT ?_
    | refine x_range1 ?_
    | refine x_rgG ?_ ?_
    | refine x_range2 ?_
    | refine x_rgG2 ?_ ?_
    | refine x_lc ?_
    | refine x_yes ?_
    | refine x_take (by with_unfolding_all decide) (by with_unfolding_all rfl) ?_
    | refine x_takeD (by with_unfolding_all decide) (by with_unfolding_all rfl) ?_
    | refine x_app ⟨_, (by with_unfolding_all rfl)⟩ ?_
    | refine x_appG (by with_unfolding_all rfl) ?_ ?_
    | refine x_isi ?_
    | refine x_isiT (by with_unfolding_all rfl) (by with_unfolding_all rfl) ?_
    | refine x_isiF (by with_unfolding_all rfl) (by with_unfolding_all rfl) ?_
    | refine x_int ?_
    | refine x_intB ?_
    | refine x_abs ?_
    | refine x_max2 ?_
    | refine x_min2 ?_
    | refine x_len (by with_unfolding_all rfl) ?_
    | refine x_lenT (by with_unfolding_all rfl) ?_
    | refine x_btup (by with_unfolding_all rfl) ?_
    | refine x_btupT ?_
    | refine x_blst (by with_unfolding_all rfl) ?_
    | refine x_blstT ?_
    | refine x_call ?_
    | refine x_callG (by with_unfolding_all rfl) (by with_unfolding_all rfl) (by with_unfolding_all rfl) (by with_unfolding_all rfl) ?_
    | refine x_callK ?_
    | refine x_callKG (by with_unfolding_all rfl) (by with_unfolding_all rfl) (by with_unfolding_all rfl) ?_
  · omega
  refine rg_rule (fun k s => ∃ (st ps : List D) (c3 : Option Sl), s = [some (.ob (.L st)), some (.dat (.tuple [.int e, .int g, .int t])), some (.ob (.L ps)), c3, none, none] ∧ Good st ∧ (∀ p ∈ ps, PaceOk e g p) ∧ (ps.length : Int) = k) 0 (1 + q) (by omega) ⟨_, [], _, rfl, gz, by simp, rfl⟩ ?_ ?_
  · rintro sd ⟨st, ps, c3, rfl, gs, hp, hk⟩
    repeat' with_reducible first
      | refine y_take (by assumption) ⟨by omega, by omega⟩ (fun t zs ht1 ht2 gz => ?_)
      | refine y_pickI3 (by assumption) (fun p us hpp gz => ?_)
      | refine y_some (by assumption) ⟨by omega, by omega⟩ (fun t zs ht gz => ?_)
      | refine y_table (by assumption) ⟨by omega, by omega, by omega⟩ (fun d zs hd gz => ?_)
      | refine x_seq ?_
      | refine x_next ?_
      | refine x_brk ?_
      | refine x_cnt ?_
      | refine x_ret ?_
      | refine x_retN ?_
      | refine x_set (by with_unfolding_all decide) ?_
      | refine x_drop ?_
      | refine x_ifS ?_
      | refine x_ite (fun hc => ?_) (fun hc => ?_)
      | refine x_iteN (fun hc => ?_) (fun hc => ?_)
      | refine x_iteT ?_
      | refine x_iteF ?_
      | refine x_iteNT ?_
      | refine x_iteNF ?_
      | refine x_for ?_
      | refine x_par (by with_unfolding_all decide) (by with_unfolding_all decide) ?_
      | refine x_parG ?_
      | refine x_par3 (by with_unfolding_all decide) (by with_unfolding_all decide) (by with_unfolding_all decide) ?_
      | refine x_parG3 ?_
      | refine x_asg ?_
      | refine x_to (by with_unfolding_all decide) ?_
      | refine x_gT (by with_unfolding_all rfl) ?_
      | refine x_g0 ?_
      | refine x_g1 ?_
      | refine x_aug (by with_unfolding_all decide) (by with_unfolding_all rfl) ?_
      | refine x_augG ?_
      | refine x_augS (by with_unfolding_all rfl) ?_
      | refine x_augS1 (by with_unfolding_all rfl) (by with_unfolding_all rfl) (by with_unfolding_all rfl) ?_
      | refine x_augS2 (by with_unfolding_all rfl) (by with_unfolding_all rfl) ?_
      | refine x_put ?_
      | refine x_putG (by with_unfolding_all rfl) ?_
      | refine x_putL (by with_unfolding_all rfl) (by with_unfolding_all rfl) ?_
      | refine x_op ?_
      | refine x_fv ?_
      | refine x_fl ?_
      | refine x_c ?_
      | refine x_var (by with_unfolding_all rfl) ?_
      | refine x_varO (by with_unfolding_all rfl) ?_
      | refine x_bi ?_
      | refine x_nil ?_
      | refine x_dat ?_
      | refine x_handD (by with_unfolding_all rfl) ?_
      | refine x_handO (by with_unfolding_all rfl) ?_
      | refine x_tup ?_
      | refine x_lst ?_
      | refine x_tupG (by with_unfolding_all rfl) (by with_unfolding_all rfl) ?_
      | refine x_if ?_
      | refine x_neg ?_
      | refine x_negG ?_
      | refine x_ixNO (by with_unfolding_all rfl) ?_
      | refine x_ixND (by with_unfolding_all rfl) ?_
      | refine x_ixG (by with_unfolding_all rfl) (by with_unfolding_all rfl) ?_
      | refine x_ixt0 ?_
      | refine x_ixt1 ?_
      | refine x_ixt2 ?_
      | refine x_ixt3 ?_
      | refine x_ixt4 ?_
      | refine x_ixt5 ?_
      | refine x_ixt6 ?_
      | refine x_ixt7 ?_
      | refine x_ixt (by with_unfolding_all rfl) ?_
      | refine x_ixl0 ?_
      | refine x_ixl1 ?_
      | refine x_ixl2 ?_
      | refine x_ixl3 ?_
      | refine x_ixl4 ?_
      | refine x_ixl5 ?_
      | refine x_ixl6 ?_
      | refine x_ixl7 ?_
      | refine x_ixl (by with_unfolding_all rfl) ?_
      | refine x_add ?_
      | refine x_addt ?_ ?_
      | refine x_addl ?_ ?_
      | refine x_sub ?_
      | refine x_mul ?_ ?_
      | refine x_div ?_ ?_
      | refine x_mod ?_ ?_
      | refine x_pow ?_ ?_
      | refine x_lt ?_
      | refine x_le ?_
      | refine x_gt ?_
      | refine x_ge ?_
      | refine x_eq ?_
      | refine x_ne ?_
      | refine x_is ?_
      | refine x_bl ?_
      | refine x_blG ?_
      | refine x_tru ?_
      | refine x_truB ?_
      | refine x_truI ?_
      | refine x_truL ?_
      | refine x_truT ?_
      | refine x_andC ?_
      | refine x_orC ?_
      | refine x_notC ?_
      | refine x_andV ?_
      | refine x_orV ?_
      | refine x_notV ?_
      | refine x_ch ?_
      | refine x_sl ?_
      | refine x_noPart ?_
      | refine x_part ?_
      | refine x_partG ?_
      | refine x_slL ?_
      | refine x_slT ?_
      | refine x_items ?_
      | refine x_itL ?_
      | refine x_itT ?_
      | refine x_range1 ?_
      | refine x_rgG ?_ ?_
      | refine x_range2 ?_
      | refine x_rgG2 ?_ ?_
      | refine x_lc ?_
      | refine x_yes ?_
      | refine x_take (by with_unfolding_all decide) (by with_unfolding_all rfl) ?_
      | refine x_takeD (by with_unfolding_all decide) (by with_unfolding_all rfl) ?_
      | refine x_app ⟨_, (by with_unfolding_all rfl)⟩ ?_
      | refine x_appG (by with_unfolding_all rfl) ?_ ?_
      | refine x_isi ?_
      | refine x_isiT (by with_unfolding_all rfl) (by with_unfolding_all rfl) ?_
      | refine x_isiF (by with_unfolding_all rfl) (by with_unfolding_all rfl) ?_
      | refine x_int ?_
      | refine x_intB ?_
      | refine x_abs ?_
      | refine x_max2 ?_
      | refine x_min2 ?_
      | refine x_len (by with_unfolding_all rfl) ?_
      | refine x_lenT (by with_unfolding_all rfl) ?_
      | refine x_btup (by with_unfolding_all rfl) ?_
      | refine x_btupT ?_
      | refine x_blst (by with_unfolding_all rfl) ?_
      | refine x_blstT ?_
      | refine x_call ?_
      | refine x_callG (by with_unfolding_all rfl) (by with_unfolding_all rfl) (by with_unfolding_all rfl) (by with_unfolding_all rfl) ?_
      | refine x_callK ?_
      | refine x_callKG (by with_unfolding_all rfl) (by with_unfolding_all rfl) (by with_unfolding_all rfl) ?_
    exact h _ _ ⟨_, _, _, _, _, _, rfl, hp, ⟨by omega, by omega⟩, (by assumption), (by assumption), (by assumption), ⟨by omega, by omega⟩, ⟨by omega, by omega⟩⟩ (by assumption)
  · rintro NX k sd k0 k1 ⟨st, ps, c3, rfl, gs, hp, hk⟩ ih
    repeat' with_reducible first
      | refine y_some (by assumption) ⟨by omega, by omega⟩ (fun t zs ht gz => ?_)
      | refine y_table (by assumption) ⟨by omega, by omega, by omega⟩ (fun d zs hd gz => ?_)
      | refine x_seq ?_
      | refine x_next ?_
      | refine x_brk ?_
      | refine x_cnt ?_
      | refine x_ret ?_
      | refine x_retN ?_
      | refine x_set (by with_unfolding_all decide) ?_
      | refine x_drop ?_
      | refine x_ifS ?_
      | refine x_ite (fun hc => ?_) (fun hc => ?_)
      | refine x_iteN (fun hc => ?_) (fun hc => ?_)
      | refine x_iteT ?_
      | refine x_iteF ?_
      | refine x_iteNT ?_
      | refine x_iteNF ?_
      | refine x_for ?_
      | refine x_par (by with_unfolding_all decide) (by with_unfolding_all decide) ?_
      | refine x_parG ?_
      | refine x_par3 (by with_unfolding_all decide) (by with_unfolding_all decide) (by with_unfolding_all decide) ?_
      | refine x_parG3 ?_
      | refine x_asg ?_
      | refine x_to (by with_unfolding_all decide) ?_
      | refine x_gT (by with_unfolding_all rfl) ?_
      | refine x_g0 ?_
      | refine x_g1 ?_
      | refine x_aug (by with_unfolding_all decide) (by with_unfolding_all rfl) ?_
      | refine x_augG ?_
      | refine x_augS (by with_unfolding_all rfl) ?_
      | refine x_augS1 (by with_unfolding_all rfl) (by with_unfolding_all rfl) (by with_unfolding_all rfl) ?_
      | refine x_augS2 (by with_unfolding_all rfl) (by with_unfolding_all rfl) ?_
      | refine x_put ?_
      | refine x_putG (by with_unfolding_all rfl) ?_
      | refine x_putL (by with_unfolding_all rfl) (by with_unfolding_all rfl) ?_
      | refine x_op ?_
      | refine x_fv ?_
      | refine x_fl ?_
      | refine x_c ?_
      | refine x_var (by with_unfolding_all rfl) ?_
      | refine x_varO (by with_unfolding_all rfl) ?_
      | refine x_bi ?_
      | refine x_nil ?_
      | refine x_dat ?_
      | refine x_handD (by with_unfolding_all rfl) ?_
      | refine x_handO (by with_unfolding_all rfl) ?_
      | refine x_tup ?_
      | refine x_lst ?_
      | refine x_tupG (by with_unfolding_all rfl) (by with_unfolding_all rfl) ?_
      | refine x_if ?_
      | refine x_neg ?_
      | refine x_negG ?_
      | refine x_ixNO (by with_unfolding_all rfl) ?_
      | refine x_ixND (by with_unfolding_all rfl) ?_
      | refine x_ixG (by with_unfolding_all rfl) (by with_unfolding_all rfl) ?_
      | refine x_ixt0 ?_
      | refine x_ixt1 ?_
      | refine x_ixt2 ?_
      | refine x_ixt3 ?_
      | refine x_ixt4 ?_
      | refine x_ixt5 ?_
      | refine x_ixt6 ?_
      | refine x_ixt7 ?_
      | refine x_ixt (by with_unfolding_all rfl) ?_
      | refine x_ixl0 ?_
      | refine x_ixl1 ?_
      | refine x_ixl2 ?_
      | refine x_ixl3 ?_
      | refine x_ixl4 ?_
      | refine x_ixl5 ?_
      | refine x_ixl6 ?_
      | refine x_ixl7 ?_
      | refine x_ixl (by with_unfolding_all rfl) ?_
      | refine x_add ?_
      | refine x_addt ?_ ?_
      | refine x_addl ?_ ?_
      | refine x_sub ?_
      | refine x_mul ?_ ?_
      | refine x_div ?_ ?_
      | refine x_mod ?_ ?_
      | refine x_pow ?_ ?_
      | refine x_lt ?_
      | refine x_le ?_
      | refine x_gt ?_
      | refine x_ge ?_
      | refine x_eq ?_
      | refine x_ne ?_
      | refine x_is ?_
      | refine x_bl ?_
      | refine x_blG ?_
      | refine x_tru ?_
      | refine x_truB ?_
      | refine x_truI ?_
      | refine x_truL ?_
      | refine x_truT ?_
      | refine x_andC ?_
      | refine x_orC ?_
      | refine x_notC ?_
      | refine x_andV ?_
      | refine x_orV ?_
      | refine x_notV ?_
      | refine x_ch ?_
      | refine x_sl ?_
      | refine x_noPart ?_
      | refine x_part ?_
      | refine x_partG ?_
      | refine x_slL ?_
      | refine x_slT ?_
      | refine x_items ?_
      | refine x_itL ?_
      | refine x_itT ?_
      | refine x_range1 ?_
      | refine x_rgG ?_ ?_
      | refine x_range2 ?_
      | refine x_rgG2 ?_ ?_
      | refine x_lc ?_
      | refine x_yes ?_
      | refine x_take (by with_unfolding_all decide) (by with_unfolding_all rfl) ?_
      | refine x_takeD (by with_unfolding_all decide) (by with_unfolding_all rfl) ?_
      | refine x_app ⟨_, (by with_unfolding_all rfl)⟩ ?_
      | refine x_appG (by with_unfolding_all rfl) ?_ ?_
      | refine x_isi ?_
      | refine x_isiT (by with_unfolding_all rfl) (by with_unfolding_all rfl) ?_
      | refine x_isiF (by with_unfolding_all rfl) (by with_unfolding_all rfl) ?_
      | refine x_int ?_
      | refine x_intB ?_
      | refine x_abs ?_
      | refine x_max2 ?_
      | refine x_min2 ?_
      | refine x_len (by with_unfolding_all rfl) ?_
      | refine x_lenT (by with_unfolding_all rfl) ?_
      | refine x_btup (by with_unfolding_all rfl) ?_
      | refine x_btupT ?_
      | refine x_blst (by with_unfolding_all rfl) ?_
      | refine x_blstT ?_
      | refine x_call ?_
      | refine x_callG (by with_unfolding_all rfl) (by with_unfolding_all rfl) (by with_unfolding_all rfl) (by with_unfolding_all rfl) ?_
      | refine x_callK ?_
      | refine x_callKG (by with_unfolding_all rfl) (by with_unfolding_all rfl) (by with_unfolding_all rfl) ?_
    · exact small_line (by omega)
    · refine ih _ ⟨_, _, _, rfl, by assumption, fun p mp => ?_, by simp [hk]⟩
      rcases List.mem_append.mp mp with mp | mp
      · exact hp p mp
      · rw [List.mem_singleton.mp mp]
        exact ⟨_, _, rfl, by assumption, by assumption⟩
end Ev


/-! K01: value_at at drawn tables and masses. -/
namespace Ev
open PySem PySem.Spec PyProof.Rows L2
theorem cnt_cons (n : Int) (r : List Int) (m : Int) : cnt (n :: r) m = (if n ≤ m then 1 else 0) + cnt r m := by
  unfold cnt
  rw [List.filter_cons]
  by_cases h : n ≤ m
  · rw [if_pos (by simpa using h), if_pos h, List.length_cons]; omega
  · rw [if_neg (by simpa using h), if_neg h]; omega
theorem cnt_app (a b : List Int) (m : Int) : cnt (a ++ b) m = cnt a m + cnt b m := by
  unfold cnt
  rw [List.filter_append, List.length_append]; omega
theorem cnt_none {m : Int} : ∀ {ns : List Int}, (∀ n ∈ ns, m < n) → cnt ns m = 0
  | [], _ => rfl
  | n :: r, h => by
    rw [cnt_cons, cnt_none fun k q => h k (List.mem_cons_of_mem _ q), if_neg (by have := h n List.mem_cons_self; omega)]; rfl
theorem cnt_step (m : Int) : ∀ {ns : List Int}, ns.Pairwise (· < ·) → cnt ns (m + 1) - cnt ns m = 0 ∨ cnt ns (m + 1) - cnt ns m = 1
  | [], _ => .inl rfl
  | n :: r, h => by
    obtain ⟨h1, h2⟩ := List.pairwise_cons.mp h
    have ih := cnt_step m h2
    rw [cnt_cons, cnt_cons]
    by_cases e : n ≤ m
    · rw [if_pos (by omega), if_pos e]; omega
    · by_cases e2 : n ≤ m + 1
      · have z1 : cnt r (m + 1) = 0 := cnt_none fun k q => by have := h1 k q; omega
        have z2 : cnt r m = 0 := cnt_none fun k q => by have := h1 k q; omega
        rw [if_pos e2, if_neg e, z1, z2]; omega
      · rw [if_neg e2, if_neg e]; omega
theorem x_notInInts {a : Int} {ns : List Int} {R : Rv → Prop} (h : R (.val (.bool (!decide (a ∈ ns))))) : gIn true (.int a) (.tuple (ns.map PyData.int)) R := by
  have e : ((ns.map PyData.int).any fun y => PyData.eqv y (.int a)) = decide (a ∈ ns) := by
    rw [List.any_map]
    apply Bool.eq_iff_iff.mpr
    rw [List.any_eq_true, decide_eq_true_eq]
    constructor
    · rintro ⟨n, mn, q⟩
      have q : (n == a) = true := q
      rw [← eq_of_beq q]
      exact mn
    · exact fun q => ⟨a, q, show (a == a) = true from beq_self_eq_true a⟩
  refine ⟨rfl, by rw [List.all_map]; exact List.all_eq_true.mpr fun _ _ => rfl, ?_⟩
  show R (.val (.bool (!((ns.map PyData.int).any fun y => PyData.eqv y (.int a)))))
  rw [e]
  exact h
theorem x_nin01 {a : Int} {R : Rv → Prop} (h0 : a = 0 ∨ a = 1) (h : R (.val (.bool false))) : gIn true (.int a) (.tuple [.int 0, .int 1]) R :=
  x_notInInts (ns := [0, 1]) (by rw [decide_eq_true (by simpa using h0 : a ∈ [0, 1])]; exact h)
/-! ### value_at, and the law's own -/
def VArgs (args : List Sl) (Q : Rv → Sd → Prop) : Prop := ∃ (b : Int) (ns : List Int) (m : Int), args = [.dat (.tuple [.int b, .tuple (ns.map PyData.int)]), .dat (.int m)] ∧ ns.length < 1000 ∧ ∀ s, Q (.val (.int (b + cnt ns m))) s
def Fvalue_at : Fn := ⟨["table", "mass"], [], [(["table", "mass"], [0, 1])], fun args _ Q => VArgs args Q⟩
def F_value : Fn := ⟨["table", "mass"], [], [], fun args _ Q => VArgs args Q⟩
theorem VArgs_mono : MonoF fun args _ Q => VArgs args Q := fun args xp xp' Q Q' _ hq ⟨b, ns, m, e, h1, h⟩ => ⟨b, ns, m, e, h1, fun s => hq _ _ (h s)⟩
theorem y_value_at {b m : Int} {ns : List Int} {xp : Ex → Prop} {Q : Rv → Sd → Prop} (h0 : ns.length < 1000) (h : ∀ s, Q (.val (.int (b + cnt ns m))) s) : Fvalue_at.sp [.dat (.tuple [.int b, .tuple (ns.map PyData.int)]), .dat (.int m)] xp Q := ⟨b, ns, m, rfl, h0, h⟩
theorem y_value_atK {b m : Int} {ns : List Int} {xp : Ex → Prop} {Q : Rv → Sd → Prop} (h0 : ns.length < 1000) (h : ∀ s, Q (.val (.int (b + cnt ns m))) s) : Fvalue_at.sp ((permD [0, 1] [.tuple [.int b, .tuple (ns.map PyData.int)], .int m]).map Sl.dat) xp Q := ⟨b, ns, m, rfl, h0, h⟩
theorem y_value {b m : Int} {ns : List Int} {xp : Ex → Prop} {Q : Rv → Sd → Prop} (h0 : ns.length < 1000) (h : ∀ s, Q (.val (.int (b + cnt ns m))) s) : F_value.sp [.dat (.tuple [.int b, .tuple (ns.map PyData.int)]), .dat (.int m)] xp Q := ⟨b, ns, m, rfl, h0, h⟩
def Wvalue_at : WS := wSeq (wAsg (wVar 0) (wGT 2 (wG1 (wTo [] 2) (wG1 (wTo [] 3) (wG0))))) (wSeq (wRet (wOp gAdd (wVar 2) (wGx (wVar 3) (fun sd d => gx1 (qCmpT .LtE (some d) (gAt sd 1)) (some (.int 1))) kSum))) (wNext))
theorem Wvalue_at_ok : ∀ args xp Q, args.length = Fvalue_at.ps.length → Fvalue_at.sp args xp Q → Wvalue_at (endsOf [] 2 Q) (startD 4 args) xp := by
  rintro args xp Q _ ⟨b, ns, m, rfl, hl, h⟩
  unfold Wvalue_at endsOf
  repeat' with_reducible first
    | refine x_gx ?_
    | refine x_gxSum _ rfl (gx_cnt _ m 1 (by with_unfolding_all rfl) ns) (ones_fit (Nat.lt_of_le_of_lt (List.length_filter_le _ _) (by omega))) ?_
    | refine x_seq ?_
    | refine x_next ?_
    | refine x_brk ?_
    | refine x_cnt ?_
    | refine x_ret ?_
    | refine x_retN ?_
    | refine x_set (by with_unfolding_all decide) ?_
    | refine x_drop ?_
    | refine x_ifS ?_
    | refine x_ite (fun hc => ?_) (fun hc => ?_)
    | refine x_iteN (fun hc => ?_) (fun hc => ?_)
    | refine x_iteT ?_
    | refine x_iteF ?_
    | refine x_iteNT ?_
    | refine x_iteNF ?_
    | refine x_for ?_
    | refine x_par (by with_unfolding_all decide) (by with_unfolding_all decide) ?_
    | refine x_parG ?_
    | refine x_par3 (by with_unfolding_all decide) (by with_unfolding_all decide) (by with_unfolding_all decide) ?_
    | refine x_parG3 ?_
    | refine x_asg ?_
    | refine x_to (by with_unfolding_all decide) ?_
    | refine x_gT (by with_unfolding_all rfl) ?_
    | refine x_g0 ?_
    | refine x_g1 ?_
    | refine x_aug (by with_unfolding_all decide) (by with_unfolding_all rfl) ?_
    | refine x_augG ?_
    | refine x_augS (by with_unfolding_all rfl) ?_
    | refine x_augS1 (by with_unfolding_all rfl) (by with_unfolding_all rfl) (by with_unfolding_all rfl) ?_
    | refine x_augS2 (by with_unfolding_all rfl) (by with_unfolding_all rfl) ?_
    | refine x_put ?_
    | refine x_putG (by with_unfolding_all rfl) ?_
    | refine x_putL (by with_unfolding_all rfl) (by with_unfolding_all rfl) ?_
    | refine x_op ?_
    | refine x_fv ?_
    | refine x_fl ?_
    | refine x_c ?_
    | refine x_var (by with_unfolding_all rfl) ?_
    | refine x_varO (by with_unfolding_all rfl) ?_
    | refine x_bi ?_
    | refine x_nil ?_
    | refine x_dat ?_
    | refine x_handD (by with_unfolding_all rfl) ?_
    | refine x_handO (by with_unfolding_all rfl) ?_
    | refine x_tup ?_
    | refine x_lst ?_
    | refine x_tupG (by with_unfolding_all rfl) (by with_unfolding_all rfl) ?_
    | refine x_if ?_
    | refine x_neg ?_
    | refine x_negG ?_
    | refine x_ixNO (by with_unfolding_all rfl) ?_
    | refine x_ixND (by with_unfolding_all rfl) ?_
    | refine x_ixG (by with_unfolding_all rfl) (by with_unfolding_all rfl) ?_
    | refine x_ixt0 ?_
    | refine x_ixt1 ?_
    | refine x_ixt2 ?_
    | refine x_ixt3 ?_
    | refine x_ixt4 ?_
    | refine x_ixt5 ?_
    | refine x_ixt6 ?_
    | refine x_ixt7 ?_
    | refine x_ixt (by with_unfolding_all rfl) ?_
    | refine x_ixl0 ?_
    | refine x_ixl1 ?_
    | refine x_ixl2 ?_
    | refine x_ixl3 ?_
    | refine x_ixl4 ?_
    | refine x_ixl5 ?_
    | refine x_ixl6 ?_
    | refine x_ixl7 ?_
    | refine x_ixl (by with_unfolding_all rfl) ?_
    | refine x_add ?_
    | refine x_addt ?_ ?_
    | refine x_addl ?_ ?_
    | refine x_sub ?_
    | refine x_mul ?_ ?_
    | refine x_div ?_ ?_
    | refine x_mod ?_ ?_
    | refine x_pow ?_ ?_
    | refine x_lt ?_
    | refine x_le ?_
    | refine x_gt ?_
    | refine x_ge ?_
    | refine x_eq ?_
    | refine x_ne ?_
    | refine x_is ?_
    | refine x_bl ?_
    | refine x_blG ?_
    | refine x_tru ?_
    | refine x_truB ?_
    | refine x_truI ?_
    | refine x_truL ?_
    | refine x_truT ?_
    | refine x_andC ?_
    | refine x_orC ?_
    | refine x_notC ?_
    | refine x_andV ?_
    | refine x_orV ?_
    | refine x_notV ?_
    | refine x_ch ?_
    | refine x_sl ?_
    | refine x_noPart ?_
    | refine x_part ?_
    | refine x_partG ?_
    | refine x_slL ?_
    | refine x_slT ?_
    | refine x_items ?_
    | refine x_itL ?_
    | refine x_itT ?_
    | refine x_range1 ?_
    | refine x_rgG ?_ ?_
    | refine x_range2 ?_
    | refine x_rgG2 ?_ ?_
    | refine x_lc ?_
    | refine x_yes ?_
    | refine x_take (by with_unfolding_all decide) (by with_unfolding_all rfl) ?_
    | refine x_takeD (by with_unfolding_all decide) (by with_unfolding_all rfl) ?_
    | refine x_app ⟨_, (by with_unfolding_all rfl)⟩ ?_
    | refine x_appG (by with_unfolding_all rfl) ?_ ?_
    | refine x_isi ?_
    | refine x_isiT (by with_unfolding_all rfl) (by with_unfolding_all rfl) ?_
    | refine x_isiF (by with_unfolding_all rfl) (by with_unfolding_all rfl) ?_
    | refine x_int ?_
    | refine x_intB ?_
    | refine x_abs ?_
    | refine x_max2 ?_
    | refine x_min2 ?_
    | refine x_len (by with_unfolding_all rfl) ?_
    | refine x_lenT (by with_unfolding_all rfl) ?_
    | refine x_btup (by with_unfolding_all rfl) ?_
    | refine x_btupT ?_
    | refine x_blst (by with_unfolding_all rfl) ?_
    | refine x_blstT ?_
    | refine x_call ?_
    | refine x_callG (by with_unfolding_all rfl) (by with_unfolding_all rfl) (by with_unfolding_all rfl) (by with_unfolding_all rfl) ?_
    | refine x_callK ?_
    | refine x_callKG (by with_unfolding_all rfl) (by with_unfolding_all rfl) (by with_unfolding_all rfl) ?_
  rw [sum_ones]
  exact h _
def W_value : WS := wSeq (wSet [] 2 (wIxN 0 (wC (.int 0)))) (wSeq (wFor (wItems (wIxN 0 (wC (.int 1)))) (wTo [] 3) (wSeq (wIfS (wBl (wOp gLe (wVar 3) (wVar 1))) (wSeq (wSet [] 2 (wOp gAdd (wVar 2) (wC (.int 1)))) (wNext)) (wNext)) (wNext))) (wSeq (wRet (wTake [] 2)) (wNext)))
theorem W_value_ok : ∀ args xp Q, args.length = F_value.ps.length → F_value.sp args xp Q → W_value (endsOf [] 2 Q) (startD 4 args) xp := by
  rintro args xp Q _ ⟨b, ns, m, rfl, hl, h⟩
  unfold W_value endsOf
  repeat' with_reducible first
    | refine x_seq ?_
    | refine x_next ?_
    | refine x_brk ?_
    | refine x_cnt ?_
    | refine x_ret ?_
    | refine x_retN ?_
    | refine x_set (by with_unfolding_all decide) ?_
    | refine x_drop ?_
    | refine x_ifS ?_
    | refine x_ite (fun hc => ?_) (fun hc => ?_)
    | refine x_iteN (fun hc => ?_) (fun hc => ?_)
    | refine x_iteT ?_
    | refine x_iteF ?_
    | refine x_iteNT ?_
    | refine x_iteNF ?_
    | refine x_for ?_
    | refine x_par (by with_unfolding_all decide) (by with_unfolding_all decide) ?_
    | refine x_parG ?_
    | refine x_par3 (by with_unfolding_all decide) (by with_unfolding_all decide) (by with_unfolding_all decide) ?_
    | refine x_parG3 ?_
    | refine x_asg ?_
    | refine x_to (by with_unfolding_all decide) ?_
    | refine x_gT (by with_unfolding_all rfl) ?_
    | refine x_g0 ?_
    | refine x_g1 ?_
    | refine x_aug (by with_unfolding_all decide) (by with_unfolding_all rfl) ?_
    | refine x_augG ?_
    | refine x_augS (by with_unfolding_all rfl) ?_
    | refine x_augS1 (by with_unfolding_all rfl) (by with_unfolding_all rfl) (by with_unfolding_all rfl) ?_
    | refine x_augS2 (by with_unfolding_all rfl) (by with_unfolding_all rfl) ?_
    | refine x_put ?_
    | refine x_putG (by with_unfolding_all rfl) ?_
    | refine x_putL (by with_unfolding_all rfl) (by with_unfolding_all rfl) ?_
    | refine x_op ?_
    | refine x_fv ?_
    | refine x_fl ?_
    | refine x_c ?_
    | refine x_var (by with_unfolding_all rfl) ?_
    | refine x_varO (by with_unfolding_all rfl) ?_
    | refine x_bi ?_
    | refine x_nil ?_
    | refine x_dat ?_
    | refine x_handD (by with_unfolding_all rfl) ?_
    | refine x_handO (by with_unfolding_all rfl) ?_
    | refine x_tup ?_
    | refine x_lst ?_
    | refine x_tupG (by with_unfolding_all rfl) (by with_unfolding_all rfl) ?_
    | refine x_if ?_
    | refine x_neg ?_
    | refine x_negG ?_
    | refine x_ixNO (by with_unfolding_all rfl) ?_
    | refine x_ixND (by with_unfolding_all rfl) ?_
    | refine x_ixG (by with_unfolding_all rfl) (by with_unfolding_all rfl) ?_
    | refine x_ixt0 ?_
    | refine x_ixt1 ?_
    | refine x_ixt2 ?_
    | refine x_ixt3 ?_
    | refine x_ixt4 ?_
    | refine x_ixt5 ?_
    | refine x_ixt6 ?_
    | refine x_ixt7 ?_
    | refine x_ixt (by with_unfolding_all rfl) ?_
    | refine x_ixl0 ?_
    | refine x_ixl1 ?_
    | refine x_ixl2 ?_
    | refine x_ixl3 ?_
    | refine x_ixl4 ?_
    | refine x_ixl5 ?_
    | refine x_ixl6 ?_
    | refine x_ixl7 ?_
    | refine x_ixl (by with_unfolding_all rfl) ?_
    | refine x_add ?_
    | refine x_addt ?_ ?_
    | refine x_addl ?_ ?_
    | refine x_sub ?_
    | refine x_mul ?_ ?_
    | refine x_div ?_ ?_
    | refine x_mod ?_ ?_
    | refine x_pow ?_ ?_
    | refine x_lt ?_
    | refine x_le ?_
    | refine x_gt ?_
    | refine x_ge ?_
    | refine x_eq ?_
    | refine x_ne ?_
    | refine x_is ?_
    | refine x_bl ?_
    | refine x_blG ?_
    | refine x_tru ?_
    | refine x_truB ?_
    | refine x_truI ?_
    | refine x_truL ?_
    | refine x_truT ?_
    | refine x_andC ?_
    | refine x_orC ?_
    | refine x_notC ?_
    | refine x_andV ?_
    | refine x_orV ?_
    | refine x_notV ?_
    | refine x_ch ?_
    | refine x_sl ?_
    | refine x_noPart ?_
    | refine x_part ?_
    | refine x_partG ?_
    | refine x_slL ?_
    | refine x_slT ?_
    | refine x_items ?_
    | refine x_itL ?_
    | refine x_itT ?_
    | refine x_range1 ?_
    | refine x_rgG ?_ ?_
    | refine x_range2 ?_
    | refine x_rgG2 ?_ ?_
    | refine x_lc ?_
    | refine x_yes ?_
    | refine x_take (by with_unfolding_all decide) (by with_unfolding_all rfl) ?_
    | refine x_takeD (by with_unfolding_all decide) (by with_unfolding_all rfl) ?_
    | refine x_app ⟨_, (by with_unfolding_all rfl)⟩ ?_
    | refine x_appG (by with_unfolding_all rfl) ?_ ?_
    | refine x_isi ?_
    | refine x_isiT (by with_unfolding_all rfl) (by with_unfolding_all rfl) ?_
    | refine x_isiF (by with_unfolding_all rfl) (by with_unfolding_all rfl) ?_
    | refine x_int ?_
    | refine x_intB ?_
    | refine x_abs ?_
    | refine x_max2 ?_
    | refine x_min2 ?_
    | refine x_len (by with_unfolding_all rfl) ?_
    | refine x_lenT (by with_unfolding_all rfl) ?_
    | refine x_btup (by with_unfolding_all rfl) ?_
    | refine x_btupT ?_
    | refine x_blst (by with_unfolding_all rfl) ?_
    | refine x_blstT ?_
    | refine x_call ?_
    | refine x_callG (by with_unfolding_all rfl) (by with_unfolding_all rfl) (by with_unfolding_all rfl) (by with_unfolding_all rfl) ?_
    | refine x_callK ?_
    | refine x_callKG (by with_unfolding_all rfl) (by with_unfolding_all rfl) (by with_unfolding_all rfl) ?_
  refine for_rule (fun items s => ∃ (done todo : List Int) (c3 : Option Sl), ns = done ++ todo ∧ items = todo.map PyData.int ∧ s = [some (.dat (.tuple [.int b, .tuple (ns.map PyData.int)])), some (.dat (.int m)), some (.dat (.int (b + cnt done m))), c3]) ?_ ?_ _ _ ⟨[], ns, _, rfl, rfl, by rw [show b + cnt [] m = b by show b + 0 = b; omega]; rfl⟩
  · rintro sd ⟨done, todo, c3, e1, e2, rfl⟩
    cases todo with
    | nil =>
      rw [List.append_nil] at e1
      subst e1
      repeat' with_reducible first
        | refine x_seq ?_
        | refine x_next ?_
        | refine x_brk ?_
        | refine x_cnt ?_
        | refine x_ret ?_
        | refine x_retN ?_
        | refine x_set (by with_unfolding_all decide) ?_
        | refine x_drop ?_
        | refine x_ifS ?_
        | refine x_ite (fun hc => ?_) (fun hc => ?_)
        | refine x_iteN (fun hc => ?_) (fun hc => ?_)
        | refine x_iteT ?_
        | refine x_iteF ?_
        | refine x_iteNT ?_
        | refine x_iteNF ?_
        | refine x_for ?_
        | refine x_par (by with_unfolding_all decide) (by with_unfolding_all decide) ?_
        | refine x_parG ?_
        | refine x_par3 (by with_unfolding_all decide) (by with_unfolding_all decide) (by with_unfolding_all decide) ?_
        | refine x_parG3 ?_
        | refine x_asg ?_
        | refine x_to (by with_unfolding_all decide) ?_
        | refine x_gT (by with_unfolding_all rfl) ?_
        | refine x_g0 ?_
        | refine x_g1 ?_
        | refine x_aug (by with_unfolding_all decide) (by with_unfolding_all rfl) ?_
        | refine x_augG ?_
        | refine x_augS (by with_unfolding_all rfl) ?_
        | refine x_augS1 (by with_unfolding_all rfl) (by with_unfolding_all rfl) (by with_unfolding_all rfl) ?_
        | refine x_augS2 (by with_unfolding_all rfl) (by with_unfolding_all rfl) ?_
        | refine x_put ?_
        | refine x_putG (by with_unfolding_all rfl) ?_
        | refine x_putL (by with_unfolding_all rfl) (by with_unfolding_all rfl) ?_
        | refine x_op ?_
        | refine x_fv ?_
        | refine x_fl ?_
        | refine x_c ?_
        | refine x_var (by with_unfolding_all rfl) ?_
        | refine x_varO (by with_unfolding_all rfl) ?_
        | refine x_bi ?_
        | refine x_nil ?_
        | refine x_dat ?_
        | refine x_handD (by with_unfolding_all rfl) ?_
        | refine x_handO (by with_unfolding_all rfl) ?_
        | refine x_tup ?_
        | refine x_lst ?_
        | refine x_tupG (by with_unfolding_all rfl) (by with_unfolding_all rfl) ?_
        | refine x_if ?_
        | refine x_neg ?_
        | refine x_negG ?_
        | refine x_ixNO (by with_unfolding_all rfl) ?_
        | refine x_ixND (by with_unfolding_all rfl) ?_
        | refine x_ixG (by with_unfolding_all rfl) (by with_unfolding_all rfl) ?_
        | refine x_ixt0 ?_
        | refine x_ixt1 ?_
        | refine x_ixt2 ?_
        | refine x_ixt3 ?_
        | refine x_ixt4 ?_
        | refine x_ixt5 ?_
        | refine x_ixt6 ?_
        | refine x_ixt7 ?_
        | refine x_ixt (by with_unfolding_all rfl) ?_
        | refine x_ixl0 ?_
        | refine x_ixl1 ?_
        | refine x_ixl2 ?_
        | refine x_ixl3 ?_
        | refine x_ixl4 ?_
        | refine x_ixl5 ?_
        | refine x_ixl6 ?_
        | refine x_ixl7 ?_
        | refine x_ixl (by with_unfolding_all rfl) ?_
        | refine x_add ?_
        | refine x_addt ?_ ?_
        | refine x_addl ?_ ?_
        | refine x_sub ?_
        | refine x_mul ?_ ?_
        | refine x_div ?_ ?_
        | refine x_mod ?_ ?_
        | refine x_pow ?_ ?_
        | refine x_lt ?_
        | refine x_le ?_
        | refine x_gt ?_
        | refine x_ge ?_
        | refine x_eq ?_
        | refine x_ne ?_
        | refine x_is ?_
        | refine x_bl ?_
        | refine x_blG ?_
        | refine x_tru ?_
        | refine x_truB ?_
        | refine x_truI ?_
        | refine x_truL ?_
        | refine x_truT ?_
        | refine x_andC ?_
        | refine x_orC ?_
        | refine x_notC ?_
        | refine x_andV ?_
        | refine x_orV ?_
        | refine x_notV ?_
        | refine x_ch ?_
        | refine x_sl ?_
        | refine x_noPart ?_
        | refine x_part ?_
        | refine x_partG ?_
        | refine x_slL ?_
        | refine x_slT ?_
        | refine x_items ?_
        | refine x_itL ?_
        | refine x_itT ?_
        | refine x_range1 ?_
        | refine x_rgG ?_ ?_
        | refine x_range2 ?_
        | refine x_rgG2 ?_ ?_
        | refine x_lc ?_
        | refine x_yes ?_
        | refine x_take (by with_unfolding_all decide) (by with_unfolding_all rfl) ?_
        | refine x_takeD (by with_unfolding_all decide) (by with_unfolding_all rfl) ?_
        | refine x_app ⟨_, (by with_unfolding_all rfl)⟩ ?_
        | refine x_appG (by with_unfolding_all rfl) ?_ ?_
        | refine x_isi ?_
        | refine x_isiT (by with_unfolding_all rfl) (by with_unfolding_all rfl) ?_
        | refine x_isiF (by with_unfolding_all rfl) (by with_unfolding_all rfl) ?_
        | refine x_int ?_
        | refine x_intB ?_
        | refine x_abs ?_
        | refine x_max2 ?_
        | refine x_min2 ?_
        | refine x_len (by with_unfolding_all rfl) ?_
        | refine x_lenT (by with_unfolding_all rfl) ?_
        | refine x_btup (by with_unfolding_all rfl) ?_
        | refine x_btupT ?_
        | refine x_blst (by with_unfolding_all rfl) ?_
        | refine x_blstT ?_
        | refine x_call ?_
        | refine x_callG (by with_unfolding_all rfl) (by with_unfolding_all rfl) (by with_unfolding_all rfl) (by with_unfolding_all rfl) ?_
        | refine x_callK ?_
        | refine x_callKG (by with_unfolding_all rfl) (by with_unfolding_all rfl) (by with_unfolding_all rfl) ?_
      exact h _
    | cons _ _ => cases e2
  · rintro NX x xs sd ⟨done, todo, c3, e1, e2, rfl⟩ ih
    match todo, e2 with
    | n :: todo, e2 =>
      obtain ⟨rfl, rfl⟩ := List.cons.inj e2
      repeat' with_reducible first
        | refine x_seq ?_
        | refine x_next ?_
        | refine x_brk ?_
        | refine x_cnt ?_
        | refine x_ret ?_
        | refine x_retN ?_
        | refine x_set (by with_unfolding_all decide) ?_
        | refine x_drop ?_
        | refine x_ifS ?_
        | refine x_ite (fun hc => ?_) (fun hc => ?_)
        | refine x_iteN (fun hc => ?_) (fun hc => ?_)
        | refine x_iteT ?_
        | refine x_iteF ?_
        | refine x_iteNT ?_
        | refine x_iteNF ?_
        | refine x_for ?_
        | refine x_par (by with_unfolding_all decide) (by with_unfolding_all decide) ?_
        | refine x_parG ?_
        | refine x_par3 (by with_unfolding_all decide) (by with_unfolding_all decide) (by with_unfolding_all decide) ?_
        | refine x_parG3 ?_
        | refine x_asg ?_
        | refine x_to (by with_unfolding_all decide) ?_
        | refine x_gT (by with_unfolding_all rfl) ?_
        | refine x_g0 ?_
        | refine x_g1 ?_
        | refine x_aug (by with_unfolding_all decide) (by with_unfolding_all rfl) ?_
        | refine x_augG ?_
        | refine x_augS (by with_unfolding_all rfl) ?_
        | refine x_augS1 (by with_unfolding_all rfl) (by with_unfolding_all rfl) (by with_unfolding_all rfl) ?_
        | refine x_augS2 (by with_unfolding_all rfl) (by with_unfolding_all rfl) ?_
        | refine x_put ?_
        | refine x_putG (by with_unfolding_all rfl) ?_
        | refine x_putL (by with_unfolding_all rfl) (by with_unfolding_all rfl) ?_
        | refine x_op ?_
        | refine x_fv ?_
        | refine x_fl ?_
        | refine x_c ?_
        | refine x_var (by with_unfolding_all rfl) ?_
        | refine x_varO (by with_unfolding_all rfl) ?_
        | refine x_bi ?_
        | refine x_nil ?_
        | refine x_dat ?_
        | refine x_handD (by with_unfolding_all rfl) ?_
        | refine x_handO (by with_unfolding_all rfl) ?_
        | refine x_tup ?_
        | refine x_lst ?_
        | refine x_tupG (by with_unfolding_all rfl) (by with_unfolding_all rfl) ?_
        | refine x_if ?_
        | refine x_neg ?_
        | refine x_negG ?_
        | refine x_ixNO (by with_unfolding_all rfl) ?_
        | refine x_ixND (by with_unfolding_all rfl) ?_
        | refine x_ixG (by with_unfolding_all rfl) (by with_unfolding_all rfl) ?_
        | refine x_ixt0 ?_
        | refine x_ixt1 ?_
        | refine x_ixt2 ?_
        | refine x_ixt3 ?_
        | refine x_ixt4 ?_
        | refine x_ixt5 ?_
        | refine x_ixt6 ?_
        | refine x_ixt7 ?_
        | refine x_ixt (by with_unfolding_all rfl) ?_
        | refine x_ixl0 ?_
        | refine x_ixl1 ?_
        | refine x_ixl2 ?_
        | refine x_ixl3 ?_
        | refine x_ixl4 ?_
        | refine x_ixl5 ?_
        | refine x_ixl6 ?_
        | refine x_ixl7 ?_
        | refine x_ixl (by with_unfolding_all rfl) ?_
        | refine x_add ?_
        | refine x_addt ?_ ?_
        | refine x_addl ?_ ?_
        | refine x_sub ?_
        | refine x_mul ?_ ?_
        | refine x_div ?_ ?_
        | refine x_mod ?_ ?_
        | refine x_pow ?_ ?_
        | refine x_lt ?_
        | refine x_le ?_
        | refine x_gt ?_
        | refine x_ge ?_
        | refine x_eq ?_
        | refine x_ne ?_
        | refine x_is ?_
        | refine x_bl ?_
        | refine x_blG ?_
        | refine x_tru ?_
        | refine x_truB ?_
        | refine x_truI ?_
        | refine x_truL ?_
        | refine x_truT ?_
        | refine x_andC ?_
        | refine x_orC ?_
        | refine x_notC ?_
        | refine x_andV ?_
        | refine x_orV ?_
        | refine x_notV ?_
        | refine x_ch ?_
        | refine x_sl ?_
        | refine x_noPart ?_
        | refine x_part ?_
        | refine x_partG ?_
        | refine x_slL ?_
        | refine x_slT ?_
        | refine x_items ?_
        | refine x_itL ?_
        | refine x_itT ?_
        | refine x_range1 ?_
        | refine x_rgG ?_ ?_
        | refine x_range2 ?_
        | refine x_rgG2 ?_ ?_
        | refine x_lc ?_
        | refine x_yes ?_
        | refine x_take (by with_unfolding_all decide) (by with_unfolding_all rfl) ?_
        | refine x_takeD (by with_unfolding_all decide) (by with_unfolding_all rfl) ?_
        | refine x_app ⟨_, (by with_unfolding_all rfl)⟩ ?_
        | refine x_appG (by with_unfolding_all rfl) ?_ ?_
        | refine x_isi ?_
        | refine x_isiT (by with_unfolding_all rfl) (by with_unfolding_all rfl) ?_
        | refine x_isiF (by with_unfolding_all rfl) (by with_unfolding_all rfl) ?_
        | refine x_int ?_
        | refine x_intB ?_
        | refine x_abs ?_
        | refine x_max2 ?_
        | refine x_min2 ?_
        | refine x_len (by with_unfolding_all rfl) ?_
        | refine x_lenT (by with_unfolding_all rfl) ?_
        | refine x_btup (by with_unfolding_all rfl) ?_
        | refine x_btupT ?_
        | refine x_blst (by with_unfolding_all rfl) ?_
        | refine x_blstT ?_
        | refine x_call ?_
        | refine x_callG (by with_unfolding_all rfl) (by with_unfolding_all rfl) (by with_unfolding_all rfl) (by with_unfolding_all rfl) ?_
        | refine x_callK ?_
        | refine x_callKG (by with_unfolding_all rfl) (by with_unfolding_all rfl) (by with_unfolding_all rfl) ?_
      · refine ih _ ⟨done ++ [n], todo, some (.dat (.int n)), by rw [e1, List.append_assoc]; rfl, rfl, ?_⟩
        rw [cnt_app, cnt_cons, if_pos hc, show b + (cnt done m + (1 + cnt [] m)) = b + cnt done m + 1 by show b + (cnt done m + (1 + 0)) = _; omega]
        rfl
      · refine ih _ ⟨done ++ [n], todo, some (.dat (.int n)), by rw [e1, List.append_assoc]; rfl, rfl, ?_⟩
        rw [cnt_app, cnt_cons, if_neg hc, show b + (cnt done m + (0 + cnt [] m)) = b + cnt done m by show b + (cnt done m + (0 + 0)) = _; omega]
        rfl
def F_is : Fn := ⟨["told", "due"], [], [], fun args _ Q => ∃ a : Int, args = [.dat (.int a), .dat (.int a)] ∧ ∀ s, Q (.val (.bool true)) s⟩
theorem F_is_mono : MonoF F_is.sp := fun args xp xp' Q Q' _ hq ⟨a, e, h⟩ => ⟨a, e, fun s => hq _ _ (h s)⟩
theorem y_is {a : Int} {xp : Ex → Prop} {Q : Rv → Sd → Prop} (h : ∀ s, Q (.val (.bool true)) s) : F_is.sp [.dat (.int a), .dat (.int a)] xp Q := ⟨a, rfl, h⟩
def W_is : WS := wSeq (wRet (wAndV (wIsi "int" (wVar 0)) (wAndV (wNotV (wIsi "bool" (wVar 0))) (wOp gEq (wVar 0) (wVar 1))))) (wNext)
theorem W_is_ok : ∀ args xp Q, args.length = F_is.ps.length → F_is.sp args xp Q → W_is (endsOf [] 2 Q) (startD 2 args) xp := by
  rintro args xp Q _ ⟨a, rfl, h⟩
  unfold W_is endsOf
  repeat' with_reducible first
    | refine x_seq ?_
    | refine x_next ?_
    | refine x_brk ?_
    | refine x_cnt ?_
    | refine x_ret ?_
    | refine x_retN ?_
    | refine x_set (by with_unfolding_all decide) ?_
    | refine x_drop ?_
    | refine x_ifS ?_
    | refine x_ite (fun hc => ?_) (fun hc => ?_)
    | refine x_iteN (fun hc => ?_) (fun hc => ?_)
    | refine x_iteT ?_
    | refine x_iteF ?_
    | refine x_iteNT ?_
    | refine x_iteNF ?_
    | refine x_for ?_
    | refine x_par (by with_unfolding_all decide) (by with_unfolding_all decide) ?_
    | refine x_parG ?_
    | refine x_par3 (by with_unfolding_all decide) (by with_unfolding_all decide) (by with_unfolding_all decide) ?_
    | refine x_parG3 ?_
    | refine x_asg ?_
    | refine x_to (by with_unfolding_all decide) ?_
    | refine x_gT (by with_unfolding_all rfl) ?_
    | refine x_g0 ?_
    | refine x_g1 ?_
    | refine x_aug (by with_unfolding_all decide) (by with_unfolding_all rfl) ?_
    | refine x_augG ?_
    | refine x_augS (by with_unfolding_all rfl) ?_
    | refine x_augS1 (by with_unfolding_all rfl) (by with_unfolding_all rfl) (by with_unfolding_all rfl) ?_
    | refine x_augS2 (by with_unfolding_all rfl) (by with_unfolding_all rfl) ?_
    | refine x_put ?_
    | refine x_putG (by with_unfolding_all rfl) ?_
    | refine x_putL (by with_unfolding_all rfl) (by with_unfolding_all rfl) ?_
    | refine x_op ?_
    | refine x_fv ?_
    | refine x_fl ?_
    | refine x_c ?_
    | refine x_var (by with_unfolding_all rfl) ?_
    | refine x_varO (by with_unfolding_all rfl) ?_
    | refine x_bi ?_
    | refine x_nil ?_
    | refine x_dat ?_
    | refine x_handD (by with_unfolding_all rfl) ?_
    | refine x_handO (by with_unfolding_all rfl) ?_
    | refine x_tup ?_
    | refine x_lst ?_
    | refine x_tupG (by with_unfolding_all rfl) (by with_unfolding_all rfl) ?_
    | refine x_if ?_
    | refine x_neg ?_
    | refine x_negG ?_
    | refine x_ixNO (by with_unfolding_all rfl) ?_
    | refine x_ixND (by with_unfolding_all rfl) ?_
    | refine x_ixG (by with_unfolding_all rfl) (by with_unfolding_all rfl) ?_
    | refine x_ixt0 ?_
    | refine x_ixt1 ?_
    | refine x_ixt2 ?_
    | refine x_ixt3 ?_
    | refine x_ixt4 ?_
    | refine x_ixt5 ?_
    | refine x_ixt6 ?_
    | refine x_ixt7 ?_
    | refine x_ixt (by with_unfolding_all rfl) ?_
    | refine x_ixl0 ?_
    | refine x_ixl1 ?_
    | refine x_ixl2 ?_
    | refine x_ixl3 ?_
    | refine x_ixl4 ?_
    | refine x_ixl5 ?_
    | refine x_ixl6 ?_
    | refine x_ixl7 ?_
    | refine x_ixl (by with_unfolding_all rfl) ?_
    | refine x_add ?_
    | refine x_addt ?_ ?_
    | refine x_addl ?_ ?_
    | refine x_sub ?_
    | refine x_mul ?_ ?_
    | refine x_div ?_ ?_
    | refine x_mod ?_ ?_
    | refine x_pow ?_ ?_
    | refine x_lt ?_
    | refine x_le ?_
    | refine x_gt ?_
    | refine x_ge ?_
    | refine x_eq ?_
    | refine x_ne ?_
    | refine x_is ?_
    | refine x_bl ?_
    | refine x_blG ?_
    | refine x_tru ?_
    | refine x_truB ?_
    | refine x_truI ?_
    | refine x_truL ?_
    | refine x_truT ?_
    | refine x_andC ?_
    | refine x_orC ?_
    | refine x_notC ?_
    | refine x_andV ?_
    | refine x_orV ?_
    | refine x_notV ?_
    | refine x_ch ?_
    | refine x_sl ?_
    | refine x_noPart ?_
    | refine x_part ?_
    | refine x_partG ?_
    | refine x_slL ?_
    | refine x_slT ?_
    | refine x_items ?_
    | refine x_itL ?_
    | refine x_itT ?_
    | refine x_range1 ?_
    | refine x_rgG ?_ ?_
    | refine x_range2 ?_
    | refine x_rgG2 ?_ ?_
    | refine x_lc ?_
    | refine x_yes ?_
    | refine x_take (by with_unfolding_all decide) (by with_unfolding_all rfl) ?_
    | refine x_takeD (by with_unfolding_all decide) (by with_unfolding_all rfl) ?_
    | refine x_app ⟨_, (by with_unfolding_all rfl)⟩ ?_
    | refine x_appG (by with_unfolding_all rfl) ?_ ?_
    | refine x_isi ?_
    | refine x_isiT (by with_unfolding_all rfl) (by with_unfolding_all rfl) ?_
    | refine x_isiF (by with_unfolding_all rfl) (by with_unfolding_all rfl) ?_
    | refine x_int ?_
    | refine x_intB ?_
    | refine x_abs ?_
    | refine x_max2 ?_
    | refine x_min2 ?_
    | refine x_len (by with_unfolding_all rfl) ?_
    | refine x_lenT (by with_unfolding_all rfl) ?_
    | refine x_btup (by with_unfolding_all rfl) ?_
    | refine x_btupT ?_
    | refine x_blst (by with_unfolding_all rfl) ?_
    | refine x_blstT ?_
    | refine x_call ?_
    | refine x_callG (by with_unfolding_all rfl) (by with_unfolding_all rfl) (by with_unfolding_all rfl) (by with_unfolding_all rfl) ?_
    | refine x_callK ?_
    | refine x_callKG (by with_unfolding_all rfl) (by with_unfolding_all rfl) (by with_unfolding_all rfl) ?_
  rw [decide_eq_true (rfl : a = a)]
  exact h _
def Wlaw : WS := wSeq (wSet [] 1 (wCall F_start (wHand 0 (wNil)))) (wSeq (wFor (wRange1 (wDat (wC (.int 6)) (wNil))) (wTo [] 2) (wSeq (wSet [] 3 (wCall F_table (wHand 1 (wDat (wCall F_pick (wHand 1 (wDat (wLst (wDat (wTup (wDat (wC (.int 1)) (wDat (wC (.int 13)) (wNil)))) (wDat (wTup (wDat (wC (.int 900)) (wDat (wC (.int 1000)) (wNil)))) (wDat (wTup (wDat (wC (.int 1)) (wDat (wC (.int 2000)) (wNil)))) (wDat (wTup (wDat (wC (.int 1989)) (wDat (wC (.int 2000)) (wNil)))) (wNil)))))) (wNil)))) (wNil))))) (wSeq (wSet [] 4 (wLst (wDat (wC (.int 0)) (wDat (wC (.int 1)) (wDat (wC (.int 1999)) (wDat (wC (.int 2000)) (wDat (wC (.int 2001)) (wDat (wCall F_take (wHand 1 (wDat (wC (.int 2001)) (wNil)))) (wDat (wCall F_take (wHand 1 (wDat (wOp gPow (wC (.int 10)) (wC (.int 29))) (wNil)))) (wDat (wOp gPow (wC (.int 10)) (wC (.int 29))) (wNil))))))))))) (wSeq (wFor (wItems (wIxN 3 (wC (.int 1)))) (wTo [] 5) (wSeq (wSet [] 4 (wOp gAdd (wVar 4) (wLst (wDat (wOp gSub (wVar 5) (wC (.int 1))) (wDat (wVar 5) (wDat (wOp gAdd (wVar 5) (wC (.int 1))) (wNil))))))) (wNext))) (wSeq (wFor (wItems (wVar 4)) (wTo [] 6) (wSeq (wSet [] 7 (wCall F_value (wHand 3 (wHand 6 (wNil))))) (wSeq (wIfS (wOrC (wNotC (wTru (wCall F_is (wDat (wCall Fvalue_at (wHand 3 (wHand 6 (wNil)))) (wHand 7 (wNil)))))) (wNotC (wTru (wCall F_is (wDat (wCallK Fvalue_at [0, 1] (wDat (wVar 3) (wDat (wVar 6) (wNil)))) (wHand 7 (wNil))))))) (wSeq (wRet (wC (.bool false))) (wNext)) (wNext)) (wSeq (wSet [] 8 (wCall F_value (wHand 3 (wDat (wOp gAdd (wVar 6) (wC (.int 1))) (wNil))))) (wSeq (wIfS (wOrC (wNotC (wTru (wCall F_is (wDat (wCall Fvalue_at (wHand 3 (wDat (wOp gAdd (wVar 6) (wC (.int 1))) (wNil)))) (wHand 8 (wNil)))))) (wBl (wOp (gIn true) (wOp gSub (wVar 8) (wVar 7)) (wTup (wDat (wC (.int 0)) (wDat (wC (.int 1)) (wNil))))))) (wSeq (wRet (wC (.bool false))) (wNext)) (wNext)) (wNext)))))) (wNext)))))) (wSeq (wRet (wC (.bool true))) (wNext)))
theorem Wlaw_ok : ∀ args xp Q, args.length = F_law.ps.length → F_law.sp args xp Q → Wlaw (endsOf [] 1 Q) (startD 9 args) xp := by
  rintro args xp Q _ ⟨ns, hns, rfl, h⟩
  unfold Wlaw endsOf
  repeat' with_reducible first
    | refine y_start (fun st gst => ?_)
    | refine x_seq ?_
    | refine x_next ?_
    | refine x_brk ?_
    | refine x_cnt ?_
    | refine x_ret ?_
    | refine x_retN ?_
    | refine x_set (by with_unfolding_all decide) ?_
    | refine x_drop ?_
    | refine x_ifS ?_
    | refine x_ite (fun hc => ?_) (fun hc => ?_)
    | refine x_iteN (fun hc => ?_) (fun hc => ?_)
    | refine x_iteT ?_
    | refine x_iteF ?_
    | refine x_iteNT ?_
    | refine x_iteNF ?_
    | refine x_for ?_
    | refine x_par (by with_unfolding_all decide) (by with_unfolding_all decide) ?_
    | refine x_parG ?_
    | refine x_par3 (by with_unfolding_all decide) (by with_unfolding_all decide) (by with_unfolding_all decide) ?_
    | refine x_parG3 ?_
    | refine x_asg ?_
    | refine x_to (by with_unfolding_all decide) ?_
    | refine x_gT (by with_unfolding_all rfl) ?_
    | refine x_g0 ?_
    | refine x_g1 ?_
    | refine x_aug (by with_unfolding_all decide) (by with_unfolding_all rfl) ?_
    | refine x_augG ?_
    | refine x_augS (by with_unfolding_all rfl) ?_
    | refine x_augS1 (by with_unfolding_all rfl) (by with_unfolding_all rfl) (by with_unfolding_all rfl) ?_
    | refine x_augS2 (by with_unfolding_all rfl) (by with_unfolding_all rfl) ?_
    | refine x_put ?_
    | refine x_putG (by with_unfolding_all rfl) ?_
    | refine x_putL (by with_unfolding_all rfl) (by with_unfolding_all rfl) ?_
    | refine x_op ?_
    | refine x_fv ?_
    | refine x_fl ?_
    | refine x_c ?_
    | refine x_var (by with_unfolding_all rfl) ?_
    | refine x_varO (by with_unfolding_all rfl) ?_
    | refine x_bi ?_
    | refine x_nil ?_
    | refine x_dat ?_
    | refine x_handD (by with_unfolding_all rfl) ?_
    | refine x_handO (by with_unfolding_all rfl) ?_
    | refine x_tup ?_
    | refine x_lst ?_
    | refine x_tupG (by with_unfolding_all rfl) (by with_unfolding_all rfl) ?_
    | refine x_if ?_
    | refine x_neg ?_
    | refine x_negG ?_
    | refine x_ixNO (by with_unfolding_all rfl) ?_
    | refine x_ixND (by with_unfolding_all rfl) ?_
    | refine x_ixG (by with_unfolding_all rfl) (by with_unfolding_all rfl) ?_
    | refine x_ixt0 ?_
    | refine x_ixt1 ?_
    | refine x_ixt2 ?_
    | refine x_ixt3 ?_
    | refine x_ixt4 ?_
    | refine x_ixt5 ?_
    | refine x_ixt6 ?_
    | refine x_ixt7 ?_
    | refine x_ixt (by with_unfolding_all rfl) ?_
    | refine x_ixl0 ?_
    | refine x_ixl1 ?_
    | refine x_ixl2 ?_
    | refine x_ixl3 ?_
    | refine x_ixl4 ?_
    | refine x_ixl5 ?_
    | refine x_ixl6 ?_
    | refine x_ixl7 ?_
    | refine x_ixl (by with_unfolding_all rfl) ?_
    | refine x_add ?_
    | refine x_addt ?_ ?_
    | refine x_addl ?_ ?_
    | refine x_sub ?_
    | refine x_mul ?_ ?_
    | refine x_div ?_ ?_
    | refine x_mod ?_ ?_
    | refine x_pow ?_ ?_
    | refine x_lt ?_
    | refine x_le ?_
    | refine x_gt ?_
    | refine x_ge ?_
    | refine x_eq ?_
    | refine x_ne ?_
    | refine x_is ?_
    | refine x_bl ?_
    | refine x_blG ?_
    | refine x_tru ?_
    | refine x_truB ?_
    | refine x_truI ?_
    | refine x_truL ?_
    | refine x_truT ?_
    | refine x_andC ?_
    | refine x_orC ?_
    | refine x_notC ?_
    | refine x_andV ?_
    | refine x_orV ?_
    | refine x_notV ?_
    | refine x_ch ?_
    | refine x_sl ?_
    | refine x_noPart ?_
    | refine x_part ?_
    | refine x_partG ?_
    | refine x_slL ?_
    | refine x_slT ?_
    | refine x_items ?_
    | refine x_itL ?_
    | refine x_itT ?_
    | refine x_range1 ?_
    | refine x_rgG ?_ ?_
    | refine x_range2 ?_
    | refine x_rgG2 ?_ ?_
    | refine x_lc ?_
    | refine x_yes ?_
    | refine x_take (by with_unfolding_all decide) (by with_unfolding_all rfl) ?_
    | refine x_takeD (by with_unfolding_all decide) (by with_unfolding_all rfl) ?_
    | refine x_app ⟨_, (by with_unfolding_all rfl)⟩ ?_
    | refine x_appG (by with_unfolding_all rfl) ?_ ?_
    | refine x_isi ?_
    | refine x_isiT (by with_unfolding_all rfl) (by with_unfolding_all rfl) ?_
    | refine x_isiF (by with_unfolding_all rfl) (by with_unfolding_all rfl) ?_
    | refine x_int ?_
    | refine x_intB ?_
    | refine x_abs ?_
    | refine x_max2 ?_
    | refine x_min2 ?_
    | refine x_len (by with_unfolding_all rfl) ?_
    | refine x_lenT (by with_unfolding_all rfl) ?_
    | refine x_btup (by with_unfolding_all rfl) ?_
    | refine x_btupT ?_
    | refine x_blst (by with_unfolding_all rfl) ?_
    | refine x_blstT ?_
    | refine x_call ?_
    | refine x_callG (by with_unfolding_all rfl) (by with_unfolding_all rfl) (by with_unfolding_all rfl) (by with_unfolding_all rfl) ?_
    | refine x_callK ?_
    | refine x_callKG (by with_unfolding_all rfl) (by with_unfolding_all rfl) (by with_unfolding_all rfl) ?_
  · decide
  refine rg_rule (fun k s => ∃ (st : List D) (c2 c3 c4 c5 c6 c7 c8 : Option Sl), s = [some (.dat (.list (ns.map PyData.int))), some (.ob (.L st)), c2, c3, c4, c5, c6, c7, c8] ∧ Good st) 0 6 (by decide) ⟨_, _, _, _, _, _, _, _, rfl, gst⟩ ?_ ?_
  · rintro sd ⟨st, c2, c3, c4, c5, c6, c7, c8, rfl, gs⟩
    repeat' with_reducible first
      | refine x_seq ?_
      | refine x_next ?_
      | refine x_brk ?_
      | refine x_cnt ?_
      | refine x_ret ?_
      | refine x_retN ?_
      | refine x_set (by with_unfolding_all decide) ?_
      | refine x_drop ?_
      | refine x_ifS ?_
      | refine x_ite (fun hc => ?_) (fun hc => ?_)
      | refine x_iteN (fun hc => ?_) (fun hc => ?_)
      | refine x_iteT ?_
      | refine x_iteF ?_
      | refine x_iteNT ?_
      | refine x_iteNF ?_
      | refine x_for ?_
      | refine x_par (by with_unfolding_all decide) (by with_unfolding_all decide) ?_
      | refine x_parG ?_
      | refine x_par3 (by with_unfolding_all decide) (by with_unfolding_all decide) (by with_unfolding_all decide) ?_
      | refine x_parG3 ?_
      | refine x_asg ?_
      | refine x_to (by with_unfolding_all decide) ?_
      | refine x_gT (by with_unfolding_all rfl) ?_
      | refine x_g0 ?_
      | refine x_g1 ?_
      | refine x_aug (by with_unfolding_all decide) (by with_unfolding_all rfl) ?_
      | refine x_augG ?_
      | refine x_augS (by with_unfolding_all rfl) ?_
      | refine x_augS1 (by with_unfolding_all rfl) (by with_unfolding_all rfl) (by with_unfolding_all rfl) ?_
      | refine x_augS2 (by with_unfolding_all rfl) (by with_unfolding_all rfl) ?_
      | refine x_put ?_
      | refine x_putG (by with_unfolding_all rfl) ?_
      | refine x_putL (by with_unfolding_all rfl) (by with_unfolding_all rfl) ?_
      | refine x_op ?_
      | refine x_fv ?_
      | refine x_fl ?_
      | refine x_c ?_
      | refine x_var (by with_unfolding_all rfl) ?_
      | refine x_varO (by with_unfolding_all rfl) ?_
      | refine x_bi ?_
      | refine x_nil ?_
      | refine x_dat ?_
      | refine x_handD (by with_unfolding_all rfl) ?_
      | refine x_handO (by with_unfolding_all rfl) ?_
      | refine x_tup ?_
      | refine x_lst ?_
      | refine x_tupG (by with_unfolding_all rfl) (by with_unfolding_all rfl) ?_
      | refine x_if ?_
      | refine x_neg ?_
      | refine x_negG ?_
      | refine x_ixNO (by with_unfolding_all rfl) ?_
      | refine x_ixND (by with_unfolding_all rfl) ?_
      | refine x_ixG (by with_unfolding_all rfl) (by with_unfolding_all rfl) ?_
      | refine x_ixt0 ?_
      | refine x_ixt1 ?_
      | refine x_ixt2 ?_
      | refine x_ixt3 ?_
      | refine x_ixt4 ?_
      | refine x_ixt5 ?_
      | refine x_ixt6 ?_
      | refine x_ixt7 ?_
      | refine x_ixt (by with_unfolding_all rfl) ?_
      | refine x_ixl0 ?_
      | refine x_ixl1 ?_
      | refine x_ixl2 ?_
      | refine x_ixl3 ?_
      | refine x_ixl4 ?_
      | refine x_ixl5 ?_
      | refine x_ixl6 ?_
      | refine x_ixl7 ?_
      | refine x_ixl (by with_unfolding_all rfl) ?_
      | refine x_add ?_
      | refine x_addt ?_ ?_
      | refine x_addl ?_ ?_
      | refine x_sub ?_
      | refine x_mul ?_ ?_
      | refine x_div ?_ ?_
      | refine x_mod ?_ ?_
      | refine x_pow ?_ ?_
      | refine x_lt ?_
      | refine x_le ?_
      | refine x_gt ?_
      | refine x_ge ?_
      | refine x_eq ?_
      | refine x_ne ?_
      | refine x_is ?_
      | refine x_bl ?_
      | refine x_blG ?_
      | refine x_tru ?_
      | refine x_truB ?_
      | refine x_truI ?_
      | refine x_truL ?_
      | refine x_truT ?_
      | refine x_andC ?_
      | refine x_orC ?_
      | refine x_notC ?_
      | refine x_andV ?_
      | refine x_orV ?_
      | refine x_notV ?_
      | refine x_ch ?_
      | refine x_sl ?_
      | refine x_noPart ?_
      | refine x_part ?_
      | refine x_partG ?_
      | refine x_slL ?_
      | refine x_slT ?_
      | refine x_items ?_
      | refine x_itL ?_
      | refine x_itT ?_
      | refine x_range1 ?_
      | refine x_rgG ?_ ?_
      | refine x_range2 ?_
      | refine x_rgG2 ?_ ?_
      | refine x_lc ?_
      | refine x_yes ?_
      | refine x_take (by with_unfolding_all decide) (by with_unfolding_all rfl) ?_
      | refine x_takeD (by with_unfolding_all decide) (by with_unfolding_all rfl) ?_
      | refine x_app ⟨_, (by with_unfolding_all rfl)⟩ ?_
      | refine x_appG (by with_unfolding_all rfl) ?_ ?_
      | refine x_isi ?_
      | refine x_isiT (by with_unfolding_all rfl) (by with_unfolding_all rfl) ?_
      | refine x_isiF (by with_unfolding_all rfl) (by with_unfolding_all rfl) ?_
      | refine x_int ?_
      | refine x_intB ?_
      | refine x_abs ?_
      | refine x_max2 ?_
      | refine x_min2 ?_
      | refine x_len (by with_unfolding_all rfl) ?_
      | refine x_lenT (by with_unfolding_all rfl) ?_
      | refine x_btup (by with_unfolding_all rfl) ?_
      | refine x_btupT ?_
      | refine x_blst (by with_unfolding_all rfl) ?_
      | refine x_blstT ?_
      | refine x_call ?_
      | refine x_callG (by with_unfolding_all rfl) (by with_unfolding_all rfl) (by with_unfolding_all rfl) (by with_unfolding_all rfl) ?_
      | refine x_callK ?_
      | refine x_callKG (by with_unfolding_all rfl) (by with_unfolding_all rfl) (by with_unfolding_all rfl) ?_
    exact h _
  · rintro NX k sd k0 k1 ⟨st, c2, c3, c4, c5, c6, c7, c8, rfl, gs⟩ ih
    repeat' with_reducible first
      | refine y_pick rfl (by assumption) ⟨by simp, by simp⟩ (fun d zs md gz => ?_)
      | refine x_seq ?_
      | refine x_next ?_
      | refine x_brk ?_
      | refine x_cnt ?_
      | refine x_ret ?_
      | refine x_retN ?_
      | refine x_set (by with_unfolding_all decide) ?_
      | refine x_drop ?_
      | refine x_ifS ?_
      | refine x_ite (fun hc => ?_) (fun hc => ?_)
      | refine x_iteN (fun hc => ?_) (fun hc => ?_)
      | refine x_iteT ?_
      | refine x_iteF ?_
      | refine x_iteNT ?_
      | refine x_iteNF ?_
      | refine x_for ?_
      | refine x_par (by with_unfolding_all decide) (by with_unfolding_all decide) ?_
      | refine x_parG ?_
      | refine x_par3 (by with_unfolding_all decide) (by with_unfolding_all decide) (by with_unfolding_all decide) ?_
      | refine x_parG3 ?_
      | refine x_asg ?_
      | refine x_to (by with_unfolding_all decide) ?_
      | refine x_gT (by with_unfolding_all rfl) ?_
      | refine x_g0 ?_
      | refine x_g1 ?_
      | refine x_aug (by with_unfolding_all decide) (by with_unfolding_all rfl) ?_
      | refine x_augG ?_
      | refine x_augS (by with_unfolding_all rfl) ?_
      | refine x_augS1 (by with_unfolding_all rfl) (by with_unfolding_all rfl) (by with_unfolding_all rfl) ?_
      | refine x_augS2 (by with_unfolding_all rfl) (by with_unfolding_all rfl) ?_
      | refine x_put ?_
      | refine x_putG (by with_unfolding_all rfl) ?_
      | refine x_putL (by with_unfolding_all rfl) (by with_unfolding_all rfl) ?_
      | refine x_op ?_
      | refine x_fv ?_
      | refine x_fl ?_
      | refine x_c ?_
      | refine x_var (by with_unfolding_all rfl) ?_
      | refine x_varO (by with_unfolding_all rfl) ?_
      | refine x_bi ?_
      | refine x_nil ?_
      | refine x_dat ?_
      | refine x_handD (by with_unfolding_all rfl) ?_
      | refine x_handO (by with_unfolding_all rfl) ?_
      | refine x_tup ?_
      | refine x_lst ?_
      | refine x_tupG (by with_unfolding_all rfl) (by with_unfolding_all rfl) ?_
      | refine x_if ?_
      | refine x_neg ?_
      | refine x_negG ?_
      | refine x_ixNO (by with_unfolding_all rfl) ?_
      | refine x_ixND (by with_unfolding_all rfl) ?_
      | refine x_ixG (by with_unfolding_all rfl) (by with_unfolding_all rfl) ?_
      | refine x_ixt0 ?_
      | refine x_ixt1 ?_
      | refine x_ixt2 ?_
      | refine x_ixt3 ?_
      | refine x_ixt4 ?_
      | refine x_ixt5 ?_
      | refine x_ixt6 ?_
      | refine x_ixt7 ?_
      | refine x_ixt (by with_unfolding_all rfl) ?_
      | refine x_ixl0 ?_
      | refine x_ixl1 ?_
      | refine x_ixl2 ?_
      | refine x_ixl3 ?_
      | refine x_ixl4 ?_
      | refine x_ixl5 ?_
      | refine x_ixl6 ?_
      | refine x_ixl7 ?_
      | refine x_ixl (by with_unfolding_all rfl) ?_
      | refine x_add ?_
      | refine x_addt ?_ ?_
      | refine x_addl ?_ ?_
      | refine x_sub ?_
      | refine x_mul ?_ ?_
      | refine x_div ?_ ?_
      | refine x_mod ?_ ?_
      | refine x_pow ?_ ?_
      | refine x_lt ?_
      | refine x_le ?_
      | refine x_gt ?_
      | refine x_ge ?_
      | refine x_eq ?_
      | refine x_ne ?_
      | refine x_is ?_
      | refine x_bl ?_
      | refine x_blG ?_
      | refine x_tru ?_
      | refine x_truB ?_
      | refine x_truI ?_
      | refine x_truL ?_
      | refine x_truT ?_
      | refine x_andC ?_
      | refine x_orC ?_
      | refine x_notC ?_
      | refine x_andV ?_
      | refine x_orV ?_
      | refine x_notV ?_
      | refine x_ch ?_
      | refine x_sl ?_
      | refine x_noPart ?_
      | refine x_part ?_
      | refine x_partG ?_
      | refine x_slL ?_
      | refine x_slT ?_
      | refine x_items ?_
      | refine x_itL ?_
      | refine x_itT ?_
      | refine x_range1 ?_
      | refine x_rgG ?_ ?_
      | refine x_range2 ?_
      | refine x_rgG2 ?_ ?_
      | refine x_lc ?_
      | refine x_yes ?_
      | refine x_take (by with_unfolding_all decide) (by with_unfolding_all rfl) ?_
      | refine x_takeD (by with_unfolding_all decide) (by with_unfolding_all rfl) ?_
      | refine x_app ⟨_, (by with_unfolding_all rfl)⟩ ?_
      | refine x_appG (by with_unfolding_all rfl) ?_ ?_
      | refine x_isi ?_
      | refine x_isiT (by with_unfolding_all rfl) (by with_unfolding_all rfl) ?_
      | refine x_isiF (by with_unfolding_all rfl) (by with_unfolding_all rfl) ?_
      | refine x_int ?_
      | refine x_intB ?_
      | refine x_abs ?_
      | refine x_max2 ?_
      | refine x_min2 ?_
      | refine x_len (by with_unfolding_all rfl) ?_
      | refine x_lenT (by with_unfolding_all rfl) ?_
      | refine x_btup (by with_unfolding_all rfl) ?_
      | refine x_btupT ?_
      | refine x_blst (by with_unfolding_all rfl) ?_
      | refine x_blstT ?_
      | refine x_call ?_
      | refine x_callG (by with_unfolding_all rfl) (by with_unfolding_all rfl) (by with_unfolding_all rfl) (by with_unfolding_all rfl) ?_
      | refine x_callK ?_
      | refine x_callKG (by with_unfolding_all rfl) (by with_unfolding_all rfl) (by with_unfolding_all rfl) ?_
    have hd : ∃ (e g : Int), d = .tuple [.int e, .int g] ∧ 1 ≤ e ∧ e ≤ g ∧ g ≤ 2000 := by
      simp only [List.mem_cons, List.not_mem_nil, or_false] at md
      rcases md with rfl | rfl | rfl | rfl <;> exact ⟨_, _, rfl, by decide, by decide, by decide⟩
    obtain ⟨e, g, rfl, he⟩ := hd
    repeat' with_reducible first
      | refine y_table (by assumption) he (fun d zs hd gz => ?_)
      | refine x_seq ?_
      | refine x_next ?_
      | refine x_brk ?_
      | refine x_cnt ?_
      | refine x_ret ?_
      | refine x_retN ?_
      | refine x_set (by with_unfolding_all decide) ?_
      | refine x_drop ?_
      | refine x_ifS ?_
      | refine x_ite (fun hc => ?_) (fun hc => ?_)
      | refine x_iteN (fun hc => ?_) (fun hc => ?_)
      | refine x_iteT ?_
      | refine x_iteF ?_
      | refine x_iteNT ?_
      | refine x_iteNF ?_
      | refine x_for ?_
      | refine x_par (by with_unfolding_all decide) (by with_unfolding_all decide) ?_
      | refine x_parG ?_
      | refine x_par3 (by with_unfolding_all decide) (by with_unfolding_all decide) (by with_unfolding_all decide) ?_
      | refine x_parG3 ?_
      | refine x_asg ?_
      | refine x_to (by with_unfolding_all decide) ?_
      | refine x_gT (by with_unfolding_all rfl) ?_
      | refine x_g0 ?_
      | refine x_g1 ?_
      | refine x_aug (by with_unfolding_all decide) (by with_unfolding_all rfl) ?_
      | refine x_augG ?_
      | refine x_augS (by with_unfolding_all rfl) ?_
      | refine x_augS1 (by with_unfolding_all rfl) (by with_unfolding_all rfl) (by with_unfolding_all rfl) ?_
      | refine x_augS2 (by with_unfolding_all rfl) (by with_unfolding_all rfl) ?_
      | refine x_put ?_
      | refine x_putG (by with_unfolding_all rfl) ?_
      | refine x_putL (by with_unfolding_all rfl) (by with_unfolding_all rfl) ?_
      | refine x_op ?_
      | refine x_fv ?_
      | refine x_fl ?_
      | refine x_c ?_
      | refine x_var (by with_unfolding_all rfl) ?_
      | refine x_varO (by with_unfolding_all rfl) ?_
      | refine x_bi ?_
      | refine x_nil ?_
      | refine x_dat ?_
      | refine x_handD (by with_unfolding_all rfl) ?_
      | refine x_handO (by with_unfolding_all rfl) ?_
      | refine x_tup ?_
      | refine x_lst ?_
      | refine x_tupG (by with_unfolding_all rfl) (by with_unfolding_all rfl) ?_
      | refine x_if ?_
      | refine x_neg ?_
      | refine x_negG ?_
      | refine x_ixNO (by with_unfolding_all rfl) ?_
      | refine x_ixND (by with_unfolding_all rfl) ?_
      | refine x_ixG (by with_unfolding_all rfl) (by with_unfolding_all rfl) ?_
      | refine x_ixt0 ?_
      | refine x_ixt1 ?_
      | refine x_ixt2 ?_
      | refine x_ixt3 ?_
      | refine x_ixt4 ?_
      | refine x_ixt5 ?_
      | refine x_ixt6 ?_
      | refine x_ixt7 ?_
      | refine x_ixt (by with_unfolding_all rfl) ?_
      | refine x_ixl0 ?_
      | refine x_ixl1 ?_
      | refine x_ixl2 ?_
      | refine x_ixl3 ?_
      | refine x_ixl4 ?_
      | refine x_ixl5 ?_
      | refine x_ixl6 ?_
      | refine x_ixl7 ?_
      | refine x_ixl (by with_unfolding_all rfl) ?_
      | refine x_add ?_
      | refine x_addt ?_ ?_
      | refine x_addl ?_ ?_
      | refine x_sub ?_
      | refine x_mul ?_ ?_
      | refine x_div ?_ ?_
      | refine x_mod ?_ ?_
      | refine x_pow ?_ ?_
      | refine x_lt ?_
      | refine x_le ?_
      | refine x_gt ?_
      | refine x_ge ?_
      | refine x_eq ?_
      | refine x_ne ?_
      | refine x_is ?_
      | refine x_bl ?_
      | refine x_blG ?_
      | refine x_tru ?_
      | refine x_truB ?_
      | refine x_truI ?_
      | refine x_truL ?_
      | refine x_truT ?_
      | refine x_andC ?_
      | refine x_orC ?_
      | refine x_notC ?_
      | refine x_andV ?_
      | refine x_orV ?_
      | refine x_notV ?_
      | refine x_ch ?_
      | refine x_sl ?_
      | refine x_noPart ?_
      | refine x_part ?_
      | refine x_partG ?_
      | refine x_slL ?_
      | refine x_slT ?_
      | refine x_items ?_
      | refine x_itL ?_
      | refine x_itT ?_
      | refine x_range1 ?_
      | refine x_rgG ?_ ?_
      | refine x_range2 ?_
      | refine x_rgG2 ?_ ?_
      | refine x_lc ?_
      | refine x_yes ?_
      | refine x_take (by with_unfolding_all decide) (by with_unfolding_all rfl) ?_
      | refine x_takeD (by with_unfolding_all decide) (by with_unfolding_all rfl) ?_
      | refine x_app ⟨_, (by with_unfolding_all rfl)⟩ ?_
      | refine x_appG (by with_unfolding_all rfl) ?_ ?_
      | refine x_isi ?_
      | refine x_isiT (by with_unfolding_all rfl) (by with_unfolding_all rfl) ?_
      | refine x_isiF (by with_unfolding_all rfl) (by with_unfolding_all rfl) ?_
      | refine x_int ?_
      | refine x_intB ?_
      | refine x_abs ?_
      | refine x_max2 ?_
      | refine x_min2 ?_
      | refine x_len (by with_unfolding_all rfl) ?_
      | refine x_lenT (by with_unfolding_all rfl) ?_
      | refine x_btup (by with_unfolding_all rfl) ?_
      | refine x_btupT ?_
      | refine x_blst (by with_unfolding_all rfl) ?_
      | refine x_blstT ?_
      | refine x_call ?_
      | refine x_callG (by with_unfolding_all rfl) (by with_unfolding_all rfl) (by with_unfolding_all rfl) (by with_unfolding_all rfl) ?_
      | refine x_callK ?_
      | refine x_callKG (by with_unfolding_all rfl) (by with_unfolding_all rfl) (by with_unfolding_all rfl) ?_
    obtain ⟨v, ts, rfl, hv, hts, hpw, htl⟩ := hd
    repeat' with_reducible first
      | refine y_take (by assumption) ⟨by omega, by omega⟩ (fun q zs hq1 hq2 gz => ?_)
      | refine y_takeW (by assumption) (by decide) (fun q zs hq1 hq2 gz => ?_)
      | refine x_seq ?_
      | refine x_next ?_
      | refine x_brk ?_
      | refine x_cnt ?_
      | refine x_ret ?_
      | refine x_retN ?_
      | refine x_set (by with_unfolding_all decide) ?_
      | refine x_drop ?_
      | refine x_ifS ?_
      | refine x_ite (fun hc => ?_) (fun hc => ?_)
      | refine x_iteN (fun hc => ?_) (fun hc => ?_)
      | refine x_iteT ?_
      | refine x_iteF ?_
      | refine x_iteNT ?_
      | refine x_iteNF ?_
      | refine x_for ?_
      | refine x_par (by with_unfolding_all decide) (by with_unfolding_all decide) ?_
      | refine x_parG ?_
      | refine x_par3 (by with_unfolding_all decide) (by with_unfolding_all decide) (by with_unfolding_all decide) ?_
      | refine x_parG3 ?_
      | refine x_asg ?_
      | refine x_to (by with_unfolding_all decide) ?_
      | refine x_gT (by with_unfolding_all rfl) ?_
      | refine x_g0 ?_
      | refine x_g1 ?_
      | refine x_aug (by with_unfolding_all decide) (by with_unfolding_all rfl) ?_
      | refine x_augG ?_
      | refine x_augS (by with_unfolding_all rfl) ?_
      | refine x_augS1 (by with_unfolding_all rfl) (by with_unfolding_all rfl) (by with_unfolding_all rfl) ?_
      | refine x_augS2 (by with_unfolding_all rfl) (by with_unfolding_all rfl) ?_
      | refine x_put ?_
      | refine x_putG (by with_unfolding_all rfl) ?_
      | refine x_putL (by with_unfolding_all rfl) (by with_unfolding_all rfl) ?_
      | refine x_op ?_
      | refine x_fv ?_
      | refine x_fl ?_
      | refine x_c ?_
      | refine x_var (by with_unfolding_all rfl) ?_
      | refine x_varO (by with_unfolding_all rfl) ?_
      | refine x_bi ?_
      | refine x_nil ?_
      | refine x_dat ?_
      | refine x_handD (by with_unfolding_all rfl) ?_
      | refine x_handO (by with_unfolding_all rfl) ?_
      | refine x_tup ?_
      | refine x_lst ?_
      | refine x_tupG (by with_unfolding_all rfl) (by with_unfolding_all rfl) ?_
      | refine x_if ?_
      | refine x_neg ?_
      | refine x_negG ?_
      | refine x_ixNO (by with_unfolding_all rfl) ?_
      | refine x_ixND (by with_unfolding_all rfl) ?_
      | refine x_ixG (by with_unfolding_all rfl) (by with_unfolding_all rfl) ?_
      | refine x_ixt0 ?_
      | refine x_ixt1 ?_
      | refine x_ixt2 ?_
      | refine x_ixt3 ?_
      | refine x_ixt4 ?_
      | refine x_ixt5 ?_
      | refine x_ixt6 ?_
      | refine x_ixt7 ?_
      | refine x_ixt (by with_unfolding_all rfl) ?_
      | refine x_ixl0 ?_
      | refine x_ixl1 ?_
      | refine x_ixl2 ?_
      | refine x_ixl3 ?_
      | refine x_ixl4 ?_
      | refine x_ixl5 ?_
      | refine x_ixl6 ?_
      | refine x_ixl7 ?_
      | refine x_ixl (by with_unfolding_all rfl) ?_
      | refine x_add ?_
      | refine x_addt ?_ ?_
      | refine x_addl ?_ ?_
      | refine x_sub ?_
      | refine x_mul ?_ ?_
      | refine x_div ?_ ?_
      | refine x_mod ?_ ?_
      | refine x_pow ?_ ?_
      | refine x_lt ?_
      | refine x_le ?_
      | refine x_gt ?_
      | refine x_ge ?_
      | refine x_eq ?_
      | refine x_ne ?_
      | refine x_is ?_
      | refine x_bl ?_
      | refine x_blG ?_
      | refine x_tru ?_
      | refine x_truB ?_
      | refine x_truI ?_
      | refine x_truL ?_
      | refine x_truT ?_
      | refine x_andC ?_
      | refine x_orC ?_
      | refine x_notC ?_
      | refine x_andV ?_
      | refine x_orV ?_
      | refine x_notV ?_
      | refine x_ch ?_
      | refine x_sl ?_
      | refine x_noPart ?_
      | refine x_part ?_
      | refine x_partG ?_
      | refine x_slL ?_
      | refine x_slT ?_
      | refine x_items ?_
      | refine x_itL ?_
      | refine x_itT ?_
      | refine x_range1 ?_
      | refine x_rgG ?_ ?_
      | refine x_range2 ?_
      | refine x_rgG2 ?_ ?_
      | refine x_lc ?_
      | refine x_yes ?_
      | refine x_take (by with_unfolding_all decide) (by with_unfolding_all rfl) ?_
      | refine x_takeD (by with_unfolding_all decide) (by with_unfolding_all rfl) ?_
      | refine x_app ⟨_, (by with_unfolding_all rfl)⟩ ?_
      | refine x_appG (by with_unfolding_all rfl) ?_ ?_
      | refine x_isi ?_
      | refine x_isiT (by with_unfolding_all rfl) (by with_unfolding_all rfl) ?_
      | refine x_isiF (by with_unfolding_all rfl) (by with_unfolding_all rfl) ?_
      | refine x_int ?_
      | refine x_intB ?_
      | refine x_abs ?_
      | refine x_max2 ?_
      | refine x_min2 ?_
      | refine x_len (by with_unfolding_all rfl) ?_
      | refine x_lenT (by with_unfolding_all rfl) ?_
      | refine x_btup (by with_unfolding_all rfl) ?_
      | refine x_btupT ?_
      | refine x_blst (by with_unfolding_all rfl) ?_
      | refine x_blstT ?_
      | refine x_call ?_
      | refine x_callG (by with_unfolding_all rfl) (by with_unfolding_all rfl) (by with_unfolding_all rfl) (by with_unfolding_all rfl) ?_
      | refine x_callK ?_
      | refine x_callKG (by with_unfolding_all rfl) (by with_unfolding_all rfl) (by with_unfolding_all rfl) ?_
    · exact ⟨by decide, by decide, by decide⟩
    · exact ⟨by decide, by decide, by decide⟩
    refine for_rule (fun items s => ∃ (ms todo : List Int) (c2 c5 c6 c7 c8 : Option Sl), items = todo.map PyData.int ∧ ms.length + 3 * todo.length ≤ 44 ∧ s = [some (.dat (.list (ns.map PyData.int))), some (.ob (.L zs)), c2, some (.dat (.tuple [.int v, .tuple (ts.map PyData.int)])), some (.ob (.L (ms.map PyData.int))), c5, c6, c7, c8]) ?_ ?_ _ _ ⟨[0, 1, 1999, 2000, 2001, _, q, _], ts, _, _, _, _, _, rfl, by simp; omega, rfl⟩
    · rintro sd ⟨ms, todo, c2, c5, c6, c7, c8, e1, hl, rfl⟩
      repeat' with_reducible first
        | refine x_seq ?_
        | refine x_next ?_
        | refine x_brk ?_
        | refine x_cnt ?_
        | refine x_ret ?_
        | refine x_retN ?_
        | refine x_set (by with_unfolding_all decide) ?_
        | refine x_drop ?_
        | refine x_ifS ?_
        | refine x_ite (fun hc => ?_) (fun hc => ?_)
        | refine x_iteN (fun hc => ?_) (fun hc => ?_)
        | refine x_iteT ?_
        | refine x_iteF ?_
        | refine x_iteNT ?_
        | refine x_iteNF ?_
        | refine x_for ?_
        | refine x_par (by with_unfolding_all decide) (by with_unfolding_all decide) ?_
        | refine x_parG ?_
        | refine x_par3 (by with_unfolding_all decide) (by with_unfolding_all decide) (by with_unfolding_all decide) ?_
        | refine x_parG3 ?_
        | refine x_asg ?_
        | refine x_to (by with_unfolding_all decide) ?_
        | refine x_gT (by with_unfolding_all rfl) ?_
        | refine x_g0 ?_
        | refine x_g1 ?_
        | refine x_aug (by with_unfolding_all decide) (by with_unfolding_all rfl) ?_
        | refine x_augG ?_
        | refine x_augS (by with_unfolding_all rfl) ?_
        | refine x_augS1 (by with_unfolding_all rfl) (by with_unfolding_all rfl) (by with_unfolding_all rfl) ?_
        | refine x_augS2 (by with_unfolding_all rfl) (by with_unfolding_all rfl) ?_
        | refine x_put ?_
        | refine x_putG (by with_unfolding_all rfl) ?_
        | refine x_putL (by with_unfolding_all rfl) (by with_unfolding_all rfl) ?_
        | refine x_op ?_
        | refine x_fv ?_
        | refine x_fl ?_
        | refine x_c ?_
        | refine x_var (by with_unfolding_all rfl) ?_
        | refine x_varO (by with_unfolding_all rfl) ?_
        | refine x_bi ?_
        | refine x_nil ?_
        | refine x_dat ?_
        | refine x_handD (by with_unfolding_all rfl) ?_
        | refine x_handO (by with_unfolding_all rfl) ?_
        | refine x_tup ?_
        | refine x_lst ?_
        | refine x_tupG (by with_unfolding_all rfl) (by with_unfolding_all rfl) ?_
        | refine x_if ?_
        | refine x_neg ?_
        | refine x_negG ?_
        | refine x_ixNO (by with_unfolding_all rfl) ?_
        | refine x_ixND (by with_unfolding_all rfl) ?_
        | refine x_ixG (by with_unfolding_all rfl) (by with_unfolding_all rfl) ?_
        | refine x_ixt0 ?_
        | refine x_ixt1 ?_
        | refine x_ixt2 ?_
        | refine x_ixt3 ?_
        | refine x_ixt4 ?_
        | refine x_ixt5 ?_
        | refine x_ixt6 ?_
        | refine x_ixt7 ?_
        | refine x_ixt (by with_unfolding_all rfl) ?_
        | refine x_ixl0 ?_
        | refine x_ixl1 ?_
        | refine x_ixl2 ?_
        | refine x_ixl3 ?_
        | refine x_ixl4 ?_
        | refine x_ixl5 ?_
        | refine x_ixl6 ?_
        | refine x_ixl7 ?_
        | refine x_ixl (by with_unfolding_all rfl) ?_
        | refine x_add ?_
        | refine x_addt ?_ ?_
        | refine x_addl ?_ ?_
        | refine x_sub ?_
        | refine x_mul ?_ ?_
        | refine x_div ?_ ?_
        | refine x_mod ?_ ?_
        | refine x_pow ?_ ?_
        | refine x_lt ?_
        | refine x_le ?_
        | refine x_gt ?_
        | refine x_ge ?_
        | refine x_eq ?_
        | refine x_ne ?_
        | refine x_is ?_
        | refine x_bl ?_
        | refine x_blG ?_
        | refine x_tru ?_
        | refine x_truB ?_
        | refine x_truI ?_
        | refine x_truL ?_
        | refine x_truT ?_
        | refine x_andC ?_
        | refine x_orC ?_
        | refine x_notC ?_
        | refine x_andV ?_
        | refine x_orV ?_
        | refine x_notV ?_
        | refine x_ch ?_
        | refine x_sl ?_
        | refine x_noPart ?_
        | refine x_part ?_
        | refine x_partG ?_
        | refine x_slL ?_
        | refine x_slT ?_
        | refine x_items ?_
        | refine x_itL ?_
        | refine x_itT ?_
        | refine x_range1 ?_
        | refine x_rgG ?_ ?_
        | refine x_range2 ?_
        | refine x_rgG2 ?_ ?_
        | refine x_lc ?_
        | refine x_yes ?_
        | refine x_take (by with_unfolding_all decide) (by with_unfolding_all rfl) ?_
        | refine x_takeD (by with_unfolding_all decide) (by with_unfolding_all rfl) ?_
        | refine x_app ⟨_, (by with_unfolding_all rfl)⟩ ?_
        | refine x_appG (by with_unfolding_all rfl) ?_ ?_
        | refine x_isi ?_
        | refine x_isiT (by with_unfolding_all rfl) (by with_unfolding_all rfl) ?_
        | refine x_isiF (by with_unfolding_all rfl) (by with_unfolding_all rfl) ?_
        | refine x_int ?_
        | refine x_intB ?_
        | refine x_abs ?_
        | refine x_max2 ?_
        | refine x_min2 ?_
        | refine x_len (by with_unfolding_all rfl) ?_
        | refine x_lenT (by with_unfolding_all rfl) ?_
        | refine x_btup (by with_unfolding_all rfl) ?_
        | refine x_btupT ?_
        | refine x_blst (by with_unfolding_all rfl) ?_
        | refine x_blstT ?_
        | refine x_call ?_
        | refine x_callG (by with_unfolding_all rfl) (by with_unfolding_all rfl) (by with_unfolding_all rfl) (by with_unfolding_all rfl) ?_
        | refine x_callK ?_
        | refine x_callKG (by with_unfolding_all rfl) (by with_unfolding_all rfl) (by with_unfolding_all rfl) ?_
      refine for_rule (fun items s => ∃ (todo : List Int) (c2 c5 c6 c7 c8 : Option Sl), items = todo.map PyData.int ∧ s = [some (.dat (.list (ns.map PyData.int))), some (.ob (.L zs)), c2, some (.dat (.tuple [.int v, .tuple (ts.map PyData.int)])), some (.dat (.list (ms.map PyData.int))), c5, c6, c7, c8]) ?_ ?_ _ _ ⟨ms, _, _, _, _, _, rfl, rfl⟩
      · rintro sd ⟨todo, c2, c5, c6, c7, c8, e1, rfl⟩
        exact ih _ ⟨_, _, _, _, _, _, _, _, rfl, gz⟩
      · rintro NX x xs sd ⟨todo, c2, c5, c6, c7, c8, e2, rfl⟩ ih
        match todo, e2 with
        | m :: todo, e2 =>
          obtain ⟨rfl, rfl⟩ := List.cons.inj e2
          have hst := cnt_step m hpw
          repeat' with_reducible first
            | refine y_value (by omega) (fun s => ?_)
            | refine y_value_at (by omega) (fun s => ?_)
            | refine y_value_atK (by omega) (fun s => ?_)
            | refine y_is (fun s => ?_)
            | refine x_nin01 (by omega) ?_
            | refine x_seq ?_
            | refine x_next ?_
            | refine x_brk ?_
            | refine x_cnt ?_
            | refine x_ret ?_
            | refine x_retN ?_
            | refine x_set (by with_unfolding_all decide) ?_
            | refine x_drop ?_
            | refine x_ifS ?_
            | refine x_ite (fun hc => ?_) (fun hc => ?_)
            | refine x_iteN (fun hc => ?_) (fun hc => ?_)
            | refine x_iteT ?_
            | refine x_iteF ?_
            | refine x_iteNT ?_
            | refine x_iteNF ?_
            | refine x_for ?_
            | refine x_par (by with_unfolding_all decide) (by with_unfolding_all decide) ?_
            | refine x_parG ?_
            | refine x_par3 (by with_unfolding_all decide) (by with_unfolding_all decide) (by with_unfolding_all decide) ?_
            | refine x_parG3 ?_
            | refine x_asg ?_
            | refine x_to (by with_unfolding_all decide) ?_
            | refine x_gT (by with_unfolding_all rfl) ?_
            | refine x_g0 ?_
            | refine x_g1 ?_
            | refine x_aug (by with_unfolding_all decide) (by with_unfolding_all rfl) ?_
            | refine x_augG ?_
            | refine x_augS (by with_unfolding_all rfl) ?_
            | refine x_augS1 (by with_unfolding_all rfl) (by with_unfolding_all rfl) (by with_unfolding_all rfl) ?_
            | refine x_augS2 (by with_unfolding_all rfl) (by with_unfolding_all rfl) ?_
            | refine x_put ?_
            | refine x_putG (by with_unfolding_all rfl) ?_
            | refine x_putL (by with_unfolding_all rfl) (by with_unfolding_all rfl) ?_
            | refine x_op ?_
            | refine x_fv ?_
            | refine x_fl ?_
            | refine x_c ?_
            | refine x_var (by with_unfolding_all rfl) ?_
            | refine x_varO (by with_unfolding_all rfl) ?_
            | refine x_bi ?_
            | refine x_nil ?_
            | refine x_dat ?_
            | refine x_handD (by with_unfolding_all rfl) ?_
            | refine x_handO (by with_unfolding_all rfl) ?_
            | refine x_tup ?_
            | refine x_lst ?_
            | refine x_tupG (by with_unfolding_all rfl) (by with_unfolding_all rfl) ?_
            | refine x_if ?_
            | refine x_neg ?_
            | refine x_negG ?_
            | refine x_ixNO (by with_unfolding_all rfl) ?_
            | refine x_ixND (by with_unfolding_all rfl) ?_
            | refine x_ixG (by with_unfolding_all rfl) (by with_unfolding_all rfl) ?_
            | refine x_ixt0 ?_
            | refine x_ixt1 ?_
            | refine x_ixt2 ?_
            | refine x_ixt3 ?_
            | refine x_ixt4 ?_
            | refine x_ixt5 ?_
            | refine x_ixt6 ?_
            | refine x_ixt7 ?_
            | refine x_ixt (by with_unfolding_all rfl) ?_
            | refine x_ixl0 ?_
            | refine x_ixl1 ?_
            | refine x_ixl2 ?_
            | refine x_ixl3 ?_
            | refine x_ixl4 ?_
            | refine x_ixl5 ?_
            | refine x_ixl6 ?_
            | refine x_ixl7 ?_
            | refine x_ixl (by with_unfolding_all rfl) ?_
            | refine x_add ?_
            | refine x_addt ?_ ?_
            | refine x_addl ?_ ?_
            | refine x_sub ?_
            | refine x_mul ?_ ?_
            | refine x_div ?_ ?_
            | refine x_mod ?_ ?_
            | refine x_pow ?_ ?_
            | refine x_lt ?_
            | refine x_le ?_
            | refine x_gt ?_
            | refine x_ge ?_
            | refine x_eq ?_
            | refine x_ne ?_
            | refine x_is ?_
            | refine x_bl ?_
            | refine x_blG ?_
            | refine x_tru ?_
            | refine x_truB ?_
            | refine x_truI ?_
            | refine x_truL ?_
            | refine x_truT ?_
            | refine x_andC ?_
            | refine x_orC ?_
            | refine x_notC ?_
            | refine x_andV ?_
            | refine x_orV ?_
            | refine x_notV ?_
            | refine x_ch ?_
            | refine x_sl ?_
            | refine x_noPart ?_
            | refine x_part ?_
            | refine x_partG ?_
            | refine x_slL ?_
            | refine x_slT ?_
            | refine x_items ?_
            | refine x_itL ?_
            | refine x_itT ?_
            | refine x_range1 ?_
            | refine x_rgG ?_ ?_
            | refine x_range2 ?_
            | refine x_rgG2 ?_ ?_
            | refine x_lc ?_
            | refine x_yes ?_
            | refine x_take (by with_unfolding_all decide) (by with_unfolding_all rfl) ?_
            | refine x_takeD (by with_unfolding_all decide) (by with_unfolding_all rfl) ?_
            | refine x_app ⟨_, (by with_unfolding_all rfl)⟩ ?_
            | refine x_appG (by with_unfolding_all rfl) ?_ ?_
            | refine x_isi ?_
            | refine x_isiT (by with_unfolding_all rfl) (by with_unfolding_all rfl) ?_
            | refine x_isiF (by with_unfolding_all rfl) (by with_unfolding_all rfl) ?_
            | refine x_int ?_
            | refine x_intB ?_
            | refine x_abs ?_
            | refine x_max2 ?_
            | refine x_min2 ?_
            | refine x_len (by with_unfolding_all rfl) ?_
            | refine x_lenT (by with_unfolding_all rfl) ?_
            | refine x_btup (by with_unfolding_all rfl) ?_
            | refine x_btupT ?_
            | refine x_blst (by with_unfolding_all rfl) ?_
            | refine x_blstT ?_
            | refine x_call ?_
            | refine x_callG (by with_unfolding_all rfl) (by with_unfolding_all rfl) (by with_unfolding_all rfl) (by with_unfolding_all rfl) ?_
            | refine x_callK ?_
            | refine x_callKG (by with_unfolding_all rfl) (by with_unfolding_all rfl) (by with_unfolding_all rfl) ?_
          exact ih _ ⟨todo, _, _, _, _, _, rfl, rfl⟩
    · rintro NX x xs sd ⟨ms, todo, c2, c5, c6, c7, c8, e2, hl, rfl⟩ ih
      match todo, e2 with
      | n :: todo, e2 =>
        obtain ⟨rfl, rfl⟩ := List.cons.inj e2
        rw [List.length_cons] at hl
        repeat' with_reducible first
          | refine x_seq ?_
          | refine x_next ?_
          | refine x_brk ?_
          | refine x_cnt ?_
          | refine x_ret ?_
          | refine x_retN ?_
          | refine x_set (by with_unfolding_all decide) ?_
          | refine x_drop ?_
          | refine x_ifS ?_
          | refine x_ite (fun hc => ?_) (fun hc => ?_)
          | refine x_iteN (fun hc => ?_) (fun hc => ?_)
          | refine x_iteT ?_
          | refine x_iteF ?_
          | refine x_iteNT ?_
          | refine x_iteNF ?_
          | refine x_for ?_
          | refine x_par (by with_unfolding_all decide) (by with_unfolding_all decide) ?_
          | refine x_parG ?_
          | refine x_par3 (by with_unfolding_all decide) (by with_unfolding_all decide) (by with_unfolding_all decide) ?_
          | refine x_parG3 ?_
          | refine x_asg ?_
          | refine x_to (by with_unfolding_all decide) ?_
          | refine x_gT (by with_unfolding_all rfl) ?_
          | refine x_g0 ?_
          | refine x_g1 ?_
          | refine x_aug (by with_unfolding_all decide) (by with_unfolding_all rfl) ?_
          | refine x_augG ?_
          | refine x_augS (by with_unfolding_all rfl) ?_
          | refine x_augS1 (by with_unfolding_all rfl) (by with_unfolding_all rfl) (by with_unfolding_all rfl) ?_
          | refine x_augS2 (by with_unfolding_all rfl) (by with_unfolding_all rfl) ?_
          | refine x_put ?_
          | refine x_putG (by with_unfolding_all rfl) ?_
          | refine x_putL (by with_unfolding_all rfl) (by with_unfolding_all rfl) ?_
          | refine x_op ?_
          | refine x_fv ?_
          | refine x_fl ?_
          | refine x_c ?_
          | refine x_var (by with_unfolding_all rfl) ?_
          | refine x_varO (by with_unfolding_all rfl) ?_
          | refine x_bi ?_
          | refine x_nil ?_
          | refine x_dat ?_
          | refine x_handD (by with_unfolding_all rfl) ?_
          | refine x_handO (by with_unfolding_all rfl) ?_
          | refine x_tup ?_
          | refine x_lst ?_
          | refine x_tupG (by with_unfolding_all rfl) (by with_unfolding_all rfl) ?_
          | refine x_if ?_
          | refine x_neg ?_
          | refine x_negG ?_
          | refine x_ixNO (by with_unfolding_all rfl) ?_
          | refine x_ixND (by with_unfolding_all rfl) ?_
          | refine x_ixG (by with_unfolding_all rfl) (by with_unfolding_all rfl) ?_
          | refine x_ixt0 ?_
          | refine x_ixt1 ?_
          | refine x_ixt2 ?_
          | refine x_ixt3 ?_
          | refine x_ixt4 ?_
          | refine x_ixt5 ?_
          | refine x_ixt6 ?_
          | refine x_ixt7 ?_
          | refine x_ixt (by with_unfolding_all rfl) ?_
          | refine x_ixl0 ?_
          | refine x_ixl1 ?_
          | refine x_ixl2 ?_
          | refine x_ixl3 ?_
          | refine x_ixl4 ?_
          | refine x_ixl5 ?_
          | refine x_ixl6 ?_
          | refine x_ixl7 ?_
          | refine x_ixl (by with_unfolding_all rfl) ?_
          | refine x_add ?_
          | refine x_addt ?_ ?_
          | refine x_addl ?_ ?_
          | refine x_sub ?_
          | refine x_mul ?_ ?_
          | refine x_div ?_ ?_
          | refine x_mod ?_ ?_
          | refine x_pow ?_ ?_
          | refine x_lt ?_
          | refine x_le ?_
          | refine x_gt ?_
          | refine x_ge ?_
          | refine x_eq ?_
          | refine x_ne ?_
          | refine x_is ?_
          | refine x_bl ?_
          | refine x_blG ?_
          | refine x_tru ?_
          | refine x_truB ?_
          | refine x_truI ?_
          | refine x_truL ?_
          | refine x_truT ?_
          | refine x_andC ?_
          | refine x_orC ?_
          | refine x_notC ?_
          | refine x_andV ?_
          | refine x_orV ?_
          | refine x_notV ?_
          | refine x_ch ?_
          | refine x_sl ?_
          | refine x_noPart ?_
          | refine x_part ?_
          | refine x_partG ?_
          | refine x_slL ?_
          | refine x_slT ?_
          | refine x_items ?_
          | refine x_itL ?_
          | refine x_itT ?_
          | refine x_range1 ?_
          | refine x_rgG ?_ ?_
          | refine x_range2 ?_
          | refine x_rgG2 ?_ ?_
          | refine x_lc ?_
          | refine x_yes ?_
          | refine x_take (by with_unfolding_all decide) (by with_unfolding_all rfl) ?_
          | refine x_takeD (by with_unfolding_all decide) (by with_unfolding_all rfl) ?_
          | refine x_app ⟨_, (by with_unfolding_all rfl)⟩ ?_
          | refine x_appG (by with_unfolding_all rfl) ?_ ?_
          | refine x_isi ?_
          | refine x_isiT (by with_unfolding_all rfl) (by with_unfolding_all rfl) ?_
          | refine x_isiF (by with_unfolding_all rfl) (by with_unfolding_all rfl) ?_
          | refine x_int ?_
          | refine x_intB ?_
          | refine x_abs ?_
          | refine x_max2 ?_
          | refine x_min2 ?_
          | refine x_len (by with_unfolding_all rfl) ?_
          | refine x_lenT (by with_unfolding_all rfl) ?_
          | refine x_btup (by with_unfolding_all rfl) ?_
          | refine x_btupT ?_
          | refine x_blst (by with_unfolding_all rfl) ?_
          | refine x_blstT ?_
          | refine x_call ?_
          | refine x_callG (by with_unfolding_all rfl) (by with_unfolding_all rfl) (by with_unfolding_all rfl) (by with_unfolding_all rfl) ?_
          | refine x_callK ?_
          | refine x_callKG (by with_unfolding_all rfl) (by with_unfolding_all rfl) (by with_unfolding_all rfl) ?_
        · rw [sizeLine_eq, List.length_map]
          show ms.length + 3 ≤ _
          omega
        · refine ih _ ⟨ms ++ [n - 1, n, n + 1], todo, _, some (.dat (.int n)), _, _, _, rfl, by simp; omega, by rw [List.map_append]; rfl⟩
end Ev


namespace Ev
open PySem PySem.Spec PyProof.Rows L2
def topS (i : Nat) : Stmt := PySem.Challenge.pw_enoughaloft_k01_tables.main.body.getD i (.Pass ⟨0, 0, 0, 0⟩)
theorem s_0 : FnScope ["table", "mass", "base", "steps"] Fvalue_at.ps (defScope (topS 1)) := ⟨rfl, rfl, rfl, by decide +kernel, rfl, by decide +kernel, by decide +kernel⟩
theorem e_0 : wSs (tabOf ["table", "mass", "base", "steps"] (topS 1) Fvalue_at [] (some "value_at")) 60 (defBody (topS 1)) = Wvalue_at := by kernel_rfl
theorem s_1 : FnScope ["number", "k", "first", "second"] F_mixed.ps (defScope (topS 3)) := ⟨rfl, rfl, rfl, by decide +kernel, rfl, by decide +kernel, by decide +kernel⟩
theorem e_1 : wSs (tabOf ["number", "k", "first", "second"] (topS 3) F_mixed (("value_at", Fvalue_at) :: []) none) 60 (defBody (topS 3)) = W_mixed := by kernel_rfl
theorem s_2 : FnScope ["script", "seed", "cell"] F_start.ps (defScope (topS 4)) := ⟨rfl, rfl, rfl, by decide +kernel, rfl, by decide +kernel, by decide +kernel⟩
theorem e_2 : wSs (tabOf ["script", "seed", "cell"] (topS 4) F_start (("_law_mixed", F_mixed) :: (("value_at", Fvalue_at) :: [])) none) 60 (defBody (topS 4)) = W_start := by kernel_rfl
theorem s_3 : FnScope ["state", "limit", "cells", "cell", "value"] F_take.ps (defScope (topS 5)) := ⟨rfl, rfl, rfl, by decide +kernel, rfl, by decide +kernel, by decide +kernel⟩
theorem e_3 : wSs (tabOf ["state", "limit", "cells", "cell", "value"] (topS 5) F_take (("_law_start", F_start) :: (("_law_mixed", F_mixed) :: (("value_at", Fvalue_at) :: []))) none) 60 (defBody (topS 5)) = W_take := by kernel_rfl
theorem s_4 : FnScope ["state", "some"] F_pick.ps (defScope (topS 6)) := ⟨rfl, rfl, rfl, by decide +kernel, rfl, by decide +kernel, by decide +kernel⟩
theorem e_4 : wSs (tabOf ["state", "some"] (topS 6) F_pick (("_law_take", F_take) :: (("_law_start", F_start) :: (("_law_mixed", F_mixed) :: (("value_at", Fvalue_at) :: [])))) none) 60 (defBody (topS 6)) = W_pick := by kernel_rfl
theorem s_5 : FnScope ["state", "low", "high"] F_some.ps (defScope (topS 7)) := ⟨rfl, rfl, rfl, by decide +kernel, rfl, by decide +kernel, by decide +kernel⟩
theorem e_5 : wSs (tabOf ["state", "low", "high"] (topS 7) F_some (("_law_pick", F_pick) :: (("_law_take", F_take) :: (("_law_start", F_start) :: (("_law_mixed", F_mixed) :: (("value_at", Fvalue_at) :: []))))) none) 60 (defBody (topS 7)) = W_some := by kernel_rfl
theorem s_6 : FnScope ["state", "low", "high", "most", "found", "k"] F_rising.ps (defScope (topS 8)) := ⟨rfl, rfl, rfl, by decide +kernel, rfl, by decide +kernel, by decide +kernel⟩
theorem e_6 : wSs (tabOf ["state", "low", "high", "most", "found", "k"] (topS 8) F_rising (("_law_some", F_some) :: (("_law_pick", F_pick) :: (("_law_take", F_take) :: (("_law_start", F_start) :: (("_law_mixed", F_mixed) :: (("value_at", Fvalue_at) :: [])))))) none) 60 (defBody (topS 8)) = W_rising := by kernel_rfl
theorem s_7 : FnScope ["state", "book", "low", "high"] F_table.ps (defScope (topS 9)) := ⟨rfl, rfl, rfl, by decide +kernel, rfl, by decide +kernel, by decide +kernel⟩
theorem e_7 : wSs (tabOf ["state", "book", "low", "high"] (topS 9) F_table (("_law_rising", F_rising) :: (("_law_some", F_some) :: (("_law_pick", F_pick) :: (("_law_take", F_take) :: (("_law_start", F_start) :: (("_law_mixed", F_mixed) :: (("value_at", Fvalue_at) :: []))))))) none) 60 (defBody (topS 9)) = W_table := by kernel_rfl
theorem s_8 : FnScope ["told", "due"] F_is.ps (defScope (topS 10)) := ⟨rfl, rfl, rfl, by decide +kernel, rfl, by decide +kernel, by decide +kernel⟩
theorem e_8 : wSs (tabOf ["told", "due"] (topS 10) F_is (("_law_table", F_table) :: (("_law_rising", F_rising) :: (("_law_some", F_some) :: (("_law_pick", F_pick) :: (("_law_take", F_take) :: (("_law_start", F_start) :: (("_law_mixed", F_mixed) :: (("value_at", Fvalue_at) :: [])))))))) none) 60 (defBody (topS 10)) = W_is := by kernel_rfl
theorem s_9 : FnScope ["table", "mass", "total", "step"] F_value.ps (defScope (topS 11)) := ⟨rfl, rfl, rfl, by decide +kernel, rfl, by decide +kernel, by decide +kernel⟩
theorem e_9 : wSs (tabOf ["table", "mass", "total", "step"] (topS 11) F_value (("_law_is", F_is) :: (("_law_table", F_table) :: (("_law_rising", F_rising) :: (("_law_some", F_some) :: (("_law_pick", F_pick) :: (("_law_take", F_take) :: (("_law_start", F_start) :: (("_law_mixed", F_mixed) :: (("value_at", Fvalue_at) :: []))))))))) none) 60 (defBody (topS 11)) = W_value := by kernel_rfl
theorem s_10 : FnScope ["script", "state", "turn", "table", "masses", "step", "mass", "due", "more"] F_law.ps (defScope (topS 12)) := ⟨rfl, rfl, rfl, by decide +kernel, rfl, by decide +kernel, by decide +kernel⟩
theorem e_10 : wSs (tabOf ["script", "state", "turn", "table", "masses", "step", "mass", "due", "more"] (topS 12) F_law (("_law_value", F_value) :: (("_law_is", F_is) :: (("_law_table", F_table) :: (("_law_rising", F_rising) :: (("_law_some", F_some) :: (("_law_pick", F_pick) :: (("_law_take", F_take) :: (("_law_start", F_start) :: (("_law_mixed", F_mixed) :: (("value_at", Fvalue_at) :: [])))))))))) none) 60 (defBody (topS 12)) = Wlaw := by kernel_rfl
theorem all_mk {l : PySem.W.OpenLaw} {w : World} {K : PySem.W.Frag} {h : Heap} {mg mb : Str → Option Value} {mean : ExcName → Option Value} {q : Program} {loose : List Str} {fa : Addr} (X : K.In h) (T : Top q loose mean mg mb h) (G : h.Ns mainGlobals mg) (hfa : mg "law" = some (.ref fa))
    {f0 cc0 pt0 : Addr} {od0 an0 : Option Addr} {sl0 : Array (Option Value)} {oc0 kV0 dc0 pm0 ct0 : Value} (a0 : PySem.W.nsIn K mainGlobals "value_at" = some (some (.ref f0)))
    (l0 : K.lookup f0 = some ⟨oc0, od0, .func (PySem.W.fnOf "value_at" "value_at" (defArgs (topS 1)) (defBody (topS 1)) (defScope (topS 1)) .none kV0 dc0 pm0 an0 (.ref cc0) ct0), sl0⟩) (c0 : PySem.W.codeIn K (.ref cc0) "value_at" = true) (k0 : PySem.W.keepIn K (.ref f0) = true)
    {oq0 : Value} {dq0 : Option Addr} {vs0 : Array Value} {sq0 : Array (Option Value)} (q0 : K.lookup cc0 = some ⟨oq0, dq0, .fields vs0, sq0⟩) (t0 : vs0[11]? = some (.ref pt0)) (u0 : K.lookup pt0 = none) (r0 : ((recsOf q).find? (fun e => e.name == ("value_at" : Str))).isSome = true)
    {f1 : Addr} {od1 an1 : Option Addr} {sl1 : Array (Option Value)} {oc1 kV1 dc1 pm1 cd1 ct1 : Value} (a1 : PySem.W.nsIn K mainGlobals "_law_mixed" = some (some (.ref f1)))
    (l1 : K.lookup f1 = some ⟨oc1, od1, .func (PySem.W.fnOf "_law_mixed" "_law_mixed" (defArgs (topS 3)) (defBody (topS 3)) (defScope (topS 3)) .none kV1 dc1 pm1 an1 cd1 ct1), sl1⟩) (c1 : PySem.W.codeIn K cd1 "_law_mixed" = true) (k1 : PySem.W.keepIn K (.ref f1) = true)
    {f2 : Addr} {od2 an2 : Option Addr} {sl2 : Array (Option Value)} {oc2 kV2 dc2 pm2 cd2 ct2 : Value} (a2 : PySem.W.nsIn K mainGlobals "_law_start" = some (some (.ref f2)))
    (l2 : K.lookup f2 = some ⟨oc2, od2, .func (PySem.W.fnOf "_law_start" "_law_start" (defArgs (topS 4)) (defBody (topS 4)) (defScope (topS 4)) .none kV2 dc2 pm2 an2 cd2 ct2), sl2⟩) (c2 : PySem.W.codeIn K cd2 "_law_start" = true) (k2 : PySem.W.keepIn K (.ref f2) = true)
    {f3 : Addr} {od3 an3 : Option Addr} {sl3 : Array (Option Value)} {oc3 kV3 dc3 pm3 cd3 ct3 : Value} (a3 : PySem.W.nsIn K mainGlobals "_law_take" = some (some (.ref f3)))
    (l3 : K.lookup f3 = some ⟨oc3, od3, .func (PySem.W.fnOf "_law_take" "_law_take" (defArgs (topS 5)) (defBody (topS 5)) (defScope (topS 5)) .none kV3 dc3 pm3 an3 cd3 ct3), sl3⟩) (c3 : PySem.W.codeIn K cd3 "_law_take" = true) (k3 : PySem.W.keepIn K (.ref f3) = true)
    {f4 : Addr} {od4 an4 : Option Addr} {sl4 : Array (Option Value)} {oc4 kV4 dc4 pm4 cd4 ct4 : Value} (a4 : PySem.W.nsIn K mainGlobals "_law_pick" = some (some (.ref f4)))
    (l4 : K.lookup f4 = some ⟨oc4, od4, .func (PySem.W.fnOf "_law_pick" "_law_pick" (defArgs (topS 6)) (defBody (topS 6)) (defScope (topS 6)) .none kV4 dc4 pm4 an4 cd4 ct4), sl4⟩) (c4 : PySem.W.codeIn K cd4 "_law_pick" = true) (k4 : PySem.W.keepIn K (.ref f4) = true)
    {f5 : Addr} {od5 an5 : Option Addr} {sl5 : Array (Option Value)} {oc5 kV5 dc5 pm5 cd5 ct5 : Value} (a5 : PySem.W.nsIn K mainGlobals "_law_some" = some (some (.ref f5)))
    (l5 : K.lookup f5 = some ⟨oc5, od5, .func (PySem.W.fnOf "_law_some" "_law_some" (defArgs (topS 7)) (defBody (topS 7)) (defScope (topS 7)) .none kV5 dc5 pm5 an5 cd5 ct5), sl5⟩) (c5 : PySem.W.codeIn K cd5 "_law_some" = true) (k5 : PySem.W.keepIn K (.ref f5) = true)
    {f6 : Addr} {od6 an6 : Option Addr} {sl6 : Array (Option Value)} {oc6 kV6 dc6 pm6 cd6 ct6 : Value} (a6 : PySem.W.nsIn K mainGlobals "_law_rising" = some (some (.ref f6)))
    (l6 : K.lookup f6 = some ⟨oc6, od6, .func (PySem.W.fnOf "_law_rising" "_law_rising" (defArgs (topS 8)) (defBody (topS 8)) (defScope (topS 8)) .none kV6 dc6 pm6 an6 cd6 ct6), sl6⟩) (c6 : PySem.W.codeIn K cd6 "_law_rising" = true) (k6 : PySem.W.keepIn K (.ref f6) = true)
    {f7 : Addr} {od7 an7 : Option Addr} {sl7 : Array (Option Value)} {oc7 kV7 dc7 pm7 cd7 ct7 : Value} (a7 : PySem.W.nsIn K mainGlobals "_law_table" = some (some (.ref f7)))
    (l7 : K.lookup f7 = some ⟨oc7, od7, .func (PySem.W.fnOf "_law_table" "_law_table" (defArgs (topS 9)) (defBody (topS 9)) (defScope (topS 9)) .none kV7 dc7 pm7 an7 cd7 ct7), sl7⟩) (c7 : PySem.W.codeIn K cd7 "_law_table" = true) (k7 : PySem.W.keepIn K (.ref f7) = true)
    {f8 : Addr} {od8 an8 : Option Addr} {sl8 : Array (Option Value)} {oc8 kV8 dc8 pm8 cd8 ct8 : Value} (a8 : PySem.W.nsIn K mainGlobals "_law_is" = some (some (.ref f8)))
    (l8 : K.lookup f8 = some ⟨oc8, od8, .func (PySem.W.fnOf "_law_is" "_law_is" (defArgs (topS 10)) (defBody (topS 10)) (defScope (topS 10)) .none kV8 dc8 pm8 an8 cd8 ct8), sl8⟩) (c8 : PySem.W.codeIn K cd8 "_law_is" = true) (k8 : PySem.W.keepIn K (.ref f8) = true)
    {f9 : Addr} {od9 an9 : Option Addr} {sl9 : Array (Option Value)} {oc9 kV9 dc9 pm9 cd9 ct9 : Value} (a9 : PySem.W.nsIn K mainGlobals "_law_value" = some (some (.ref f9)))
    (l9 : K.lookup f9 = some ⟨oc9, od9, .func (PySem.W.fnOf "_law_value" "_law_value" (defArgs (topS 11)) (defBody (topS 11)) (defScope (topS 11)) .none kV9 dc9 pm9 an9 cd9 ct9), sl9⟩) (c9 : PySem.W.codeIn K cd9 "_law_value" = true) (k9 : PySem.W.keepIn K (.ref f9) = true)
    {f10 : Addr} {od10 an10 : Option Addr} {sl10 : Array (Option Value)} {oc10 kV10 dc10 pm10 cd10 ct10 : Value} (a10 : PySem.W.nsIn K mainGlobals "law" = some (some (.ref f10)))
    (l10 : K.lookup f10 = some ⟨oc10, od10, .func (PySem.W.fnOf "law" "law" (defArgs (topS 12)) (defBody (topS 12)) (defScope (topS 12)) .none kV10 dc10 pm10 an10 cd10 ct10), sl10⟩) (c10 : PySem.W.codeIn K cd10 "law" = true) (k10 : PySem.W.keepIn K (.ref f10) = true)
    (z0 : PySem.W.nsIn K mainGlobals "len" = some none)
    (z1 : PySem.W.nsIn K mainGlobals "abs" = some none)
    (z2 : PySem.W.nsIn K mainGlobals "max" = some none)
    (z3 : PySem.W.nsIn K mainGlobals "min" = some none)
    (z4 : PySem.W.nsIn K mainGlobals "sorted" = some none)
    (z5 : PySem.W.nsIn K mainGlobals "int" = some none)
    (z6 : PySem.W.nsIn K mainGlobals "tuple" = some none)
    (z7 : PySem.W.nsIn K mainGlobals "list" = some none)
    (z8 : PySem.W.nsIn K mainGlobals "isinstance" = some none)
    (z9 : PySem.W.nsIn K mainGlobals "bool" = some none)
    (z10 : PySem.W.nsIn K mainGlobals "range" = some none)
    (z11 : PySem.W.nsIn K mainGlobals "sum" = some none)
    (z12 : PySem.W.nsIn K mainGlobals "all" = some none)
    (z13 : PySem.W.nsIn K mainGlobals "any" = some none)
    : LamX.LawAtS l w K CX0 11 63 "script" mg fa h := by
  have e := hfa.symm.trans (PySem.W.mg_of X G a10)
  cases e
  have F0 := fun_mk (st := topS 1) l0 c0 k0
  have b0 := F0.binds (ps := Fvalue_at.ps) fun _ _ _ _ _ _ us hl => match us, hl with | [_, _], _ => rfl
  have F1 := fun_mk (st := topS 3) l1 c1 k1
  have b1 := F1.binds (ps := F_mixed.ps) fun _ _ _ _ _ _ us hl => match us, hl with | [_, _], _ => rfl
  have F2 := fun_mk (st := topS 4) l2 c2 k2
  have b2 := F2.binds (ps := F_start.ps) fun _ _ _ _ _ _ us hl => match us, hl with | [_], _ => rfl
  have F3 := fun_mk (st := topS 5) l3 c3 k3
  have b3 := F3.binds (ps := F_take.ps) fun _ _ _ _ _ _ us hl => match us, hl with | [_, _], _ => rfl
  have F4 := fun_mk (st := topS 6) l4 c4 k4
  have b4 := F4.binds (ps := F_pick.ps) fun _ _ _ _ _ _ us hl => match us, hl with | [_, _], _ => rfl
  have F5 := fun_mk (st := topS 7) l5 c5 k5
  have b5 := F5.binds (ps := F_some.ps) fun _ _ _ _ _ _ us hl => match us, hl with | [_, _, _], _ => rfl
  have F6 := fun_mk (st := topS 8) l6 c6 k6
  have b6 := F6.binds (ps := F_rising.ps) fun _ _ _ _ _ _ us hl => match us, hl with | [_, _, _, _], _ => rfl
  have F7 := fun_mk (st := topS 9) l7 c7 k7
  have b7 := F7.binds (ps := F_table.ps) fun _ _ _ _ _ _ us hl => match us, hl with | [_, _], _ => rfl
  have F8 := fun_mk (st := topS 10) l8 c8 k8
  have b8 := F8.binds (ps := F_is.ps) fun _ _ _ _ _ _ us hl => match us, hl with | [_, _], _ => rfl
  have F9 := fun_mk (st := topS 11) l9 c9 k9
  have b9 := F9.binds (ps := F_value.ps) fun _ _ _ _ _ _ us hl => match us, hl with | [_, _], _ => rfl
  have F10 := fun_mk (st := topS 12) l10 c10 k10
  have b10 := F10.binds (ps := F_law.ps) fun _ _ _ _ _ _ us hl => match us, hl with | [_], _ => rfl
  have hk : ∀ p ∈ ([("value_at", cc0, pt0)] : List (Str × Addr × Addr)), TK K q p.1 p.2.1 p.2.2 := by
    intro p m
    simp only [List.mem_cons, List.not_mem_nil, or_false] at m
    rcases m with rfl
    · exact ⟨tabIn_mk a0 l0 rfl q0 t0, u0, Option.isSome_iff_exists.mp r0⟩
  obtain ⟨hT, nT, hC⟩ := tabs_ok X T hk
  refine ⟨PySem.W.fnOf "law" "law" (defArgs (topS 12)) (defBody (topS 12)) (defScope (topS 12)) .none kV10 dc10 pm10 an10 cd10 ct10, ([("value_at", cc0, pt0)] : List (Str × Addr × Addr)).map (·.2), spLaw K (gOf [("value_at", cc0, pt0)]), hT, nT, hC, fun s v => .of_eq rfl, fun H a ns hl hb hH hS => law_end hl (tab_end hH) hS, fun base _ _ hTB => ?_⟩
  have hb : ∀ x ∈ bis, mg x = none := by
    intro x m
    unfold bis at m
    simp only [List.mem_cons, List.not_mem_nil, or_false] at m
    rcases m with rfl | rfl | rfl | rfl | rfl | rfl | rfl | rfl | rfl | rfl | rfl | rfl | rfl | rfl
    · exact PySem.W.mg_none_of X G z0
    · exact PySem.W.mg_none_of X G z1
    · exact PySem.W.mg_none_of X G z2
    · exact PySem.W.mg_none_of X G z3
    · exact PySem.W.mg_none_of X G z4
    · exact PySem.W.mg_none_of X G z5
    · exact PySem.W.mg_none_of X G z6
    · exact PySem.W.mg_none_of X G z7
    · exact PySem.W.mg_none_of X G z8
    · exact PySem.W.mg_none_of X G z9
    · exact PySem.W.mg_none_of X G z10
    · exact PySem.W.mg_none_of X G z11
    · exact PySem.W.mg_none_of X G z12
    · exact PySem.W.mg_none_of X G z13
  have m0 : ModL l.prog w K mg base 0 [] (gOf [("value_at", cc0, pt0)]) := ModL.nil hb
  have m1 := ModL.add (g := Fvalue_at) 60 (tb_some hTB rfl rfl) m0 F0 s_0 (PySem.W.mg_of X G a0) VArgs_mono b0 (kw_one F0 rfl rfl (by simp [Fvalue_at]) (by decide) fun _ _ _ _ _ _ ws hl => match ws, hl with | [_, _], _ => rfl) e_0 Wvalue_at_ok
  have m2 := ModL.add (g := F_mixed) 60 tb_none m1 F1 s_1 (PySem.W.mg_of X G a1) F_mixed_mono b1 (kw_nil rfl) e_1 W_mixed_ok
  have m3 := ModL.add (g := F_start) 60 tb_none m2 F2 s_2 (PySem.W.mg_of X G a2) F_start_mono b2 (kw_nil rfl) e_2 W_start_ok
  have m4 := ModL.add (g := F_take) 60 tb_none m3 F3 s_3 (PySem.W.mg_of X G a3) F_take_mono b3 (kw_nil rfl) e_3 W_take_ok
  have m5 := ModL.add (g := F_pick) 60 tb_none m4 F4 s_4 (PySem.W.mg_of X G a4) F_pick_mono b4 (kw_nil rfl) e_4 W_pick_ok
  have m6 := ModL.add (g := F_some) 60 tb_none m5 F5 s_5 (PySem.W.mg_of X G a5) F_some_mono b5 (kw_nil rfl) e_5 W_some_ok
  have m7 := ModL.add (g := F_rising) 60 tb_none m6 F6 s_6 (PySem.W.mg_of X G a6) F_rising_mono b6 (kw_nil rfl) e_6 W_rising_ok
  have m8 := ModL.add (g := F_table) 60 tb_none m7 F7 s_7 (PySem.W.mg_of X G a7) F_table_mono b7 (kw_nil rfl) e_7 W_table_ok
  have m9 := ModL.add (g := F_is) 60 tb_none m8 F8 s_8 (PySem.W.mg_of X G a8) F_is_mono b8 (kw_nil rfl) e_8 W_is_ok
  have m10 := ModL.add (g := F_value) 60 tb_none m9 F9 s_9 (PySem.W.mg_of X G a9) VArgs_mono b9 (kw_nil rfl) e_9 W_value_ok
  exact ModL.fnok (g := F_law) 60 tb_none m10 F10 s_10 e_10 Wlaw_ok
end Ev
open PySem PySem.W PyProof.Rows
set_option maxHeartbeats 0 in
theorem PySem.Challenge.cw_enoughaloft_k01_tables_holds : PySem.Challenge.rw_enoughaloft_k01_tables.Holds := by
  w_on; o_law; k_head; (case hw => w_witness2)
  k_fill
  refine Ev.walk_tb (l := PySem.Challenge.rw_enoughaloft_k01_tables) (n := 63) (k := 11) (x := "script") (CX := fun _ => L2.CX0) rfl (by decide) rfl ⟨rfl, by decide, by decide⟩ (fun w h Y => PySem.W.kIn_of Y) ?F (fun _ _ _ _ _ h => h)
  case F =>
    intro w mg mb fa h mean KX T G hmg
    refine' Ev.all_mk KX T G hmg ?a0 ?l0 ?c0 ?k0 ?q0 ?t0 ?u0 ?r0 ?a1 ?l1 ?c1 ?k1 ?a2 ?l2 ?c2 ?k2 ?a3 ?l3 ?c3 ?k3 ?a4 ?l4 ?c4 ?k4 ?a5 ?l5 ?c5 ?k5 ?a6 ?l6 ?c6 ?k6 ?a7 ?l7 ?c7 ?k7 ?a8 ?l8 ?c8 ?k8 ?a9 ?l9 ?c9 ?k9 ?a10 ?l10 ?c10 ?k10 ?z0 ?z1 ?z2 ?z3 ?z4 ?z5 ?z6 ?z7 ?z8 ?z9 ?z10 ?z11 ?z12 ?z13
    (case a0 => k_is)
    (case l0 => k_is)
    (case c0 => k_is)
    (case k0 => k_is)
    (case q0 => k_is)
    (case t0 => rfl)
    (case u0 => kernel_rfl)
    (case r0 => kernel_rfl)
    (case a1 => k_is)
    (case l1 => k_is)
    (case c1 => k_is)
    (case k1 => k_is)
    (case a2 => k_is)
    (case l2 => k_is)
    (case c2 => k_is)
    (case k2 => k_is)
    (case a3 => k_is)
    (case l3 => k_is)
    (case c3 => k_is)
    (case k3 => k_is)
    (case a4 => k_is)
    (case l4 => k_is)
    (case c4 => k_is)
    (case k4 => k_is)
    (case a5 => k_is)
    (case l5 => k_is)
    (case c5 => k_is)
    (case k5 => k_is)
    (case a6 => k_is)
    (case l6 => k_is)
    (case c6 => k_is)
    (case k6 => k_is)
    (case a7 => k_is)
    (case l7 => k_is)
    (case c7 => k_is)
    (case k7 => k_is)
    (case a8 => k_is)
    (case l8 => k_is)
    (case c8 => k_is)
    (case k8 => k_is)
    (case a9 => k_is)
    (case l9 => k_is)
    (case c9 => k_is)
    (case k9 => k_is)
    (case a10 => k_is)
    (case l10 => k_is)
    (case c10 => k_is)
    (case k10 => k_is)
    (case z0 => k_is)
    (case z1 => k_is)
    (case z2 => k_is)
    (case z3 => k_is)
    (case z4 => k_is)
    (case z5 => k_is)
    (case z6 => k_is)
    (case z7 => k_is)
    (case z8 => k_is)
    (case z9 => k_is)
    (case z10 => k_is)
    (case z11 => k_is)
    (case z12 => k_is)
    (case z13 => k_is)
