import PyProof.Rows.All
import Wide.All
import OpenK.AllK
import Wide.FinOn
import HandS.ForMost
import HandS.Exc
import HandS.ExcOwn
import HandS.ExcInit
import HandS.TryOnly
import HandS.TryMany
import HandS.WordsExc
import HandS.Defaults
import HandS.IsInst
import HandS.Zip
import HandS.Conv
import HandS.More
import HandS.Flow
import HandS.Deep
import HandS.Lambda
import HandS.Nested
import HandS.TupAny
import HandS.TupMul
import HandS.TupLen
import HandS.ExcValue
import KE.SortData
import HandS.Ends
import HandS.HeadEnd
import HandS.SortKw
import KE.DataMinMax
import HandS.ExcField
import HandS.CallSlots
import HandS.HeadHook2
import KE.KAssignIn
import HandS.SetFor
import HandS.DictTup
import HandS.HeadHook4
import HandS.HeadWalk
import HandS.Iter
import HandS.DictComp
import HandS.Comp
import HandS.FStr
import HandS.Text
import HandS.RaiseMore
import PyProof.Methods
import HandS.RaiseFrom
import HandS.ExcInitHot
import KE.KStateDown
import Lean
import HandS.Words
import HandS.Head0
import HandS.Head1
import HandS.Head2
import HandS.HeadHook1
import PySem.Challenge.RW_swapslip_k06_ways_round_ties
set_option Elab.async false
set_option linter.all false
set_option maxRecDepth 100000
set_option autoImplicit false
set_option maxHeartbeats 0
section
/-! Sx1: a small store with places, values without addresses; how both stand in the abstract heap. -/
namespace Sx
open PySem L2

/-- lo ≤ i ≤ hi; nothing evaluates it -/
def InR (lo i hi : Int) : Prop := lo ≤ i ∧ i ≤ hi
noncomputable instance {lo i hi : Int} : Decidable (InR lo i hi) := Classical.propDecidable _
/-- a value of the mirror: tuples are values, what can change has a place -/
inductive VV where
  | non | bl (b : Bool) | int (i : Int) | str (x : Str) | tup (xs : List VV) | ref (n : Nat) | rol (xs : List VV)

/-- what stands at a place; an instance: its class by number, its attributes in the order in which they were first set -/
inductive OO where
  | lst (xs : List VV)
  | dK (kvs : List (Key × VV))
  | dT (kvs : List (List Key × VV))
  | ins (c : Nat) (fs : List VV)
  | xd (c : Nat) (fs : List VV)
  | xv (i k c : Nat)
  | xdd (c : Nat) (fs : List VV)
  | lk (o : OO)

abbrev Sto := List OO
abbrev Sg := List (Option VV)

inductive Res (α : Type) where
  | ok (a : α) (S : Sto)
  | exc (n : Nat) (S : Sto)
  | fail

inductive SR where
  | nx (σ : Sg) (S : Sto)
  | rt (v : VV) (S : Sto)
  | bk (σ : Sg) (S : Sto)
  | ct (σ : Sg) (S : Sto)
  | exc (n : Nat) (σ : Sg) (S : Sto)
  | fail

abbrev EM := Sg → Sto → Res VV
abbrev TM := Sg → Sto → Res Bool
abbrev AM := Sg → Sto → Res (List VV)
abbrev SM := Sg → Sto → SR

def Res.bind {α β : Type} (r : Res α) (k : α → Sto → Res β) : Res β := match r with
  | .ok a S => k a S
  | .exc n S => .exc n S
  | .fail => .fail
def Res.toS (σ : Sg) (r : Res VV) (k : VV → Sto → SR) : SR := match r with
  | .ok a S => k a S
  | .exc n S => .exc n σ S
  | .fail => .fail

/-- where classes stand, what their attributes are (in the order of their first setting) -/
structure Lay where
  K : PySem.W.Frag
  C : Nat → Addr
  att : Nat → List Str
  T : List NdefX.NTab := []

/-! ### values in the abstract heap -/
mutual
inductive RV (L : Lay) (ι : List Addr) (H : Hp) : VV → V → Prop
  | non : RV L ι H .non .non
  | bl (b : Bool) : RV L ι H (.bl b) (.bl b)
  | int (i : Int) : RV L ι H (.int i) (.int i)
  | str (x : Str) : RV L ι H (.str x) (.str x)
  | tup {a : Addr} {xs : List VV} {vs : List V} : H a = some (.tup vs) → RVs L ι H xs vs → RV L ι H (.tup xs) (.ref a)
  | ref {n : Nat} {a : Addr} : ι[n]? = some a → RV L ι H (.ref n) (.ref a)
  | rol {a : Addr} {xs : List VV} {vs : List V} : ((∃ o, H a = some (.frz o (.lst vs))) ∨ ∀ H', SqL L.K H' a vs) → RVs L ι H xs vs → RV L ι H (.rol xs) (.ref a)
inductive RVs (L : Lay) (ι : List Addr) (H : Hp) : List VV → List V → Prop
  | nil : RVs L ι H [] []
  | cons {x : VV} {v : V} {xs : List VV} {vs : List V} : RV L ι H x v → RVs L ι H xs vs → RVs L ι H (x :: xs) (v :: vs)
end

/-- what is kept: tuples, locked lists -/
structure Keep0 (H H' : Hp) : Prop where
  tup : ∀ a xs, H a = some (.tup xs) → H' a = some (.tup xs)
  frz : ∀ a o xs, H a = some (.frz o (.lst xs)) → H' a = some (.frz o (.lst xs))
structure Keep (H H' : Hp) : Prop where
  tup : ∀ a xs, H a = some (.tup xs) → H' a = some (.tup xs)
  frd : ∀ a o w, H a = some (.frz o w) → H' a = some (.frz o w)
theorem Keep.frz {H H' : Hp} (k : Keep H H') : ∀ a o xs, H a = some (.frz o (.lst xs)) → H' a = some (.frz o (.lst xs)) := fun a o xs h => k.frd a o _ h
theorem Keep.to0 {H H' : Hp} (k : Keep H H') : Keep0 H H' := ⟨k.tup, k.frz⟩
theorem Keep.refl (H : Hp) : Keep H H := ⟨fun _ _ h => h, fun _ _ _ h => h⟩
theorem Keep.trans {H H1 H2 : Hp} (a : Keep H H1) (b : Keep H1 H2) : Keep H H2 := ⟨fun _ _ h => b.tup _ _ (a.tup _ _ h), fun _ _ _ h => b.frd _ _ _ (a.frd _ _ _ h)⟩
structure Ext0 (ι : List Addr) (H : Hp) (ι' : List Addr) (H' : Hp) : Prop where
  pre : ι <+: ι'
  keep : Keep0 H H'
structure Ext (ι : List Addr) (H : Hp) (ι' : List Addr) (H' : Hp) : Prop where
  pre : ι <+: ι'
  keep : Keep H H'
theorem Ext.to0 {ι ι' : List Addr} {H H' : Hp} (e : Ext ι H ι' H') : Ext0 ι H ι' H' := ⟨e.pre, e.keep.to0⟩
theorem Ext.refl (ι : List Addr) (H : Hp) : Ext ι H ι H := ⟨List.prefix_rfl, Keep.refl H⟩
theorem Ext.trans {ι ι1 ι2 : List Addr} {H H1 H2 : Hp} (a : Ext ι H ι1 H1) (b : Ext ι1 H1 ι2 H2) : Ext ι H ι2 H2 := ⟨a.pre.trans b.pre, a.keep.trans b.keep⟩
theorem pre_get {ι ι' : List Addr} (h : ι <+: ι') {n : Nat} {a : Addr} (e : ι[n]? = some a) : ι'[n]? = some a := by
  obtain ⟨t, rfl⟩ := h
  rw [List.getElem?_append_left (List.getElem?_eq_some_iff.mp e).1]
  exact e
mutual
theorem RV.mono0 {L : Lay} {ι ι' : List Addr} {H H' : Hp} (e : Ext0 ι H ι' H') : ∀ {x : VV} {v : V}, RV L ι H x v → RV L ι' H' x v
  | _, _, .non => .non
  | _, _, .bl b => .bl b
  | _, _, .int i => .int i
  | _, _, .str x => .str x
  | _, _, .tup h r => .tup (e.keep.tup _ _ h) (RVs.mono0 e r)
  | _, _, .ref h => .ref (pre_get e.pre h)
  | _, _, .rol h r => .rol (h.imp (fun ⟨o, q⟩ => ⟨o, e.keep.frz _ _ _ q⟩) id) (RVs.mono0 e r)
theorem RVs.mono0 {L : Lay} {ι ι' : List Addr} {H H' : Hp} (e : Ext0 ι H ι' H') : ∀ {xs : List VV} {vs : List V}, RVs L ι H xs vs → RVs L ι' H' xs vs
  | _, _, .nil => .nil
  | _, _, .cons h r => .cons (RV.mono0 e h) (RVs.mono0 e r)
end
theorem RV.mono {L : Lay} {ι ι' : List Addr} {H H' : Hp} (e : Ext ι H ι' H') {x : VV} {v : V} (h : RV L ι H x v) : RV L ι' H' x v := h.mono0 e.to0
theorem RVs.mono {L : Lay} {ι ι' : List Addr} {H H' : Hp} (e : Ext ι H ι' H') {x : List VV} {v : List V} (h : RVs L ι H x v) : RVs L ι' H' x v := h.mono0 e.to0
section
variable {L : Lay} {ι : List Addr} {H : Hp}
theorem RVs.length : ∀ {xs : List VV} {vs : List V}, RVs L ι H xs vs → xs.length = vs.length
  | _, _, .nil => rfl
  | _, _, .cons _ r => by rw [List.length_cons, List.length_cons, RVs.length r]
theorem RVs.append : ∀ {xs ys : List VV} {vs ws : List V}, RVs L ι H xs vs → RVs L ι H ys ws → RVs L ι H (xs ++ ys) (vs ++ ws)
  | _, _, _, _, .nil, s => s
  | _, _, _, _, .cons h r, s => .cons h (RVs.append r s)
theorem RVs.get : ∀ {xs : List VV} {vs : List V} {i : Nat} {x : VV}, RVs L ι H xs vs → xs[i]? = some x → ∃ v, vs[i]? = some v ∧ RV L ι H x v
  | _, _, _, _, .nil, e => by simp at e
  | _, _, 0, _, .cons h _, e => by simp at e; subst e; exact ⟨_, rfl, h⟩
  | _, _, i + 1, _, .cons _ r, e => by
    obtain ⟨v, h1, h2⟩ := RVs.get r (i := i) (by simpa using e)
    exact ⟨v, by simpa using h1, h2⟩
theorem RVs.getV : ∀ {xs : List VV} {vs : List V} {i : Nat} {v : V}, RVs L ι H xs vs → vs[i]? = some v → ∃ x, xs[i]? = some x ∧ RV L ι H x v
  | _, _, _, _, .nil, e => by simp at e
  | _, _, 0, _, .cons h _, e => by simp at e; subst e; exact ⟨_, rfl, h⟩
  | _, _, i + 1, _, .cons _ r, e => by
    obtain ⟨v, h1, h2⟩ := RVs.getV r (i := i) (by simpa using e)
    exact ⟨v, by simpa using h1, h2⟩
theorem RVs.set : ∀ {xs : List VV} {vs : List V} {x : VV} {v : V} (i : Nat), RVs L ι H xs vs → RV L ι H x v → RVs L ι H (xs.set i x) (vs.set i v)
  | _, _, _, _, _, .nil, _ => .nil
  | _, _, _, _, 0, .cons _ r, q => .cons q r
  | _, _, _, _, i + 1, .cons h r, q => .cons h (RVs.set i r q)
theorem RVs.take : ∀ {xs : List VV} {vs : List V} (i : Nat), RVs L ι H xs vs → RVs L ι H (xs.take i) (vs.take i)
  | _, _, 0, _ => .nil
  | _, _, _ + 1, .nil => .nil
  | _, _, i + 1, .cons h r => .cons h (RVs.take i r)
theorem RVs.drop : ∀ {xs : List VV} {vs : List V} (i : Nat), RVs L ι H xs vs → RVs L ι H (xs.drop i) (vs.drop i)
  | _, _, 0, r => r
  | _, _, _ + 1, .nil => .nil
  | _, _, i + 1, .cons _ r => RVs.drop i r
theorem RVs.eraseIdx : ∀ {xs : List VV} {vs : List V} (i : Nat), RVs L ι H xs vs → RVs L ι H (xs.eraseIdx i) (vs.eraseIdx i)
  | _, _, _, .nil => .nil
  | _, _, 0, .cons _ r => r
  | _, _, i + 1, .cons h r => .cons h (RVs.eraseIdx i r)
theorem RVs.rev : ∀ {xs : List VV} {vs : List V}, RVs L ι H xs vs → RVs L ι H xs.reverse vs.reverse
  | _, _, .nil => .nil
  | _, _, .cons h r => by
    rw [List.reverse_cons, List.reverse_cons]
    exact RVs.append (RVs.rev r) (.cons h .nil)
theorem RVs.repl {x : VV} {v : V} (h : RV L ι H x v) : ∀ n : Nat, RVs L ι H (List.replicate n x) (List.replicate n v)
  | 0 => .nil
  | n + 1 => .cons h (RVs.repl h n)
theorem RVs.dropLast {xs : List VV} {vs : List V} (r : RVs L ι H xs vs) : RVs L ι H xs.dropLast vs.dropLast := by
  rw [List.dropLast_eq_take, List.dropLast_eq_take, r.length]
  exact r.take _
end

/-! ### places in the abstract heap -/
/-- dict entries -/
def RKv {κ : Type} (L : Lay) (ι : List Addr) (H : Hp) : List (κ × VV) → List (κ × V) → Prop := Paired fun p q => p.1 = q.1 ∧ RV L ι H p.2 q.2
def RO (L : Lay) (ι : List Addr) (H : Hp) : OO → HO → Prop
  | .lst xs, o => ∃ vs, o = .lst vs ∧ RVs L ι H xs vs
  | .dK kvs, o => ∃ vs, o = .dK vs ∧ RKv L ι H kvs vs
  | .dT kvs, o => ∃ vs, o = .dT vs ∧ RKv L ι H kvs vs
  | .ins c fs, o => ∃ dx vs, o = .ins (L.C c) dx ((L.att c).zip vs) ∧ RVs L ι H fs vs ∧ fs.length ≤ (L.att c).length
  | .xd c fs, o => ∃ fs', o = .xd fs' ∧ ∀ (i : Nat) (x : VV) (f : Str), fs[i]? = some x → (L.att c)[i]? = some f → ∃ v, fs'.lookup f = some v ∧ RV L ι H x v
  | .xv i k c, o => ∃ a d, ι[i]? = some a ∧ ι[k]? = some d ∧ o = L2.exo a (L.C c) (some d)
  | .xdd c fs, o => ∃ d fs', o = L2.exd d fs' ∧ ∀ (i : Nat) (x : VV) (f : Str), fs[i]? = some x → (L.att c)[i]? = some f → ∃ v, fs'.lookup f = some v ∧ RV L ι H x v
  | .lk o, h => ∃ ob u, h = .frz ob u ∧ RO L ι H o u
theorem RKv.mono0 {κ : Type} {L : Lay} {ι ι' : List Addr} {H H' : Hp} (e : Ext0 ι H ι' H') {a : List (κ × VV)} {b : List (κ × V)} (h : RKv L ι H a b) : RKv L ι' H' a b :=
  L2.Paired.mapP h fun _ _ z => ⟨z.1, z.2.mono0 e⟩
theorem RO.mono0 {L : Lay} {ι ι' : List Addr} {H H' : Hp} (e : Ext0 ι H ι' H') : ∀ {o : OO} {u : HO}, RO L ι H o u → RO L ι' H' o u
  | .lst _, _, ⟨vs, h, r⟩ => ⟨vs, h, r.mono0 e⟩
  | .dK _, _, ⟨vs, h, r⟩ => ⟨vs, h, r.mono0 e⟩
  | .dT _, _, ⟨vs, h, r⟩ => ⟨vs, h, r.mono0 e⟩
  | .ins _ _, _, ⟨dx, vs, h, r, l⟩ => ⟨dx, vs, h, r.mono0 e, l⟩
  | .xd _ _, _, ⟨fs, h, r⟩ => ⟨fs, h, fun i x f a b => let ⟨v, p, q⟩ := r i x f a b; ⟨v, p, q.mono0 e⟩⟩
  | .xv _ _ _, _, ⟨a, d, h1, h2, h⟩ => ⟨a, d, pre_get e.pre h1, pre_get e.pre h2, h⟩
  | .xdd _ _, _, ⟨d, fs, h, r⟩ => ⟨d, fs, h, fun i x f a b => let ⟨v, p, q⟩ := r i x f a b; ⟨v, p, q.mono0 e⟩⟩
  | .lk _, _, ⟨ob, u, h, r⟩ => ⟨ob, u, h, RO.mono0 e r⟩
theorem RKv.mono {κ : Type} {L : Lay} {ι ι' : List Addr} {H H' : Hp} (e : Ext ι H ι' H') {a : List (κ × VV)} {b : List (κ × V)} (h : RKv L ι H a b) : RKv L ι' H' a b := h.mono0 e.to0
theorem RO.mono {L : Lay} {ι ι' : List Addr} {H H' : Hp} (e : Ext ι H ι' H') {o : OO} {u : HO} (h : RO L ι H o u) : RO L ι' H' o u := h.mono0 e.to0
structure Rep (L : Lay) (ι : List Addr) (S : Sto) (H : Hp) : Prop where
  len : ι.length = S.length
  nd : ι.Nodup
  at_ : ∀ (n : Nat) (o : OO), S[n]? = some o → ∃ a u, ι[n]? = some a ∧ H a = some u ∧ RO L ι H o u
  tabs : NdefX.TabsN L.T H
theorem upd_keep {H : Hp} {p : Addr} {o : HO} (h : H p = none) : ∀ b u, H b = some u → upd H p o b = some u := fun b u e => by
  rw [upd_ne (ne_of_none e h)]
  exact e
/-- an object that is no table and no code object changes -/
def Plain (u : HO) : Prop := (∀ ps, u ≠ .tbl ps) ∧ ∀ φ, u ≠ .ext φ
theorem tabs_set {T : List NdefX.NTab} {H : Hp} {a : Addr} {u u' : HO} (t : NdefX.TabsN T H) (h : H a = some u) (p : Plain u) : NdefX.TabsN T (upd H a u') := fun q hq => by
  obtain ⟨ps, h1, h2, h3⟩ := t q hq
  have keep : ∀ b w, H b = some w → w ≠ u → upd H a u' b = some w := fun b w e ne => by
    rw [upd_ne (fun z => ne (by rw [z, h] at e; exact (Option.some.inj e).symm))]
    exact e
  refine ⟨ps, keep _ _ h1 (fun z => p.1 _ z.symm), h2, fun pos cv hc => ?_⟩
  obtain ⟨c, e1, e2⟩ := h3 pos cv hc
  exact ⟨c, e1, keep _ _ e2 (fun z => p.2 _ z.symm)⟩
theorem ro_tup {L : Lay} {ι : List Addr} {H : Hp} {xs : List V} : ∀ {o : OO}, ¬ RO L ι H o (.tup xs)
  | .lst _, ⟨_, h, _⟩ => nomatch h
  | .dK _, ⟨_, h, _⟩ => nomatch h
  | .dT _, ⟨_, h, _⟩ => nomatch h
  | .ins _ _, ⟨_, _, h, _⟩ => nomatch h
  | .xd _ _, ⟨_, h, _⟩ => nomatch h
  | .lk _, ⟨_, _, h, _⟩ => nomatch h
section
variable {L : Lay} {ι : List Addr} {S : Sto} {H : Hp}
theorem Rep.addr (r : Rep L ι S H) {n : Nat} {a : Addr} (h : ι[n]? = some a) : ∃ o u, S[n]? = some o ∧ H a = some u ∧ RO L ι H o u := by
  have hn : n < S.length := by rw [← r.len]; exact (List.getElem?_eq_some_iff.mp h).1
  obtain ⟨a', u, h1, h2, h3⟩ := r.at_ n _ (List.getElem?_eq_getElem hn)
  rw [h] at h1
  cases h1
  exact ⟨_, u, List.getElem?_eq_getElem hn, h2, h3⟩
theorem nd_ne {ι : List Addr} (nd : ι.Nodup) {n m : Nat} {a b : Addr} (h : ι[n]? = some a) (h' : ι[m]? = some b) (e : n ≠ m) : a ≠ b := fun z => by
  subst z
  obtain ⟨h1, e1⟩ := List.getElem?_eq_some_iff.mp h
  obtain ⟨h2, e2⟩ := List.getElem?_eq_some_iff.mp h'
  exact e ((List.getElem_inj nd).mp (e1.trans e2.symm))
/-- a new object that no place has -/
theorem Keep.new {H : Hp} {p : Addr} {o : HO} (h : H p = none) : Keep H (upd H p o) := by
  refine ⟨fun a xs z => ?_, fun a ob xs z => ?_⟩
  · rw [upd_ne (ne_of_none z h)]
    exact z
  · rw [upd_ne (ne_of_none z h)]
    exact z
/-- a tuple is made: no place of the store -/
theorem Rep.tupnew {p : Addr} {xs : List V} (r : Rep L ι S H) (h : H p = none) : Rep L ι S (upd H p (.tup xs)) := by
  refine ⟨r.len, r.nd, fun n o e => ?_, r.tabs.ext (upd_keep h)⟩
  obtain ⟨a, u, h1, h2, h3⟩ := r.at_ n o e
  exact ⟨a, u, h1, by rw [upd_ne (ne_of_none h2 h)]; exact h2, h3.mono ⟨List.prefix_rfl, Keep.new h⟩⟩
/-- anything new that no place has -/
theorem Rep.other {p : Addr} {o : HO} (r : Rep L ι S H) (h : H p = none) : Rep L ι S (upd H p o) := by
  refine ⟨r.len, r.nd, fun n o e => ?_, r.tabs.ext (upd_keep h)⟩
  obtain ⟨a, u, h1, h2, h3⟩ := r.at_ n o e
  exact ⟨a, u, h1, by rw [upd_ne (ne_of_none h2 h)]; exact h2, h3.mono ⟨List.prefix_rfl, Keep.new h⟩⟩
/-- a new place -/
theorem Rep.new {p : Addr} {o : OO} {u : HO} (r : Rep L ι S H) (h : H p = none) (hr : RO L (ι ++ [p]) (upd H p u) o u) : Rep L (ι ++ [p]) (S ++ [o]) (upd H p u) := by
  have hp : p ∉ ι := fun hm => by
    obtain ⟨n, hn⟩ := List.mem_iff_getElem?.mp hm
    obtain ⟨_, u, _, h2, _⟩ := r.addr hn
    rw [h] at h2
    cases h2
  have ex : Ext ι H (ι ++ [p]) (upd H p u) := ⟨List.prefix_append _ _, Keep.new h⟩
  refine ⟨by rw [List.length_append, List.length_append, r.len]; rfl, ?_, fun n o' e => ?_, r.tabs.ext (upd_keep h)⟩
  · rw [List.nodup_append]
    refine ⟨r.nd, by simp, fun a ha b hb z => ?_⟩
    rw [List.mem_singleton] at hb
    exact hp (by rw [← hb, ← z]; exact ha)
  · by_cases hn : n < S.length
    · rw [List.getElem?_append_left hn] at e
      obtain ⟨a, v, h1, h2, h3⟩ := r.at_ n o' e
      exact ⟨a, v, pre_get ex.pre h1, by rw [upd_ne (ne_of_none h2 h)]; exact h2, h3.mono ex⟩
    · rw [List.getElem?_append_right (by omega)] at e
      have hn0 : n - S.length = 0 := by
        by_cases z : n - S.length = 0
        · exact z
        · rw [List.getElem?_eq_none (by simp only [List.length_singleton]; omega)] at e
          cases e
      rw [hn0] at e
      cases e
      refine ⟨p, u, ?_, upd_same, hr⟩
      rw [List.getElem?_append_right (by rw [r.len]; omega), r.len, hn0]
      rfl
theorem Rep.newExt {p : Addr} {u : HO} (h : H p = none) : Ext ι H (ι ++ [p]) (upd H p u) := ⟨List.prefix_append _ _, Keep.new h⟩
theorem Rep.newRef {p : Addr} (r : Rep L ι S H) {H' : Hp} : RV L (ι ++ [p]) H' (.ref S.length) (.ref p) := by
  refine .ref ?_
  rw [List.getElem?_append_right (by rw [r.len]; omega), r.len]
  simp
/-- an object changes -/
theorem Keep.set {H : Hp} {a : Addr} {o u : HO} (h : H a = some o) (ht : ∀ xs, o ≠ .tup xs) (hf : ∀ ob w, o ≠ .frz ob w) : Keep H (upd H a u) := by
  refine ⟨fun b xs z => ?_, fun b ob xs z => ?_⟩
  · rw [upd_ne (ne_of z h fun e => ht _ e.symm)]
    exact z
  · rw [upd_ne (ne_of z h fun e => hf _ _ e.symm)]
    exact z
theorem Rep.set {n : Nat} {a : Addr} {o : OO} {u u' : HO} (r : Rep L ι S H) (hn : ι[n]? = some a) (hu : H a = some u) (k : Keep H (upd H a u')) (hr : RO L ι (upd H a u') o u') (pl : Plain u := by exact ⟨(fun _ z => by cases z), (fun _ z => by cases z)⟩) : Rep L ι (S.set n o) (upd H a u') := by
  have ex : Ext ι H ι (upd H a u') := ⟨List.prefix_rfl, k⟩
  refine ⟨by rw [List.length_set]; exact r.len, r.nd, fun m o' e => ?_, tabs_set r.tabs hu pl⟩
  by_cases hm : m = n
  · subst hm
    have hl : m < S.length := by rw [← r.len]; exact (List.getElem?_eq_some_iff.mp hn).1
    rw [List.getElem?_set_self hl] at e
    cases e
    exact ⟨a, u', hn, upd_same, hr⟩
  · rw [List.getElem?_set_ne (Ne.symm hm)] at e
    obtain ⟨b, v, h1, h2, h3⟩ := r.at_ m o' e
    exact ⟨b, v, h1, by rw [upd_ne (nd_ne r.nd h1 hn hm)]; exact h2, h3.mono ex⟩
end

/-! ### slots -/
structure RS (L : Lay) (ι : List Addr) (H : Hp) (σ : Sg) (τ : St) : Prop where
  len : σ.length = τ.length
  at_ : ∀ (i : Nat) (x : VV), σ[i]? = some (some x) → ∃ v, τ[i]? = some (some v) ∧ RV L ι H x v
theorem RS.mono {L : Lay} {ι ι' : List Addr} {H H' : Hp} {σ : Sg} {τ : St} (e : Ext ι H ι' H') (r : RS L ι H σ τ) : RS L ι' H' σ τ :=
  ⟨r.len, fun i x h => let ⟨v, a, b⟩ := r.at_ i x h; ⟨v, a, b.mono e⟩⟩
theorem RS.set {L : Lay} {ι : List Addr} {H : Hp} {σ : Sg} {τ : St} {x : VV} {v : V} (i : Nat) (r : RS L ι H σ τ) (h : RV L ι H x v) : RS L ι H (σ.set i (some x)) (τ.set i (some v)) := by
  refine ⟨by rw [List.length_set, List.length_set]; exact r.len, fun j y e => ?_⟩
  by_cases hj : j = i
  · subst hj
    by_cases hl : j < σ.length
    · rw [List.getElem?_set_self hl] at e
      cases e
      exact ⟨v, List.getElem?_set_self (by rw [← r.len]; exact hl), h⟩
    · rw [List.getElem?_eq_none (by rw [List.length_set]; omega)] at e
      cases e
  · rw [List.getElem?_set_ne (Ne.symm hj)] at e
    rw [List.getElem?_set_ne (Ne.symm hj)]
    exact r.at_ j y e
theorem RS.gone {L : Lay} {ι : List Addr} {H : Hp} {σ : Sg} {τ : St} {o : Option V} (i : Nat) (r : RS L ι H σ τ) : RS L ι H (σ.set i none) (τ.set i o) := by
  refine ⟨by rw [List.length_set, List.length_set]; exact r.len, fun j y e => ?_⟩
  by_cases hj : j = i
  · subst hj
    by_cases hl : j < σ.length
    · rw [List.getElem?_set_self hl] at e
      cases e
    · rw [List.getElem?_eq_none (by rw [List.length_set]; omega)] at e
      cases e
  · rw [List.getElem?_set_ne (Ne.symm hj)] at e
    rw [List.getElem?_set_ne (Ne.symm hj)]
    exact r.at_ j y e
def startM (n : Nat) (xs : List VV) : Sg := xs.map some ++ List.replicate (n - xs.length) none
theorem RS.start {L : Lay} {ι : List Addr} {H : Hp} {N : List Str} {xs : List VV} {vs : List V} (r : RVs L ι H xs vs) : RS L ι H (startM N.length xs) (L2.start N vs) := by
  have hl := r.length
  refine ⟨by unfold startM L2.start; simp [hl], fun i x e => ?_⟩
  unfold startM at e
  unfold L2.start
  by_cases hi : i < xs.length
  · rw [List.getElem?_append_left (by simpa using hi), List.getElem?_map] at e
    have e' : xs[i]? = some x := by
      cases q : xs[i]? with
      | none => rw [q] at e; cases e
      | some y => rw [q] at e; cases e; rfl
    obtain ⟨v, h1, h2⟩ := r.get e'
    refine ⟨v, ?_, h2⟩
    rw [List.getElem?_append_left (by simp only [List.length_map]; omega), List.getElem?_map, h1]
    rfl
  · rw [List.getElem?_append_right (by simpa using hi), List.getElem?_replicate] at e
    split at e <;> cases e

/-! ### ends -/
section
variable (L : Lay)
/-- what an exception in the air is: its class, its own dict, a place of the store -/
def XR (ι : List Addr) (S : Sto) (n : Nat) (cls : Value) (d : Option Addr) : Prop := ∃ c fs dd, S[n]? = some (.xd c fs) ∧ cls = .ref (L.C c) ∧ d = some dd ∧ ι[n]? = some dd
def OutE (ι : List Addr) (H : Hp) (r : Res VV) (Q : VK) (E : XK) : Prop := match r with
  | .ok x S => ∀ ι' H' v, Ext ι H ι' H' → Rep L ι' S H' → RV L ι' H' x v → Q v H'
  | .exc n S => ∀ ι' H' cls d, Ext ι H ι' H' → Rep L ι' S H' → XR L ι' S n cls d → E cls d H'
  | .fail => False
def OutT (ι : List Addr) (H : Hp) (r : Res Bool) (Q : Bool → Hp → Prop) (E : XK) : Prop := match r with
  | .ok b S => ∀ ι' H', Ext ι H ι' H' → Rep L ι' S H' → Q b H'
  | .exc n S => ∀ ι' H' cls d, Ext ι H ι' H' → Rep L ι' S H' → XR L ι' S n cls d → E cls d H'
  | .fail => False
def OutA (ι : List Addr) (H : Hp) (r : Res (List VV)) (Q : List V → Hp → Prop) (E : XK) : Prop := match r with
  | .ok xs S => ∀ ι' H' vs, Ext ι H ι' H' → Rep L ι' S H' → RVs L ι' H' xs vs → Q vs H'
  | .exc n S => ∀ ι' H' cls d, Ext ι H ι' H' → Rep L ι' S H' → XR L ι' S n cls d → E cls d H'
  | .fail => False
def OutS (W : WX) (ι : List Addr) (H : Hp) (r : SR) (D : Ends) : Prop := match r with
  | .nx σ S => ∀ ι' H' τ, Ext ι H ι' H' → Rep L ι' S H' → RS L ι' H' σ τ → D.nx τ H'
  | .rt x S => ∀ ι' H' v, Ext ι H ι' H' → Rep L ι' S H' → RV L ι' H' x v → D.rt v H'
  | .bk σ S => ∀ ι' H' τ, Ext ι H ι' H' → Rep L ι' S H' → RS L ι' H' σ τ → D.bk τ H'
  | .ct σ S => ∀ ι' H' τ, Ext ι H ι' H' → Rep L ι' S H' → RS L ι' H' σ τ → D.ct τ H'
  | .exc n σ S => ∀ ι' H' τ cls d, Ext ι H ι' H' → Rep L ι' S H' → RS L ι' H' σ τ → XR L ι' S n cls d → W cls d τ H'
  | .fail => False
/-- the readings of the mirror's pieces -/
def rdE (W : WX) (m : EM) : TE := fun τ H Q => ∃ ι S σ, Rep L ι S H ∧ RS L ι H σ τ ∧ OutE L ι H (m σ S) Q fun c d H' => W c d τ H'
def rdT (W : WX) (m : TM) : TT := fun τ H Q => ∃ ι S σ, Rep L ι S H ∧ RS L ι H σ τ ∧ OutT L ι H (m σ S) Q fun c d H' => W c d τ H'
def rdA (W : WX) (m : AM) : TA := fun τ H Q => ∃ ι S σ, Rep L ι S H ∧ RS L ι H σ τ ∧ OutA L ι H (m σ S) Q fun c d H' => W c d τ H'
def rdS (W : WX) (m : SM) : TS := fun D τ H => ∃ ι S σ, Rep L ι S H ∧ RS L ι H σ τ ∧ OutS L W ι H (m σ S) D
end
section
variable {L : Lay} {ι ι' : List Addr} {H H' : Hp}
theorem OutE.mono {r : Res VV} {Q : VK} {E : XK} (e : Ext ι H ι' H') (h : OutE L ι H r Q E) : OutE L ι' H' r Q E := by
  cases r with
  | ok x S => exact fun ι2 H2 v e2 => h ι2 H2 v (e.trans e2)
  | exc n S => exact fun ι2 H2 c d e2 => h ι2 H2 c d (e.trans e2)
  | fail => exact h
theorem OutT.mono {r : Res Bool} {Q : Bool → Hp → Prop} {E : XK} (e : Ext ι H ι' H') (h : OutT L ι H r Q E) : OutT L ι' H' r Q E := by
  cases r with
  | ok x S => exact fun ι2 H2 e2 => h ι2 H2 (e.trans e2)
  | exc n S => exact fun ι2 H2 c d e2 => h ι2 H2 c d (e.trans e2)
  | fail => exact h
theorem OutA.mono {r : Res (List VV)} {Q : List V → Hp → Prop} {E : XK} (e : Ext ι H ι' H') (h : OutA L ι H r Q E) : OutA L ι' H' r Q E := by
  cases r with
  | ok x S => exact fun ι2 H2 v e2 => h ι2 H2 v (e.trans e2)
  | exc n S => exact fun ι2 H2 c d e2 => h ι2 H2 c d (e.trans e2)
  | fail => exact h
theorem OutS.mono {r : SR} {W : WX} {D : Ends} (e : Ext ι H ι' H') (h : OutS L W ι H r D) : OutS L W ι' H' r D := by
  cases r with
  | nx σ S => exact fun ι2 H2 v e2 => h ι2 H2 v (e.trans e2)
  | rt σ S => exact fun ι2 H2 v e2 => h ι2 H2 v (e.trans e2)
  | bk σ S => exact fun ι2 H2 v e2 => h ι2 H2 v (e.trans e2)
  | ct σ S => exact fun ι2 H2 v e2 => h ι2 H2 v (e.trans e2)
  | exc n σ S => exact fun ι2 H2 v c d e2 => h ι2 H2 v c d (e.trans e2)
  | fail => exact h
end

/-! ### judgements -/
abbrev ME (X : Cx) (L : Lay) (W : WX) (e : Expr) (m : EM) : Prop := PE X e (rdE L W m)
abbrev MT (X : Cx) (L : Lay) (W : WX) (e : Expr) (m : TM) : Prop := PT X e (rdT L W m)
abbrev MA (X : Cx) (L : Lay) (W : WX) (es : List Expr) (m : AM) : Prop := PA X es (rdA L W m)
abbrev MS (X : Cx) (L : Lay) (W : WX) (s : Stmt) (m : SM) : Prop := PS X s (rdS L W m)
abbrev MSs (X : Cx) (L : Lay) (W : WX) (s : List Stmt) (m : SM) : Prop := PSs X s (rdS L W m)
theorem PE.wk {X : Cx} {e : Expr} {t t' : TE} (h : PE X e t) (k : ∀ τ H Q, t' τ H Q → t τ H Q) : PE X e t' := ⟨fun pins s τ H Q I q => h.run pins s τ H Q I (k _ _ _ q)⟩
theorem PT.wk {X : Cx} {e : Expr} {t t' : TT} (h : PT X e t) (k : ∀ τ H Q, t' τ H Q → t τ H Q) : PT X e t' := ⟨fun pins s τ H Q I q => h.run pins s τ H Q I (k _ _ _ q)⟩
theorem PW.wk {X : Cx} {e : Expr} {t t' : TT} (h : PW X e t) (k : ∀ τ H Q, t' τ H Q → t τ H Q) : PW X e t' := ⟨fun wh pins s τ H Q I q => h.run wh pins s τ H Q I (k _ _ _ q)⟩
theorem PA.wk {X : Cx} {e : List Expr} {t t' : TA} (h : PA X e t) (k : ∀ τ H Q, t' τ H Q → t τ H Q) : PA X e t' := ⟨fun pos pins s τ H Q I q => h.run pos pins s τ H Q I (k _ _ _ q)⟩
theorem PS.wk {X : Cx} {e : Stmt} {t t' : TS} (h : PS X e t) (k : ∀ D τ H, t' D τ H → t D τ H) : PS X e t' := ⟨fun pins s τ H D I q => h.run pins s τ H D I (k _ _ _ q)⟩
theorem PSs.wk {X : Cx} {e : List Stmt} {t t' : TS} (h : PSs X e t) (k : ∀ D τ H, t' D τ H → t D τ H) : PSs X e t' := ⟨fun pins s τ H D I q => h.run pins s τ H D I (k _ _ _ q)⟩
theorem PE.or {X : Cx} {e : Expr} {t t' : TE} (h : PE X e t) (h' : PE X e t') : PE X e (fun τ H Q => t τ H Q ∨ t' τ H Q) := ⟨fun pins s τ H Q I q => q.elim (h.run pins s τ H Q I) (h'.run pins s τ H Q I)⟩
/-- one piece ahead of another -/
theorem bindE {L : Lay} {W : WX} {ma : EM} {τ : St} {H : Hp} {k : V → Hp → Prop} {ι : List Addr} {S : Sto} {σ : Sg} (hr : Rep L ι S H) (hs : RS L ι H σ τ)
    (h : match ma σ S with
      | .ok x S1 => ∀ ι1 H1 v, Ext ι H ι1 H1 → Rep L ι1 S1 H1 → RS L ι1 H1 σ τ → RV L ι1 H1 x v → k v H1
      | .exc n S1 => ∀ ι' H' cls d, Ext ι H ι' H' → Rep L ι' S1 H' → XR L ι' S1 n cls d → W cls d τ H'
      | .fail => False) : rdE L W ma τ H k := by
  refine ⟨ι, S, σ, hr, hs, ?_⟩
  cases e : ma σ S with
  | ok x S1 =>
    rw [e] at h
    exact fun ι1 H1 v ex r1 rv => h ι1 H1 v ex r1 (hs.mono ex) rv
  | exc n S1 =>
    rw [e] at h
    exact h
  | fail =>
    rw [e] at h
    exact h
end Sx
end
section
/-! Sx2: the mirror's expressions, each by the layer's rule. -/
namespace Sx
open PySem L2

/-! ### pieces -/
def mV (i : Nat) : EM := fun σ S => match σ[i]? with
  | some (some x) => .ok x S
  | _ => .fail
def mC (x : VV) : EM := fun _ S => .ok x S
def mNil : AM := fun _ S => .ok [] S
def mCons (a : EM) (r : AM) : AM := fun σ S => (a σ S).bind fun x S1 => (r σ S1).bind fun xs S2 => .ok (x :: xs) S2
def mTup (a : AM) : EM := fun σ S => (a σ S).bind fun xs S1 => if xs.length ≤ 100000 then .ok (.tup xs) S1 else .fail
def mLst (a : AM) : EM := fun σ S => (a σ S).bind fun xs S1 => if xs.length ≤ 100000 then .ok (.ref S1.length) (S1 ++ [.lst xs]) else .fail
def mOp (g : VV → VV → Sto → Res VV) (a b : EM) : EM := fun σ S => (a σ S).bind fun x S1 => (b σ S1).bind fun y S2 => g x y S2
def mUn (g : VV → Sto → Res VV) (a : EM) : EM := fun σ S => (a σ S).bind fun x S1 => g x S1
def mCB (g : List VV → Sto → Res VV) (a : AM) : EM := fun σ S => (a σ S).bind fun xs S1 => g xs S1
def mTst (a : EM) : TM := fun σ S => (a σ S).bind fun x S1 => match x with
  | .bl b => .ok b S1
  | _ => .fail
def mNot (a : TM) : TM := fun σ S => (a σ S).bind fun b S1 => .ok (!b) S1
def mAnd (a b : TM) : TM := fun σ S => (a σ S).bind fun c S1 => if c = true then b σ S1 else .ok false S1
def mOr (a b : TM) : TM := fun σ S => (a σ S).bind fun c S1 => if c = true then .ok true S1 else b σ S1
def mAndV (a b : EM) : EM := fun σ S => (a σ S).bind fun x S1 => match x with
  | .bl c => if c = true then b σ S1 else .ok (.bl false) S1
  | _ => .fail
def mOrV (a b : EM) : EM := fun σ S => (a σ S).bind fun x S1 => match x with
  | .bl c => if c = true then .ok (.bl true) S1 else b σ S1
  | _ => .fail
def mNotV (a : EM) : EM := fun σ S => (a σ S).bind fun x S1 => match x with
  | .bl c => .ok (.bl (!c)) S1
  | _ => .fail
def mIf (t : TM) (a b : EM) : EM := fun σ S => (t σ S).bind fun c S1 => if c = true then a σ S1 else b σ S1

section
variable {X : Cx} {L : Lay} {W : WX}
/-- an operation on values, by values of the mirror -/
def rdO (L : Lay) (g : VV → VV → Sto → Res VV) : R2 := fun vx vy H Q => ∃ ι S x y, Rep L ι S H ∧ RV L ι H x vx ∧ RV L ι H y vy ∧ OutE L ι H (g x y S) Q (fun _ _ _ => False)
def rdU (L : Lay) (g : VV → Sto → Res VV) : V → Hp → VK → Prop := fun vx H Q => ∃ ι S x, Rep L ι S H ∧ RV L ι H x vx ∧ OutE L ι H (g x S) Q (fun _ _ _ => False)
def rdC (L : Lay) (g : List VV → Sto → Res VV) : List V → Hp → VK → Prop := fun vs H Q => ∃ ι S xs, Rep L ι S H ∧ RVs L ι H xs vs ∧ OutE L ι H (g xs S) Q (fun _ _ _ => False)
/-- what raises nothing -/
def NoX {α : Type} (r : Res α) : Prop := ∀ n S, r ≠ .exc n S

/-! ### names, constants, arguments -/
theorem me_v (i : Nat) {e : Expr} (h : PE X e (tVar i)) : ME X L W e (mV i) := PE.wk h fun τ H Q ⟨ι, S, σ, hr, hs, o⟩ => by
  unfold mV at o
  cases e1 : σ[i]? with
  | none => rw [e1] at o; exact o.elim
  | some w =>
    cases w with
    | none => rw [e1] at o; exact o.elim
    | some x =>
      rw [e1] at o
      obtain ⟨v, h1, h2⟩ := hs.at_ i x e1
      exact ⟨v, h1, o ι H v (Ext.refl _ _) hr h2⟩
theorem me_c {e : Expr} {x : VV} {v : V} (h : PE X e (tC v)) (r : ∀ ι H, RV L ι H x v) : ME X L W e (mC x) := PE.wk h fun τ H Q ⟨ι, S, σ, hr, hs, o⟩ => o ι H v (Ext.refl _ _) hr (r ι H)
theorem me_int {i : Int} {j : Nat} {pos : Pos} : ME X L W (.Constant (.int i) j pos) (mC (.int i)) := me_c pe_int fun _ _ => .int i
theorem me_bl {b : Bool} {j : Nat} {pos : Pos} : ME X L W (.Constant (.bool b) j pos) (mC (.bl b)) := me_c pe_bl fun _ _ => .bl b
theorem me_non {j : Nat} {pos : Pos} : ME X L W (.Constant .none j pos) (mC .non) := me_c pe_non fun _ _ => .non
theorem me_str {x : Str} {j : Nat} {pos : Pos} : ME X L W (.Constant (.str x) j pos) (mC (.str x)) := me_c pe_str fun _ _ => .str x
theorem ma_nil : MA X L W [] mNil := PA.wk pa_nil fun τ H Q ⟨ι, S, σ, hr, hs, o⟩ => o ι H [] (Ext.refl _ _) hr .nil
theorem ma_cons {e : Expr} {es : List Expr} {a : EM} {r : AM} (ha : ME X L W e a) (hr : MA X L W es r) (hs : starEach (e :: es) X.env = (false, eval e X.env) :: starEach es X.env := by rfl) : MA X L W (e :: es) (mCons a r) :=
  PA.wk (pa_cons ha hr hs) fun τ H Q ⟨ι, S, σ, rp, rs, o⟩ => by
    unfold mCons at o
    refine bindE rp rs ?_
    cases e1 : a σ S with
    | ok x S1 =>
      rw [e1] at o
      intro ι1 H1 v ex r1 s1 rv
      refine ⟨ι1, S1, σ, r1, s1, ?_⟩
      have o1 := o
      dsimp only [Res.bind] at o1
      cases e2 : r σ S1 with
      | ok xs S2 =>
        rw [e2] at o1
        exact fun ι2 H2 vs ex2 r2 rvs => o1 ι2 H2 (v :: vs) (ex.trans ex2) r2 (.cons (rv.mono ex2) rvs)
      | exc n S2 =>
        rw [e2] at o1
        exact fun ι2 H2 c d ex2 r2 x2 => o1 ι2 H2 c d (ex.trans ex2) r2 x2
      | fail => rw [e2] at o1; exact o1.elim
    | exc n S1 => rw [e1] at o; exact o
    | fail => rw [e1] at o; exact o.elim
theorem bindA {ma : AM} {τ : St} {H : Hp} {k : List V → Hp → Prop} {ι : List Addr} {S : Sto} {σ : Sg} (hr : Rep L ι S H) (hs : RS L ι H σ τ)
    (h : match ma σ S with
      | .ok x S1 => ∀ ι1 H1 v, Ext ι H ι1 H1 → Rep L ι1 S1 H1 → RS L ι1 H1 σ τ → RVs L ι1 H1 x v → k v H1
      | .exc n S1 => ∀ ι' H' cls d, Ext ι H ι' H' → Rep L ι' S1 H' → XR L ι' S1 n cls d → W cls d τ H'
      | .fail => False) : rdA L W ma τ H k := by
  refine ⟨ι, S, σ, hr, hs, ?_⟩
  cases e : ma σ S with
  | ok x S1 =>
    rw [e] at h
    exact fun ι1 H1 v ex r1 rv => h ι1 H1 v ex r1 (hs.mono ex) rv
  | exc n S1 =>
    rw [e] at h
    exact h
  | fail =>
    rw [e] at h
    exact h
theorem bindT {ma : TM} {τ : St} {H : Hp} {k : Bool → Hp → Prop} {ι : List Addr} {S : Sto} {σ : Sg} (hr : Rep L ι S H) (hs : RS L ι H σ τ)
    (h : match ma σ S with
      | .ok b S1 => ∀ ι1 H1, Ext ι H ι1 H1 → Rep L ι1 S1 H1 → RS L ι1 H1 σ τ → k b H1
      | .exc n S1 => ∀ ι' H' cls d, Ext ι H ι' H' → Rep L ι' S1 H' → XR L ι' S1 n cls d → W cls d τ H'
      | .fail => False) : rdT L W ma τ H k := by
  refine ⟨ι, S, σ, hr, hs, ?_⟩
  cases e : ma σ S with
  | ok x S1 =>
    rw [e] at h
    exact fun ι1 H1 ex r1 => h ι1 H1 ex r1 (hs.mono ex)
  | exc n S1 =>
    rw [e] at h
    exact h
  | fail =>
    rw [e] at h
    exact h
/-- the usual road: what the first part's end is -/
theorem stepE {a : EM} {k : VV → Sto → Res VV} {τ : St} {H : Hp} {Q : VK} {R : V → Hp → Prop} {ι : List Addr} {S : Sto} {σ : Sg} (rp : Rep L ι S H) (rs : RS L ι H σ τ) (o : OutE L ι H ((a σ S).bind k) Q fun c d H' => W c d τ H')
    (h : ∀ x S1 ι1 H1 v, Ext ι H ι1 H1 → Rep L ι1 S1 H1 → RS L ι1 H1 σ τ → RV L ι1 H1 x v → OutE L ι1 H1 (k x S1) Q (fun c d H' => W c d τ H') → R v H1) : rdE L W a τ H R := by
  refine bindE rp rs ?_
  cases e1 : a σ S with
  | ok x S1 =>
    rw [e1] at o
    exact fun ι1 H1 v ex r1 s1 rv => h x S1 ι1 H1 v ex r1 s1 rv (OutE.mono ex o)
  | exc n S1 => rw [e1] at o; exact o
  | fail => rw [e1] at o; exact o.elim
theorem stepA {a : AM} {k : List VV → Sto → Res VV} {τ : St} {H : Hp} {Q : VK} {R : List V → Hp → Prop} {ι : List Addr} {S : Sto} {σ : Sg} (rp : Rep L ι S H) (rs : RS L ι H σ τ) (o : OutE L ι H ((a σ S).bind k) Q fun c d H' => W c d τ H')
    (h : ∀ xs S1 ι1 H1 vs, Ext ι H ι1 H1 → Rep L ι1 S1 H1 → RS L ι1 H1 σ τ → RVs L ι1 H1 xs vs → OutE L ι1 H1 (k xs S1) Q (fun c d H' => W c d τ H') → R vs H1) : rdA L W a τ H R := by
  refine bindA rp rs ?_
  cases e1 : a σ S with
  | ok x S1 =>
    rw [e1] at o
    exact fun ι1 H1 v ex r1 s1 rv => h x S1 ι1 H1 v ex r1 s1 rv (OutE.mono ex o)
  | exc n S1 => rw [e1] at o; exact o
  | fail => rw [e1] at o; exact o.elim
theorem stepT {a : TM} {k : Bool → Sto → Res VV} {τ : St} {H : Hp} {Q : VK} {R : Bool → Hp → Prop} {ι : List Addr} {S : Sto} {σ : Sg} (rp : Rep L ι S H) (rs : RS L ι H σ τ) (o : OutE L ι H ((a σ S).bind k) Q fun c d H' => W c d τ H')
    (h : ∀ b S1 ι1 H1, Ext ι H ι1 H1 → Rep L ι1 S1 H1 → RS L ι1 H1 σ τ → OutE L ι1 H1 (k b S1) Q (fun c d H' => W c d τ H') → R b H1) : rdT L W a τ H R := by
  refine bindT rp rs ?_
  cases e1 : a σ S with
  | ok x S1 =>
    rw [e1] at o
    exact fun ι1 H1 ex r1 s1 => h x S1 ι1 H1 ex r1 s1 (OutE.mono ex o)
  | exc n S1 => rw [e1] at o; exact o
  | fail => rw [e1] at o; exact o.elim
theorem stepET {a : EM} {k : VV → Sto → Res Bool} {τ : St} {H : Hp} {Q : Bool → Hp → Prop} {R : V → Hp → Prop} {ι : List Addr} {S : Sto} {σ : Sg} (rp : Rep L ι S H) (rs : RS L ι H σ τ) (o : OutT L ι H ((a σ S).bind k) Q fun c d H' => W c d τ H')
    (h : ∀ x S1 ι1 H1 v, Ext ι H ι1 H1 → Rep L ι1 S1 H1 → RS L ι1 H1 σ τ → RV L ι1 H1 x v → OutT L ι1 H1 (k x S1) Q (fun c d H' => W c d τ H') → R v H1) : rdE L W a τ H R := by
  refine bindE rp rs ?_
  cases e1 : a σ S with
  | ok x S1 =>
    rw [e1] at o
    exact fun ι1 H1 v ex r1 s1 rv => h x S1 ι1 H1 v ex r1 s1 rv (OutT.mono ex o)
  | exc n S1 => rw [e1] at o; exact o
  | fail => rw [e1] at o; exact o.elim
theorem stepTT {a : TM} {k : Bool → Sto → Res Bool} {τ : St} {H : Hp} {Q : Bool → Hp → Prop} {R : Bool → Hp → Prop} {ι : List Addr} {S : Sto} {σ : Sg} (rp : Rep L ι S H) (rs : RS L ι H σ τ) (o : OutT L ι H ((a σ S).bind k) Q fun c d H' => W c d τ H')
    (h : ∀ b S1 ι1 H1, Ext ι H ι1 H1 → Rep L ι1 S1 H1 → RS L ι1 H1 σ τ → OutT L ι1 H1 (k b S1) Q (fun c d H' => W c d τ H') → R b H1) : rdT L W a τ H R := by
  refine bindT rp rs ?_
  cases e1 : a σ S with
  | ok x S1 =>
    rw [e1] at o
    exact fun ι1 H1 ex r1 s1 => h x S1 ι1 H1 ex r1 s1 (OutT.mono ex o)
  | exc n S1 => rw [e1] at o; exact o
  | fail => rw [e1] at o; exact o.elim

theorem sz_of {n : Nat} (h : n ≤ 100000) : n ≤ sizeLine := Nat.le_trans h (by decide)
theorem me_tup {es : List Expr} {x1 : Nat} {pos : Pos} {a : AM} (h : MA X L W es a) : ME X L W (.Tuple es x1 pos) (mTup a) := PE.wk (pe_tup h) fun τ H Q ⟨ι, S, σ, rp, rs, o⟩ =>
  stepA rp rs o fun xs S1 ι1 H1 vs ex r1 s1 rv o1 => by
    by_cases hl : xs.length ≤ 100000
    · rw [if_pos hl] at o1
      refine ⟨by rw [← rv.length]; exact sz_of hl, fun p hp => ?_⟩
      have e2 : Ext ι1 H1 ι1 (upd H1 p (.tup vs)) := ⟨List.prefix_rfl, Keep.new hp⟩
      exact o1 ι1 _ _ e2 (r1.other hp) (.tup upd_same (rv.mono e2))
    · rw [if_neg hl] at o1
      exact o1.elim
theorem me_lst {es : List Expr} {pos : Pos} {a : AM} (h : MA X L W es a) : ME X L W (.List es pos) (mLst a) := PE.wk (pe_lst h) fun τ H Q ⟨ι, S, σ, rp, rs, o⟩ =>
  stepA rp rs o fun xs S1 ι1 H1 vs ex r1 s1 rv o1 => by
    by_cases hl : xs.length ≤ 100000
    · rw [if_pos hl] at o1
      refine ⟨by rw [← rv.length]; exact sz_of hl, fun p hp => ?_⟩
      have e2 : Ext ι1 H1 (ι1 ++ [p]) (upd H1 p (.lst vs)) := Rep.newExt hp
      exact o1 _ _ _ e2 (r1.new hp ⟨vs, rfl, rv.mono e2⟩) r1.newRef
    · rw [if_neg hl] at o1
      exact o1.elim

/-! ### tests -/
theorem mt_tst {e : Expr} {a : EM} (h : ME X L W e a) (he : ∀ whole, isTrue e X.env whole = (do let v ← whole; standAt e.pos; holding [v] (truthy v)) := by intro _; rfl) : MT X L W e (mTst a) :=
  PT.wk (pt_val h he) fun τ H Q ⟨ι, S, σ, rp, rs, o⟩ => stepET rp rs o fun x S1 ι1 H1 v ex r1 s1 rv o1 => by
    cases x with
    | bl b =>
      cases rv
      exact ⟨b, rfl, o1 ι1 H1 (Ext.refl _ _) r1⟩
    | _ => exact o1.elim
theorem mt_cmp {a b : Expr} {op : CmpOp} {pos : Pos} {m : EM} {r : R2} {ta tb : TE} (ho : OpR X (compareOp op) r) (ha : PE X a ta) (hb : PE X b tb) (hm : behindInMarks op b = false) (hk : ∀ τ H Q, rdE L W m τ H Q → tOp r ta tb τ H Q) :
    MT X L W (.Compare a [op] [b] pos) (mTst m) :=
  PT.wk (pt_cmpR ho ha hb hm) fun τ H Q ⟨ι, S, σ, rp, rs, o⟩ => hk τ H _ (stepET (a := m) rp rs o fun x S1 ι1 H1 v ex r1 s1 rv o1 => by
    cases x with
    | bl b =>
      cases rv
      exact ⟨b, rfl, o1 ι1 H1 (Ext.refl _ _) r1⟩
    | _ => exact o1.elim)
theorem mt_not {e : Expr} {pos : Pos} {a : TM} (h : MT X L W e a) : MT X L W (.UnaryOp .Not e pos) (mNot a) := PT.wk (pt_not h) fun τ H Q ⟨ι, S, σ, rp, rs, o⟩ =>
  stepTT rp rs o fun b S1 ι1 H1 ex r1 s1 o1 => o1 ι1 H1 (Ext.refl _ _) r1
abbrev MW (X : Cx) (L : Lay) (W : WX) (e : Expr) (m : TM) : Prop := PW X e (rdT L W m)
theorem mw_and1 {e : Expr} {pos : Pos} {a : TM} (h : MT X L W e a) : MW X L W (.BoolOp .And [e] pos) a := pw_and1 h
theorem mw_or1 {e : Expr} {pos : Pos} {a : TM} (h : MT X L W e a) : MW X L W (.BoolOp .Or [e] pos) a := pw_or1 h
theorem mw_and {e f : Expr} {rest : List Expr} {pos : Pos} {a b : TM} (h : MT X L W e a) (k : MW X L W (.BoolOp .And (f :: rest) pos) b) : MW X L W (.BoolOp .And (e :: f :: rest) pos) (mAnd a b) :=
  PW.wk (pw_and h k) fun τ H Q ⟨ι, S, σ, rp, rs, o⟩ => stepTT rp rs o fun c S1 ι1 H1 ex r1 s1 o1 => by
    cases c with
    | true => exact ⟨ι1, S1, σ, r1, s1, o1⟩
    | false => exact o1 ι1 H1 (Ext.refl _ _) r1
theorem mw_or {e f : Expr} {rest : List Expr} {pos : Pos} {a b : TM} (h : MT X L W e a) (k : MW X L W (.BoolOp .Or (f :: rest) pos) b) : MW X L W (.BoolOp .Or (e :: f :: rest) pos) (mOr a b) :=
  PW.wk (pw_or h k) fun τ H Q ⟨ι, S, σ, rp, rs, o⟩ => stepTT rp rs o fun c S1 ι1 H1 ex r1 s1 o1 => by
    cases c with
    | true => exact o1 ι1 H1 (Ext.refl _ _) r1
    | false => exact ⟨ι1, S1, σ, r1, s1, o1⟩
theorem me_one {op : BoolOp} {e : Expr} {pos : Pos} {a : EM} (h : ME X L W e a) : ME X L W (.BoolOp op [e] pos) a := pe_one h
theorem me_and {e f : Expr} {rest : List Expr} {pos : Pos} {a b : EM} (h : ME X L W e a) (k : ME X L W (.BoolOp .And (f :: rest) pos) b) : ME X L W (.BoolOp .And (e :: f :: rest) pos) (mAndV a b) :=
  PE.wk (pe_and h k) fun τ H Q ⟨ι, S, σ, rp, rs, o⟩ => stepE rp rs o fun x S1 ι1 H1 v ex r1 s1 rv o1 => by
    cases x with
    | bl c =>
      cases rv
      refine ⟨c, rfl, ?_⟩
      cases c with
      | true => exact ⟨ι1, S1, σ, r1, s1, o1⟩
      | false => exact o1 ι1 H1 _ (Ext.refl _ _) r1 (.bl false)
    | _ => exact o1.elim
theorem me_or {e f : Expr} {rest : List Expr} {pos : Pos} {a b : EM} (h : ME X L W e a) (k : ME X L W (.BoolOp .Or (f :: rest) pos) b) : ME X L W (.BoolOp .Or (e :: f :: rest) pos) (mOrV a b) :=
  PE.wk (pe_or h k) fun τ H Q ⟨ι, S, σ, rp, rs, o⟩ => stepE rp rs o fun x S1 ι1 H1 v ex r1 s1 rv o1 => by
    cases x with
    | bl c =>
      cases rv
      refine ⟨c, rfl, ?_⟩
      cases c with
      | true => exact o1 ι1 H1 _ (Ext.refl _ _) r1 (.bl true)
      | false => exact ⟨ι1, S1, σ, r1, s1, o1⟩
    | _ => exact o1.elim
theorem me_not {e : Expr} {pos : Pos} {a : EM} (h : ME X L W e a) : ME X L W (.UnaryOp .Not e pos) (mNotV a) :=
  PE.wk (pe_not h) fun τ H Q ⟨ι, S, σ, rp, rs, o⟩ => stepE rp rs o fun x S1 ι1 H1 v ex r1 s1 rv o1 => by
    cases x with
    | bl c =>
      cases rv
      exact ⟨c, rfl, o1 ι1 H1 _ (Ext.refl _ _) r1 (.bl _)⟩
    | _ => exact o1.elim
theorem me_if {c e f : Expr} {pos : Pos} {t : TM} {a b : EM} (ht : MT X L W c t) (ha : ME X L W e a) (hb : ME X L W f b) : ME X L W (.IfExp c e f pos) (mIf t a b) :=
  PE.wk (pe_ifExp ht ha hb) fun τ H Q ⟨ι, S, σ, rp, rs, o⟩ => stepT rp rs o fun d S1 ι1 H1 ex r1 s1 o1 => by
    cases d with
    | true => exact ⟨ι1, S1, σ, r1, s1, o1⟩
    | false => exact ⟨ι1, S1, σ, r1, s1, o1⟩

/-! ### operations by values -/
theorem rdO_of {a b : EM} {g : VV → VV → Sto → Res VV} (hg : ∀ x y S, NoX (g x y S)) : ∀ τ H Q, rdE L W (mOp g a b) τ H Q → tOp (rdO L g) (rdE L W a) (rdE L W b) τ H Q :=
  fun τ H Q ⟨ι, S, σ, rp, rs, o⟩ => stepE rp rs o fun x S1 ι1 H1 v ex r1 s1 rv o1 => stepE r1 s1 o1 fun y S2 ι2 H2 w ex2 r2 s2 rw o2 => by
    refine ⟨ι2, S2, x, y, r2, rv.mono ex2, rw, ?_⟩
    cases e : g x y S2 with
    | ok z S3 => rw [e] at o2; exact o2
    | exc n S3 => exact absurd e (hg x y S2 n S3)
    | fail => rw [e] at o2; exact o2
theorem me_op {op : Operator} {a b : Expr} {pos : Pos} {ma mb : EM} {g : VV → VV → Sto → Res VV} (ho : OpR X (binaryOp op) (rdO L g)) (hg : ∀ x y S, NoX (g x y S)) (ha : ME X L W a ma) (hb : ME X L W b mb) : ME X L W (.BinOp a op b pos) (mOp g ma mb) :=
  PE.wk (pe_op ho ha hb) (rdO_of hg)
theorem me_cmp {op : CmpOp} {a b : Expr} {pos : Pos} {ma mb : EM} {g : VV → VV → Sto → Res VV} (ho : OpR X (compareOp op) (rdO L g)) (hg : ∀ x y S, NoX (g x y S)) (ha : ME X L W a ma) (hb : ME X L W b mb) (hm : behindInMarks op b = false) :
    ME X L W (.Compare a [op] [b] pos) (mOp g ma mb) := PE.wk (pe_cmpR ho ha hb hm) (rdO_of hg)
theorem mt_cmpo {op : CmpOp} {a b : Expr} {pos : Pos} {ma mb : EM} {g : VV → VV → Sto → Res VV} (ho : OpR X (compareOp op) (rdO L g)) (hg : ∀ x y S, NoX (g x y S)) (ha : ME X L W a ma) (hb : ME X L W b mb) (hm : behindInMarks op b = false) :
    MT X L W (.Compare a [op] [b] pos) (mTst (mOp g ma mb)) := mt_cmp ho ha hb hm (rdO_of hg)
theorem me_un {op : UnaryOp} {a : Expr} {pos : Pos} {ma : EM} {g : VV → Sto → Res VV} (ho : UnR X (unaryOp op) (rdU L g)) (hg : ∀ x S, NoX (g x S)) (ha : ME X L W a ma) : ME X L W (.UnaryOp op a pos) (mUn g ma) :=
  PE.wk (pe_un ho ha) fun τ H Q ⟨ι, S, σ, rp, rs, o⟩ => stepE rp rs o fun x S1 ι1 H1 v ex r1 s1 rv o1 => by
    refine ⟨ι1, S1, x, r1, rv, ?_⟩
    cases e : g x S1 with
    | ok z S3 => rw [e] at o1; exact o1
    | exc n S3 => exact absurd e (hg x S1 n S3)
    | fail => rw [e] at o1; exact o1
theorem rdC_of {a : AM} {g : List VV → Sto → Res VV} (hg : ∀ x S, NoX (g x S)) : ∀ τ H Q, rdE L W (mCB g a) τ H Q → tCB (rdC L g) (rdA L W a) τ H Q :=
  fun τ H Q ⟨ι, S, σ, rp, rs, o⟩ => stepA rp rs o fun x S1 ι1 H1 v ex r1 s1 rv o1 => by
    refine ⟨ι1, S1, x, r1, rv, ?_⟩
    cases e : g x S1 with
    | ok z S3 => rw [e] at o1; exact o1
    | exc n S3 => exact absurd e (hg x S1 n S3)
    | fail => rw [e] at o1; exact o1
end
end Sx
end
/-! Sx3: operators, comparisons, subscripts, slices, built-ins by values of the mirror. -/
noncomputable section
namespace Sx
open PySem L2

/-! ### reading an object -/
/-- a list's items, whether it stands in the store or is read only -/
def lstAt (S : Sto) : VV → Option (List VV)
  | .ref n => match S[n]? with
    | some (.lst xs) => some xs
    | _ => none
  | .rol xs => some xs
  | _ => none
section
variable {L : Lay} {ι : List Addr} {S : Sto} {H : Hp}
theorem Rep.get (r : Rep L ι S H) {n : Nat} {a : Addr} {o : OO} (h : ι[n]? = some a) (e : S[n]? = some o) : ∃ u, H a = some u ∧ RO L ι H o u := by
  obtain ⟨b, u, h1, h2, h3⟩ := r.at_ n o e
  rw [h] at h1
  cases h1
  exact ⟨u, h2, h3⟩
theorem Rep.lst (r : Rep L ι S H) {n : Nat} {v : V} {xs : List VV} (rv : RV L ι H (.ref n) v) (e : S[n]? = some (.lst xs)) : ∃ a vs, v = .ref a ∧ ι[n]? = some a ∧ H a = some (.lst vs) ∧ RVs L ι H xs vs := by
  cases rv with
  | @ref _ a h =>
    obtain ⟨u, h2, vs, h3, h4⟩ := r.get h e
    subst h3
    exact ⟨a, vs, rfl, h, h2, h4⟩
theorem Rep.sq (r : Rep L ι S H) {x : VV} {v : V} {xs : List VV} (rv : RV L ι H x v) (e : lstAt S x = some xs) : ∃ a vs, v = .ref a ∧ SqL L.K H a vs ∧ RVs L ι H xs vs := by
  cases x with
  | ref n =>
    have e' : (match S[n]? with
      | some (.lst xs) => some xs
      | _ => none) = some xs := e
    split at e'
    · rename_i ys q
      cases e'
      obtain ⟨a, vs, h1, _, h3, h4⟩ := r.lst rv q
      exact ⟨a, vs, h1, SqL.of h3, h4⟩
    · cases e'
  | rol ys =>
    cases e
    cases rv with
    | @rol a _ vs h rr =>
      refine ⟨a, vs, rfl, ?_, rr⟩
      rcases h with ⟨o, h⟩ | h
      · exact .inl (.inr ⟨o, h⟩)
      · exact h H
  | _ => cases e
end

/-! ### deep data -/
/-- what a value is as data, to a depth -/
def dat (S : Sto) : Nat → VV → Option PyData
  | _, .non => some .none
  | _, .bl b => some (.bool b)
  | _, .int i => some (.int i)
  | _, .str x => some (.str x)
  | n + 1, .tup xs => (xs.mapM (dat S n)).map .tuple
  | n + 1, .ref k => match S[k]? with
    | some (.lst xs) => (xs.mapM (dat S n)).map .list
    | _ => none
  | n + 1, .rol xs => (xs.mapM (dat S n)).map .list
  | 0, _ => none
section
variable {L : Lay} {ι : List Addr} {S : Sto} {H : Hp}
theorem datAll_ok {f : VV → Option PyData} : ∀ {xs : List VV} {vs : List V} {ds : List PyData}, (∀ x v d, x ∈ xs → f x = some d → RV L ι H x v → Dp L.K H v d) → RVs L ι H xs vs → xs.mapM f = some ds → DpAll L.K H vs ds
  | [], _, _, _, .nil, e => by
    simp at e
    subst e
    exact .nil
  | x :: xs, _, ds, h, .cons h1 h2, e => by
    rw [List.mapM_cons] at e
    cases e1 : f x with
    | none => rw [e1] at e; simp at e
    | some d =>
      rw [e1] at e
      cases e2 : xs.mapM f with
      | none => rw [e2] at e; simp at e
      | some ds' =>
        rw [e2] at e
        simp at e
        subst e
        exact .cons (h x _ d List.mem_cons_self e1 h1) (datAll_ok (fun x v d hx => h x v d (List.mem_cons_of_mem _ hx)) h2 e2)
theorem dat_ok (r : Rep L ι S H) : ∀ (n : Nat) (x : VV) (v : V) (d : PyData), dat S n x = some d → RV L ι H x v → Dp L.K H v d
  | n, .non, _, d, e, .non => by
    have e' : some PyData.none = some d := by cases n <;> exact e
    cases e'; exact .non
  | n, .bl b, _, d, e, .bl _ => by
    have e' : some (PyData.bool b) = some d := by cases n <;> exact e
    cases e'; exact .bl b
  | n, .int i, _, d, e, .int _ => by
    have e' : some (PyData.int i) = some d := by cases n <;> exact e
    cases e'; exact .int i
  | n, .str x, _, d, e, .str _ => by
    have e' : some (PyData.str x) = some d := by cases n <;> exact e
    cases e'; exact .str x
  | 0, .tup _, _, _, e, _ => by cases e
  | 0, .ref _, _, _, e, _ => by cases e
  | 0, .rol _, _, _, e, _ => by cases e
  | n + 1, .tup xs, _, d, e, .tup h rr => by
    have e' : (xs.mapM (dat S n)).map PyData.tuple = some d := e
    cases q : xs.mapM (dat S n) with
    | none => rw [q] at e'; cases e'
    | some ds =>
      rw [q] at e'
      cases e'
      exact .tup (SqT.of h) (datAll_ok (fun x v d _ => dat_ok r n x v d) rr q)
  | n + 1, .ref k, v, d, e, rv => by
    have e' : (match S[k]? with
      | some (.lst xs) => (xs.mapM (dat S n)).map PyData.list
      | _ => none) = some d := e
    split at e'
    · rename_i xs hk
      obtain ⟨a, vs, rfl, _, h3, h4⟩ := r.lst rv hk
      cases q : xs.mapM (dat S n) with
      | none => rw [q] at e'; cases e'
      | some ds =>
        rw [q] at e'
        cases e'
        exact .lst (SqL.of h3) (datAll_ok (fun x v d _ => dat_ok r n x v d) h4 q)
    · cases e'
  | n + 1, .rol xs, v, d, e, rv => by
    have e' : (xs.mapM (dat S n)).map PyData.list = some d := e
    obtain ⟨a, vs, rfl, h3, h4⟩ := r.sq (x := .rol xs) rv rfl
    cases q : xs.mapM (dat S n) with
    | none => rw [q] at e'; cases e'
    | some ds =>
      rw [q] at e'
      cases e'
      exact .lst h3 (datAll_ok (fun x v d _ => dat_ok r n x v d) h4 q)
end

/-! ### operators -/
def gInt (f : Int → Int → VV) : VV → VV → Sto → Res VV
  | .int a, .int b, S => .ok (f a b) S
  | _, _, _ => .fail
def gIntC (C : Int → Int → Bool) (f : Int → Int → VV) : VV → VV → Sto → Res VV
  | .int a, .int b, S => if C a b = true then .ok (f a b) S else .fail
  | _, _, _ => .fail
abbrev gSub := gInt fun i j => .int (i - j)
def cMul (i j : Int) : Bool := (decide (-(2 ^ 64) < i) && decide (i < 2 ^ 64)) || (decide (-(2 ^ 64) < j) && decide (j < 2 ^ 64))
def cFdiv (i j : Int) : Bool := decide (j ≠ 0) && decide (j.natAbs < 1073741824)
def cMod (i j : Int) : Bool := decide (j ≠ 0)
def cPow (i j : Int) : Bool := decide (0 ≤ j) && (decide (j ≤ 1000000) && decide (i.natAbs < 2 ^ 64))
abbrev gMod := gIntC cMod fun i j => .int (i.fmod j)
abbrev gFdiv := gIntC cFdiv fun i j => .int (i.fdiv j)
abbrev gPow := gIntC cPow fun i j => .int (i ^ j.toNat)
def gAdd : VV → VV → Sto → Res VV
  | .int a, .int b, S => .ok (.int (a + b)) S
  | .str a, .str b, S => if a.length + b.length ≤ 100000 then .ok (.str (a ++ b)) S else .fail
  | .tup a, .tup b, S => if a.length + b.length ≤ 100000 then .ok (.tup (a ++ b)) S else .fail
  | .ref n, .ref m, S => match S[n]?, S[m]? with
    | some (.lst xs), some (.lst ys) => if xs.length + ys.length ≤ 100000 then .ok (.ref S.length) (S ++ [.lst (xs ++ ys)]) else .fail
    | _, _ => .fail
  | _, _, _ => .fail
def gMul : VV → VV → Sto → Res VV
  | .int a, .int b, S => if cMul a b = true then .ok (.int (a * b)) S else .fail
  | .ref n, .int k, S => match S[n]? with
    | some (.lst xs) => if InR (-1000) k 1000 ∧ xs.length ≤ 1000 then .ok (.ref S.length) (S ++ [.lst (List.replicate k.toNat xs).flatten]) else .fail
    | _ => .fail
  | _, _, _ => .fail
section
variable {X : Cx} {L : Lay}
theorem om_int {f : Value → Value → Sem Value} {g : Int → Int → VV} {gV : Int → Int → V} (ho : OpR X f (rI0 gV)) (hg : ∀ i j ι H, RV L ι H (g i j) (gV i j)) : OpR X f (rdO L (gInt g)) := by
  intro pins s σ H vx vy v u Q I rx ry ⟨ι, S, x, y, rp, hx, hy, o⟩
  cases x with
  | int a =>
    cases y with
    | int b =>
      cases hx; cases hy
      exact ho pins s σ H _ _ v u Q I rx ry ⟨a, b, rfl, rfl, o ι H _ (Ext.refl _ _) rp (hg a b ι H)⟩
    | _ => exact o.elim
  | _ => exact o.elim
theorem om_intC {f : Value → Value → Sem Value} {C : Int → Int → Bool} {CV : Int → Int → Prop} {g : Int → Int → VV} {gV : Int → Int → V} (ho : OpR X f (rI CV gV)) (hc : ∀ i j, C i j = true → CV i j) (hg : ∀ i j ι H, RV L ι H (g i j) (gV i j)) : OpR X f (rdO L (gIntC C g)) := by
  intro pins s σ H vx vy v u Q I rx ry ⟨ι, S, x, y, rp, hx, hy, o⟩
  cases x with
  | int a =>
    cases y with
    | int b =>
      cases hx; cases hy
      have o' : OutE L ι H (if C a b = true then .ok (g a b) S else .fail) Q _ := o
      by_cases c : C a b = true
      · rw [if_pos c] at o'
        exact ho pins s σ H _ _ v u Q I rx ry ⟨a, b, rfl, rfl, hc a b c, o' ι H _ (Ext.refl _ _) rp (hg a b ι H)⟩
      · rw [if_neg c] at o'
        exact o'.elim
    | _ => exact o.elim
  | _ => exact o.elim
theorem nx_int {g : Int → Int → VV} : ∀ x y S, NoX (gInt g x y S) := fun x y S n S' e => by
  unfold gInt at e
  split at e <;> cases e
theorem nx_intC {C : Int → Int → Bool} {g : Int → Int → VV} : ∀ x y S, NoX (gIntC C g x y S) := fun x y S n S' e => by
  unfold gIntC at e
  split at e
  · split at e <;> cases e
  · cases e
theorem om_sub : OpR X (binaryOp .Sub) (rdO L gSub) := om_int op_sub fun _ _ _ _ => .int _
theorem om_mod : OpR X (binaryOp .Mod) (rdO L gMod) := om_intC op_modN (fun i j h => of_decide_eq_true h) fun _ _ _ _ => .int _
theorem om_fdiv : OpR X (binaryOp .FloorDiv) (rdO L gFdiv) := om_intC op_fdivN (fun i j h => by
  unfold cFdiv at h
  simp only [Bool.and_eq_true, decide_eq_true_eq] at h
  exact h) fun _ _ _ _ => .int _
theorem om_pow : OpR X (binaryOp .Pow) (rdO L gPow) := om_intC op_pow (fun i j h => by
  unfold cPow at h
  simp only [Bool.and_eq_true, decide_eq_true_eq] at h
  exact h) fun _ _ _ _ => .int _
theorem nx_add : ∀ x y S, NoX (gAdd x y S) := fun x y S n S' e => by
  unfold gAdd at e
  split at e
  · cases e
  · split at e <;> cases e
  · split at e <;> cases e
  · split at e
    · split at e <;> cases e
    · cases e
  · cases e
theorem om_add : OpR X (binaryOp .Add) (rdO L gAdd) := by
  intro pins s σ H vx vy v u Q I rx ry ⟨ι, S, x, y, rp, hx, hy, o⟩
  cases x with
  | int a =>
    cases y with
    | int b =>
      cases hx; cases hy
      exact op_add pins s σ H _ _ v u Q I rx ry ⟨a, b, rfl, rfl, o ι H _ (Ext.refl _ _) rp (.int _)⟩
    | _ => exact o.elim
  | str a =>
    cases y with
    | str b =>
      cases hx; cases hy
      have o' : OutE _ ι H (if a.length + b.length ≤ 100000 then .ok (.str (a ++ b)) S else .fail) Q _ := o
      by_cases c : a.length + b.length ≤ 100000
      · rw [if_pos c] at o'
        exact op_add_str pins s σ H _ _ v u Q I rx ry ⟨a, b, rfl, rfl, sz_of c, o' ι H _ (Ext.refl _ _) rp (.str _)⟩
      · rw [if_neg c] at o'
        exact o'.elim
    | _ => exact o.elim
  | tup a =>
    cases y with
    | tup b =>
      have o' : OutE _ ι H (if a.length + b.length ≤ 100000 then .ok (.tup (a ++ b)) S else .fail) Q _ := o
      by_cases c : a.length + b.length ≤ 100000
      · rw [if_pos c] at o'
        cases hx with
        | @tup pa _ va ha ra =>
          cases hy with
          | @tup pb _ vb hb rb =>
            refine op_catA pins s σ H _ _ v u Q I rx ry ⟨pa, pb, va, vb, rfl, rfl, SqT.of ha, SqT.of hb, by rw [← ra.length, ← rb.length]; exact sz_of c, fun e => ?_, fun _ e => ?_, fun _ _ p hp => ?_⟩
            · subst e
              cases ra
              exact o' ι H _ (Ext.refl _ _) rp (.tup hb rb)
            · subst e
              cases rb
              exact o' ι H _ (Ext.refl _ _) rp (by rw [List.append_nil]; exact .tup ha ra)
            · have e2 : Ext ι H ι (upd H p (.tup (va ++ vb))) := ⟨List.prefix_rfl, Keep.new hp⟩
              exact o' ι _ _ e2 (rp.other hp) (.tup upd_same ((ra.append rb).mono e2))
      · rw [if_neg c] at o'
        exact o'.elim
    | _ => exact o.elim
  | ref n =>
    cases y with
    | ref m =>
      have o' : OutE _ ι H (match S[n]?, S[m]? with
        | some (.lst xs), some (.lst ys) => if xs.length + ys.length ≤ 100000 then .ok (.ref S.length) (S ++ [.lst (xs ++ ys)]) else .fail
        | _, _ => .fail) Q _ := o
      split at o'
      · rename_i xs ys q1 q2
        by_cases c : xs.length + ys.length ≤ 100000
        · rw [if_pos c] at o'
          obtain ⟨a, vs, rfl, _, h3, h4⟩ := rp.lst hx q1
          obtain ⟨b, ws, rfl, _, h5, h6⟩ := rp.lst hy q2
          refine op_cat pins s σ H _ _ v u Q I rx ry ⟨a, b, vs, ws, rfl, rfl, h3, h5, by rw [← h4.length, ← h6.length]; exact sz_of c, fun p hp => ?_⟩
          have e2 : Ext ι H (ι ++ [p]) (upd H p (.lst (vs ++ ws))) := Rep.newExt hp
          exact o' _ _ _ e2 (rp.new hp ⟨_, rfl, (h4.append h6).mono e2⟩) rp.newRef
        · rw [if_neg c] at o'
          exact o'.elim
      · exact o'.elim
    | _ => exact o.elim
  | _ => exact o.elim
theorem RVs.flat {ι : List Addr} {H : Hp} {xs : List VV} {vs : List V} (r : RVs L ι H xs vs) : ∀ n : Nat, RVs L ι H (List.replicate n xs).flatten (List.replicate n vs).flatten
  | 0 => .nil
  | n + 1 => by
    rw [List.replicate_succ, List.replicate_succ, List.flatten_cons, List.flatten_cons]
    exact r.append (RVs.flat r n)
theorem nx_mul : ∀ x y S, NoX (gMul x y S) := fun x y S n S' e => by
  unfold gMul at e
  split at e
  · split at e <;> cases e
  · split at e
    · split at e <;> cases e
    · cases e
  · cases e
theorem om_mul : OpR X (binaryOp .Mult) (rdO L gMul) := by
  intro pins s σ H vx vy v u Q I rx ry ⟨ι, S, x, y, rp, hx, hy, o⟩
  cases x with
  | int a =>
    cases y with
    | int b =>
      cases hx; cases hy
      have o' : OutE L ι H (if cMul a b = true then .ok (.int (a * b)) S else .fail) Q _ := o
      by_cases c : cMul a b = true
      · rw [if_pos c] at o'
        refine op_mul pins s σ H _ _ v u Q I rx ry ⟨a, b, rfl, rfl, ?_, o' ι H _ (Ext.refl _ _) rp (.int _)⟩
        unfold cMul at c
        simp only [Bool.or_eq_true, Bool.and_eq_true, decide_eq_true_eq] at c
        exact c
      · rw [if_neg c] at o'
        exact o'.elim
    | _ => exact o.elim
  | ref n =>
    cases y with
    | int k =>
      have o' : OutE L ι H (match S[n]? with
        | some (.lst xs) => if InR (-1000) k 1000 ∧ xs.length ≤ 1000 then .ok (.ref S.length) (S ++ [.lst (List.replicate k.toNat xs).flatten]) else .fail
        | _ => .fail) Q _ := o
      split at o'
      · rename_i xs q1
        by_cases c : InR (-1000) k 1000 ∧ xs.length ≤ 1000
        · rw [if_pos c] at o'
          obtain ⟨a, vs, rfl, _, h3, h4⟩ := rp.lst hx q1
          cases hy
          obtain ⟨⟨c1, c2⟩, c3⟩ := c
          have hb : vs.length * k.toNat ≤ 1000 * 1000 := Nat.mul_le_mul (by rw [← h4.length]; exact c3) (by omega)
          refine op_rep pins s σ H _ _ v u Q I rx ry ⟨a, k, vs, rfl, rfl, h3, by omega, by omega, Nat.le_trans hb (by decide), fun p hp => ?_⟩
          have e2 : Ext ι H (ι ++ [p]) (upd H p (.lst (List.replicate k.toNat vs).flatten)) := Rep.newExt hp
          exact o' _ _ _ e2 (rp.new hp ⟨_, rfl, (h4.flat _).mono e2⟩) rp.newRef
        · rw [if_neg c] at o'
          exact o'.elim
      · exact o'.elim
    | _ => exact o.elim
  | _ => exact o.elim

/-! ### comparisons -/
abbrev gLt := gInt fun i j => .bl (decide (i < j))
abbrev gLe := gInt fun i j => .bl (decide (i ≤ j))
abbrev gGt := gInt fun i j => .bl (decide (j < i))
abbrev gGe := gInt fun i j => .bl (decide (j ≤ i))
theorem om_lt : OpR X (compareOp .Lt) (rdO L gLt) := om_int op_lt fun _ _ _ _ => .bl _
theorem om_le : OpR X (compareOp .LtE) (rdO L gLe) := om_int op_le fun _ _ _ _ => .bl _
theorem om_gt : OpR X (compareOp .Gt) (rdO L gGt) := om_int op_gt fun _ _ _ _ => .bl _
theorem om_ge : OpR X (compareOp .GtE) (rdO L gGe) := om_int op_ge fun _ _ _ _ => .bl _
def isNonV : VV → Bool
  | .non => true
  | _ => false
theorem isNon_rel {ι : List Addr} {H : Hp} {x : VV} {v : V} (h : RV L ι H x v) : decide (v = .non) = isNonV x := by
  cases h <;> rfl
def gIs (neg : Bool) : VV → VV → Sto → Res VV
  | x, .non, S => .ok (.bl (if neg = true then !isNonV x else isNonV x)) S
  | _, _, _ => .fail
theorem nx_is {neg : Bool} : ∀ x y S, NoX (gIs neg x y S) := fun x y S n S' e => by
  unfold gIs at e
  split at e <;> cases e
theorem om_isN : OpR X (compareOp .Is) (rdO L (gIs false)) := by
  intro pins s σ H vx vy v u Q I rx ry ⟨ι, S, x, y, rp, hx, hy, o⟩
  cases y with
  | non =>
    cases hy
    have o' : OutE L ι H (.ok (.bl (isNonV x)) S) Q _ := o
    exact op_isN pins s σ H _ _ v u Q I rx ry ⟨rfl, by rw [isNon_rel hx]; exact o' ι H _ (Ext.refl _ _) rp (.bl _)⟩
  | _ => exact o.elim
theorem om_notN : OpR X (compareOp .IsNot) (rdO L (gIs true)) := by
  intro pins s σ H vx vy v u Q I rx ry ⟨ι, S, x, y, rp, hx, hy, o⟩
  cases y with
  | non =>
    cases hy
    have o' : OutE L ι H (.ok (.bl (!isNonV x)) S) Q _ := o
    exact op_notN pins s σ H _ _ v u Q I rx ry ⟨rfl, by rw [isNon_rel hx]; exact o' ι H _ (Ext.refl _ _) rp (.bl _)⟩
  | _ => exact o.elim
/-- == of data, to a depth of eight -/
def gEqB (x y : VV) (S : Sto) : Option Bool := match dat S 8 x, dat S 8 y with
  | some d, some e => if (SeqAt.shaped d && SeqAt.shaped e) = true then some (PyData.eqv d e) else none
  | _, _ => none
def gEq (neg : Bool) (x y : VV) (S : Sto) : Res VV := match gEqB x y S with
  | some b => .ok (.bl (if neg = true then !b else b)) S
  | none => .fail
theorem nx_eq {neg : Bool} : ∀ x y S, NoX (gEq neg x y S) := fun x y S n S' e => by
  unfold gEq at e
  split at e <;> cases e
theorem eqB_ok {ι : List Addr} {S : Sto} {H : Hp} {x y : VV} {vx vy : V} {b : Bool} (rp : Rep L ι S H) (hx : RV L ι H x vx) (hy : RV L ι H y vy) (h : gEqB x y S = some b) :
    ∃ d e, Dp L.K H vx d ∧ Dp L.K H vy e ∧ SeqAt.shaped d = true ∧ SeqAt.shaped e = true ∧ PyData.eqv d e = b := by
  unfold gEqB at h
  split at h
  · rename_i d e h1 h2
    split at h
    · rename_i h3
      rw [Bool.and_eq_true] at h3
      cases h
      exact ⟨d, e, dat_ok rp 8 x vx d h1 hx, dat_ok rp 8 y vy e h2 hy, h3.1, h3.2, rfl⟩
    · cases h
  · cases h
theorem om_eq (hu : X.A.units + 64 < cLine) (hK : L.K = X.K) : OpR X (compareOp .Eq) (rdO L (gEq false)) := by
  intro pins s σ H vx vy v u Q I rx ry ⟨ι, S, x, y, rp, hx, hy, o⟩
  have o' : OutE _ ι H (match gEqB x y S with
    | some b => .ok (.bl (if false = true then !b else b)) S
    | none => .fail) Q _ := o
  cases q : gEqB x y S with
  | none => rw [q] at o'; exact o'.elim
  | some b =>
    rw [q] at o'
    obtain ⟨d, e, h1, h2, h3, h4, h5⟩ := eqB_ok rp hx hy q
    subst h5
    rw [hK] at h1 h2
    exact op_eqD hu pins s σ H _ _ v u Q I rx ry ⟨d, e, h1, h2, h3, h4, o' ι H _ (Ext.refl _ _) rp (.bl _)⟩
theorem om_ne (hu : X.A.units + 64 < cLine) (hK : L.K = X.K) : OpR X (compareOp .NotEq) (rdO L (gEq true)) := by
  intro pins s σ H vx vy v u Q I rx ry ⟨ι, S, x, y, rp, hx, hy, o⟩
  have o' : OutE _ ι H (match gEqB x y S with
    | some b => .ok (.bl (if true = true then !b else b)) S
    | none => .fail) Q _ := o
  cases q : gEqB x y S with
  | none => rw [q] at o'; exact o'.elim
  | some b =>
    rw [q] at o'
    obtain ⟨d, e, h1, h2, h3, h4, h5⟩ := eqB_ok rp hx hy q
    subst h5
    rw [hK] at h1 h2
    exact op_neD hu pins s σ H _ _ v u Q I rx ry ⟨d, e, h1, h2, h3, h4, o' ι H _ (Ext.refl _ _) rp (.bl _)⟩
end
end Sx
end
section
/-! SxSum: sum(list of lists, a list). -/
namespace Sx
open PySem L2
section
variable {prog : Program} {w : World} {A : Around} {R : Result → Shared → Prop} {I : Addr} {fp wr : List Addr} {n : Nat} {Y : Nat → Value → Prop} {St : Nat → Heap → Prop}
/-- a list object -/
def LO (h : Heap) (a : Addr) (its : List Value) : Prop := ∃ c : Nat, h.get? a = some { cls := .type "list", data := .seq its.toArray c }
theorem sum_loopL (W : Walks prog w A.in1 I fp wr n Y St) (hwr : ∀ b ∈ wr, ∀ i h, St i h → b < h.objs.size) (vals : Nat → List Value) (hlen : ∀ i, (vals i).length ≤ 1000) (S : Addr) (hSf : S ∉ fp) :
    ∀ (k i : Nat) (s : Shared) (t : Addr) (acc : List Value) (c : Nat), acc.length + k * 1000 ≤ 1000000 → n - i = k → i ≤ n → St i s.heap → s.heap.get? S = some { cls := .type "list", dict := none, data := .seq #[.ref t] c, slots := #[] } → LO s.heap t acc → t ≠ S → t ∉ wr →
      (∀ j v, i ≤ j → Y j v → ∃ a, v = .ref a ∧ LO s.heap a (vals j) ∧ a ≠ S ∧ a ∉ wr) →
      (∀ h' tk t', (∀ b o, b ∉ wr → b ≠ S → s.heap.get? b = some o → h'.get? b = some o) → LO h' t' (acc ++ ((List.range k).flatMap fun j => vals (i + j))) → ((k = 0 ∧ t' = t) ∨ (k ≠ 0 ∧ ∀ b o, b ∉ wr → b ≠ S → s.heap.get? b = some o → b ≠ t')) → R (.ok (.ret (.ref t'))) { s with heap := h', toks := tk }) →
      codeAny (model prog w) A (.builtin "sum.loop" ⟨[.ref I, .ref S, rawInt 2, rawInt 0], []⟩) R s := by
  have hSw : S ∉ wr := fun h => hSf (W.sub _ h)
  intro k
  induction k with
  | zero =>
    intro i s t acc c hsz hk hi hst hS hT hts htw hY hR
    have hin : i = n := by omega
    subst hin
    refine codeAny_builtin F.entry_sum_loop ?_
    rw [Around.under_plainId F.plain_sum_loop _]
    show wpAny _ A.in1 (seqItems? (.ref S) >>= _) _ _ s
    refine wpAny_bind (wpAny_seqItems hS rfl ?_)
    show wpAny _ A.in1 (tryCatch (pyNext (.ref I)) _ >>= _) _ _ s
    refine wpAny_bind (wpAny_tryCatch (W.done s _ _ hst fun h' tk hk' => ?_))
    obtain ⟨cT, eT⟩ := hT
    refine wpAny_pure (hR h' tk t (fun b o hbw _ e => hk' b o hbw e) ⟨cT, ?_⟩ (.inl ⟨rfl, rfl⟩))
    rw [hk' t _ htw eT]
    simp
  | succ k ih =>
    intro i s t acc c hsz hk hi hst hS hT hts htw hY hR
    have hlt : i < n := by omega
    refine codeAny_builtin F.entry_sum_loop ?_
    rw [Around.under_plainId F.plain_sum_loop _]
    show wpAny _ A.in1 (seqItems? (.ref S) >>= _) _ _ s
    refine wpAny_bind (wpAny_seqItems hS rfl ?_)
    show wpAny _ A.in1 (tryCatch (pyNext (.ref I)) _ >>= _) _ _ s
    refine wpAny_bind (wpAny_tryCatch (W.item i s _ _ hlt hst fun v h' tk hP hst' hk' => ?_))
    obtain ⟨a, rfl, ⟨ca, ea⟩, has, haw⟩ := hY i v (Nat.le_refl _) hP
    have hS' := hk' S _ hSw hS
    obtain ⟨cT, eT⟩ := hT
    have eT' := hk' t _ htw eT
    have ea' := hk' a _ haw ea
    show wpAny _ A.in1 ((holding [Value.ref a] (binaryOp .Add (.ref t) (.ref a))).attempt >>= _) _ _ _
    have hl := hlen i
    have hl2 : acc.length + 1000 ≤ 1000000 := by omega
    refine wpAny_bind (wpAny_attempt (wpAny_holding (PySem.P.add_list eT' ea' ?_ (by rw [List.size_toArray, List.size_toArray, sizeLine_eq]; omega))))
    have eacc : acc.toArray ++ (vals i).toArray = (acc ++ vals i).toArray := by simp
    rw [eacc]
    generalize hh2 : h'.push { cls := .type "list", data := .seq (acc ++ vals i).toArray } = h2
    have hpush : ∀ b o, h'.get? b = some o → h2.get? b = some o := fun b o e => by rw [← hh2]; exact Heap.get?_push_of_some _ e
    have hnew : h2.get? h'.objs.size = some { cls := .type "list", data := .seq (acc ++ vals i).toArray } := by rw [← hh2]; exact Heap.get?_push_size _ rfl
    have hSlt : S < h'.objs.size := Heap.lt_size hS'
    show wpAny _ A.in1 (updateSeq S (fun _ => #[Value.ref h'.objs.size]) >>= _) _ _ _
    have hS2 := hpush S _ hS'
    refine wpAny_bind (wpAny_updateSeq hS2 rfl ?_)
    have hS3 := Heap.get?_update_self (Obj.mapSeq fun _ => #[Value.ref h'.objs.size]) hS2 rfl
    refine wpAny_bind (wpAny_letGo ?_)
    have keep2 : ∀ b o, b ∉ wr → b ≠ S → s.heap.get? b = some o → ∀ (f g : Obj → Obj), ((h2.update S f).update S g).get? b = some o := fun b o hbw hbS e f g =>
      (Heap.get?_update_other _ _ (Ne.symm hbS)).trans ((Heap.get?_update_other _ _ (Ne.symm hbS)).trans (hpush b o (hk' b o hbw e)))
    refine wpAny_bind (wpAny_updateSeq hS3 rfl (wpAny_pure ⟨plainId_quiet F.plain_sum_loop _, ih (i + 1) _ h'.objs.size (acc ++ vals i) _ ?_ (by omega) hlt (W.frame _ _ _ hst' fun b hb o e => ?_) (Heap.get?_update_self _ hS3 rfl) ?_ (Nat.ne_of_gt hSlt) (fun hm => Nat.lt_irrefl _ (hwr _ hm _ _ hst')) (fun j v hj hv => ?_) fun h3 tk3 t3 hk3 hL ht3 => ?_⟩))
    · rw [List.length_append]
      omega
    · exact (Heap.get?_update_other _ _ (fun h : S = b => hSf (by rw [h]; exact hb))).trans ((Heap.get?_update_other _ _ (fun h : S = b => hSf (by rw [h]; exact hb))).trans (hpush b o e))
    · refine ⟨0, ?_⟩
      exact (Heap.get?_update_other _ _ (Nat.ne_of_lt hSlt)).trans ((Heap.get?_update_other _ _ (Nat.ne_of_lt hSlt)).trans hnew)
    · obtain ⟨b, rfl, ⟨cb, eb⟩, hbs, hbw⟩ := hY j v (by omega) hv
      exact ⟨b, rfl, ⟨cb, keep2 b _ hbw hbs eb _ _⟩, hbs, hbw⟩
    · refine hR h3 tk3 t3 (fun b o hbw hbS e => hk3 b o hbw hbS (keep2 b o hbw hbS e _ _)) ?_ (.inr ⟨Nat.succ_ne_zero k, ?_⟩)
      · obtain ⟨c3, e3⟩ := hL
        refine ⟨c3, ?_⟩
        rw [e3, List.range_succ_eq_map, List.flatMap_cons, List.append_assoc]
        congr 5
        rw [Nat.add_zero, List.flatMap_map]
        congr 2
        funext j
        rw [Nat.add_right_comm, Nat.add_assoc]
      · intro b o hbw hbS e
        rcases ht3 with ⟨_, h2⟩ | ⟨_, h2⟩
        · rw [h2]
          exact Nat.ne_of_lt (Heap.lt_size (hk' b o hbw e))
        · exact h2 b o hbw hbS (keep2 b o hbw hbS e _ _)
theorem lt_ne1 {a n : Nat} (h : a < n) : a ≠ n := Nat.ne_of_lt h
theorem lt_ne2 {a n : Nat} (h : a < n) : a ≠ n + 1 := by omega
theorem args_sum2 (a b : Value) : argsOk "sum" ⟨[a, b], []⟩ := by unfold argsOk; kernel_rfl
theorem sub_list_str : isSubtype (.type "list") (.type "str") = pure false := by rw [isSubtype_type]; kernel_rfl
theorem sub_list_bytes : isSubtype (.type "list") (.type "bytes") = pure false := by rw [isSubtype_type]; kernel_rfl
theorem sub_list_bytearray : isSubtype (.type "list") (.type "bytearray") = pure false := by rw [isSubtype_type]; kernel_rfl
end
section
variable {prog : Program} {w : World} {A : Around} {E : Value → Shared → Prop} {s : Shared}
theorem sum_lists {l t : Addr} {items : List Value} {acc : List Value} {vals : Nat → List Value} {Q : Value → Shared → Prop} (hh : A.handled = none) (hl : s.heap.IsList l items.toArray) (ht : LO s.heap t acc) (ha : acc.length ≤ 1000) (hn : items.length ≤ 900)
    (hlen : ∀ i, (vals i).length ≤ 1000) (hv : ∀ j v, items[j]? = some v → ∃ a, v = .ref a ∧ LO s.heap a (vals j))
    (h : ∀ h' tk t', (∀ b o, s.heap.get? b = some o → h'.get? b = some o) → LO h' t' (acc ++ ((List.range items.length).flatMap vals)) → ((items.length = 0 ∧ t' = t) ∨ (items.length ≠ 0 ∧ ∀ b o, s.heap.get? b = some o → b ≠ t')) → Q (.ref t') { s with heap := h', toks := tk }) :
    wpAny (model prog w) A (call (.builtin "sum") [.ref l, .ref t]) Q E s := by
  obtain ⟨ct, et⟩ := ht
  refine call_function_tree F.kind_sum F.plain_sum F.entry_sum (args_sum2 _ _) ?_
  unfold Builtin.«sum»
  simp only [List.length_cons, List.length_nil]
  rw [if_neg (by decide)]
  refine wpAny_bind (wpAny_of_eq (show Builtin.Builtins.bindParams "sum" ["start"] 0 { pos := [.ref t] } = pure [some (.ref t)] from rfl) ?_)
  refine wpAny_bind (iter_any hl fun s₂ e2 st hne => ?_)
  subst e2
  have hpu : ∀ b o, s.heap.get? b = some o → (s.heap.push { cls := .type "list_iterator", data := .fields #[.ref l, .int 0 0] }).get? b = some o := fun b o e => Heap.get?_push_of_some _ e
  have htt : ({ s with heap := s.heap.push { cls := .type "list_iterator", data := .fields #[.ref l, .int 0 0] } } : Shared).TypeIs (.ref t) "list" := ⟨_, hpu _ _ et, rfl⟩
  refine wpAny_bind (wpAny_pure ?_)
  simp only [List.forIn_cons, List.forIn_nil]
  refine wpAny_bind (wpAny_bind (wpAny_bind (wpAny_isInstance (T := "list") (b := false) htt sub_list_str ?_)))
  simp only [Bool.false_eq_true, if_false]
  refine wpAny_pure (wpAny_bind (wpAny_bind (wpAny_isInstance (T := "list") (b := false) htt sub_list_bytes ?_)))
  simp only [Bool.false_eq_true, if_false]
  refine wpAny_pure (wpAny_bind (wpAny_bind (wpAny_isInstance (T := "list") (b := false) htt sub_list_bytearray ?_)))
  simp only [Bool.false_eq_true, if_false]
  refine wpAny_pure (wpAny_pure ?_)
  refine wpAny_bind (wpAny_newObj_type ?_)
  generalize hh1 : s.heap.push { cls := .type "list_iterator", data := .fields #[.ref l, .int 0 0] } = h1 at *
  have hsz1 : h1.objs.size = s.heap.objs.size + 1 := by rw [← hh1]; exact Heap.size_push _ _
  have oldlt : ∀ b o, s.heap.get? b = some o → b < s.heap.objs.size := fun b o e => Heap.lt_size e
  have W := Walks.list (prog := prog) (w := w) (A := A.in1) hh s.heap.objs.size l hne items.toArray
  have hllt : l < s.heap.objs.size := by
    obtain ⟨_, e, _⟩ := hl
    exact Heap.lt_size e
  refine wpAny_pure ⟨plainId_quiet F.plain_sum_loop _, sum_loopL W (fun b hb i h st => ?_) vals hlen h1.objs.size (fun hm => ?_) items.length 0 _ t acc _ (by omega) (by simp) (Nat.zero_le _) (W.frame _ _ _ st fun b _ o e => Heap.get?_push_of_some _ e) (Heap.get?_push_size _ rfl)
    ⟨ct, Heap.get?_push_of_some _ (hpu _ _ et)⟩ ?_ ?_ (fun j v _ hj => ?_) fun h' tk t' hk hL ht' => ?_⟩
  · have e : b = s.heap.objs.size := by simpa using hb
    subst e
    obtain ⟨o, eo, _⟩ := st.1
    exact Heap.lt_size eo
  · simp only [List.mem_cons, List.not_mem_nil, or_false] at hm
    rw [hsz1] at hm
    rcases hm with hm | hm
    · exact lt_ne1 (Nat.lt_succ_self s.heap.objs.size) hm.symm
    · exact lt_ne2 hllt hm.symm
  · rw [hsz1]
    exact lt_ne2 (oldlt t _ et)
  · simp only [List.mem_cons, List.not_mem_nil, or_false]
    exact lt_ne1 (oldlt t _ et)
  · obtain ⟨a, rfl, ca, ea⟩ := hv j v (by simpa using hj)
    refine ⟨a, rfl, ⟨ca, Heap.get?_push_of_some _ (hpu _ _ ea)⟩, by rw [hsz1]; exact lt_ne2 (oldlt a _ ea), ?_⟩
    simp only [List.mem_cons, List.not_mem_nil, or_false]
    exact lt_ne1 (oldlt a _ ea)
  · have old : ∀ b o, s.heap.get? b = some o → b ∉ [s.heap.objs.size] ∧ b ≠ h1.objs.size ∧ (h1.push { cls := .type "list", data := .seq [Value.ref t].toArray }).get? b = some o := fun b o e => by
      refine ⟨?_, by rw [hsz1]; exact lt_ne2 (oldlt b o e), Heap.get?_push_of_some _ (hpu b o e)⟩
      simp only [List.mem_cons, List.not_mem_nil, or_false]
      exact lt_ne1 (oldlt b o e)
    refine h h' tk t' (fun b o e => hk b o (old b o e).1 (old b o e).2.1 (old b o e).2.2) ?_ ?_
    · have e0 : ((List.range items.length).flatMap fun j => vals (0 + j)) = (List.range items.length).flatMap vals := by
        congr 1
        funext j
        rw [Nat.zero_add]
      rw [e0] at hL
      exact hL
    · rcases ht' with z | z
      · exact .inl z
      · exact .inr ⟨z.1, fun b o e => z.2 b o (old b o e).1 (old b o e).2.1 (old b o e).2.2⟩
end
end Sx
end
section
/-! Sx4: chains, subscripts, slices, in, built-ins, methods of lists. -/
namespace Sx
open PySem PySem.Spec
open PyProof.Rows L2
section
variable {X : Cx} {L : Lay} {W : WX}

/-! ### a < b < c of ints -/
def mChain (p q : Int → Int → Bool) (a b c : EM) : EM := fun σ S => (a σ S).bind fun x S1 => (b σ S1).bind fun y S2 => match x, y with
  | .int i, .int j => if p i j = true then (c σ S2).bind fun z S3 => (match z with
    | .int k => .ok (.bl (q j k)) S3
    | _ => .fail) else .ok (.bl false) S2
  | _, _ => .fail
theorem rdChain {p q : Int → Int → Bool} {a b c : EM} : ∀ τ H Q, rdE L W (mChain p q a b c) τ H Q → tChain (rI0 fun i j => .bl (p i j)) (rI0 fun i j => .bl (q i j)) (rdE L W a) (rdE L W b) (rdE L W c) τ H Q :=
  fun τ H Q ⟨ι, S, σ, rp, rs, o⟩ => stepE rp rs o fun x S1 ι1 H1 v ex r1 s1 rv o1 => stepE r1 s1 o1 fun y S2 ι2 H2 w ex2 r2 s2 rw' o2 => by
    cases x with
    | int i =>
      cases y with
      | int j =>
        cases rv; cases rw'
        refine ⟨i, j, rfl, rfl, p i j, rfl, ?_⟩
        have o3 : OutE L ι2 H2 (if p i j = true then (c σ S2).bind fun z S3 => (match z with
          | .int k => .ok (.bl (q j k)) S3
          | _ => .fail) else .ok (.bl false) S2) Q _ := o2
        by_cases h : p i j = true
        · rw [if_pos h] at o3 ⊢
          refine stepE r2 s2 o3 fun z S3 ι3 H3 u ex3 r3 s3 ru o4 => ?_
          cases z with
          | int k =>
            cases ru
            exact ⟨j, k, rfl, rfl, o4 ι3 H3 _ (Ext.refl _ _) r3 (.bl _)⟩
          | _ => exact o4.elim
        · rw [if_neg h] at o3 ⊢
          exact o3 ι2 H2 _ (Ext.refl _ _) r2 (.bl false)
      | _ => exact o2.elim
    | _ => exact o2.elim
theorem me_chain {op op' : CmpOp} {a b c : Expr} {pos : Pos} {p q : Int → Int → Bool} {ma mb mc : EM} (ho : OpR X (compareOp op) (rI0 fun i j => .bl (p i j))) (ho' : OpR X (compareOp op') (rI0 fun i j => .bl (q i j))) (ha : ME X L W a ma) (hb : ME X L W b mb) (hc : ME X L W c mc)
    (hm : lastMarks [op, op'] [b, c] = false := by with_unfolding_all rfl) : ME X L W (.Compare a [op, op'] [b, c] pos) (mChain p q ma mb mc) := PE.wk (pe_chain ho ho' ha hb hc hm) rdChain
theorem mt_chain {op op' : CmpOp} {a b c : Expr} {pos : Pos} {p q : Int → Int → Bool} {ma mb mc : EM} (ho : OpR X (compareOp op) (rI0 fun i j => .bl (p i j))) (ho' : OpR X (compareOp op') (rI0 fun i j => .bl (q i j))) (ha : ME X L W a ma) (hb : ME X L W b mb) (hc : ME X L W c mc)
    (hm : lastMarks [op, op'] [b, c] = false := by with_unfolding_all rfl) : MT X L W (.Compare a [op, op'] [b, c] pos) (mTst (mChain p q ma mb mc)) :=
  PT.wk (pt_chain ho ho' ha hb hc hm) fun τ H Q ⟨ι, S, σ, rp, rs, o⟩ => rdChain τ H _ (stepET (a := mChain p q ma mb mc) rp rs o fun x S1 ι1 H1 v ex r1 s1 rv o1 => by
    cases x with
    | bl b =>
      cases rv
      exact ⟨b, rfl, o1 ι1 H1 (Ext.refl _ _) r1⟩
    | _ => exact o1.elim)

/-! ### keys, dicts -/
def keyV : VV → Option Key
  | .int i => some (.inl i)
  | .str x => some (.inr x)
  | _ => none
def vK : Key → VV
  | .inl i => .int i
  | .inr x => .str x
def valM {κ : Type} [DecidableEq κ] (kvs : List (κ × VV)) (k : κ) : Option VV := (kvs.find? fun kv => decide (kv.1 = k)).map (·.2)
def putM {κ : Type} [DecidableEq κ] (kvs : List (κ × VV)) (k : κ) (v : VV) : List (κ × VV) := if (kvs.any fun kv => decide (kv.1 = k)) = true then kvs.map (fun kv => if kv.1 = k then (kv.1, v) else kv) else kvs ++ [(k, v)]
def dropM {κ : Type} [DecidableEq κ] (kvs : List (κ × VV)) (k : κ) : List (κ × VV) := kvs.filter fun kv => decide (kv.1 ≠ k)
def RVo (L : Lay) (ι : List Addr) (H : Hp) : Option VV → Option V → Prop
  | some x, some v => RV L ι H x v
  | none, none => True
  | _, _ => False
def valT (kvs : List (List Key × VV)) : VV → Option (Option VV)
  | .tup ks => (ks.mapM keyV).map (valM kvs)
  | _ => none
/-- what a dict of the store holds at a key; none: no dict, or no key of its kind -/
def dGet (S : Sto) (n : Nat) (y : VV) : Option (Option VV) := match S[n]? with
  | some (.dK kvs) => (keyV y).map (valM kvs)
  | some (.dT kvs) => valT kvs y
  | some (.lk (.dK kvs)) => (keyV y).map (valM kvs)
  | some (.lk (.dT kvs)) => valT kvs y
  | _ => none
theorem keyV_rel {ι : List Addr} {H : Hp} {y : VV} {v : V} {k : Key} (h : RV L ι H y v) (e : keyV y = some k) : v = kV k := by
  cases h with
  | int i => cases e; rfl
  | str x => cases e; rfl
  | _ => cases e
theorem keysV_rel {ι : List Addr} {H : Hp} : ∀ {ys : List VV} {vs : List V} {ks : List Key}, RVs L ι H ys vs → ys.mapM keyV = some ks → vs = ks.map kV
  | [], _, _, .nil, e => by
    simp at e
    subst e
    rfl
  | y :: ys, _, ks, .cons h r, e => by
    rw [List.mapM_cons] at e
    cases e1 : keyV y with
    | none => rw [e1] at e; simp at e
    | some k =>
      rw [e1] at e
      cases e2 : ys.mapM keyV with
      | none => rw [e2] at e; simp at e
      | some ks' =>
        rw [e2] at e
        simp at e
        subst e
        rw [keyV_rel h e1, keysV_rel r e2]
        rfl
theorem valM_rel {κ : Type} [DecidableEq κ] {ι : List Addr} {H : Hp} {k : κ} : ∀ {kvs : List (κ × VV)} {ws : List (κ × V)}, RKv L ι H kvs ws → RVo L ι H (valM kvs k) (valV ws k)
  | [], _, .nil => by
    show True
    trivial
  | p :: kvs, q :: ws, .cons h r => by
    obtain ⟨p1, p2⟩ := p
    obtain ⟨q1, q2⟩ := q
    have hk : p1 = q1 := h.1
    have hv : RV L ι H p2 q2 := h.2
    subst hk
    have ih := valM_rel (k := k) r
    unfold valM valV at ih ⊢
    rw [List.find?_cons, List.find?_cons]
    by_cases e : p1 = k
    · rw [decide_eq_true e]
      exact hv
    · rw [decide_eq_false e]
      exact ih
theorem dGet_ok {ι : List Addr} {S : Sto} {H : Hp} {n : Nat} {y : VV} {v w : V} {o : Option VV} (rp : Rep L ι S H) (hx : RV L ι H (.ref n) v) (hy : RV L ι H y w) (e : dGet S n y = some o) :
    ∃ a r, v = .ref a ∧ DGet H a w r ∧ RVo L ι H o r := by
  cases hx with
  | @ref _ a ha =>
    obtain ⟨ob, u, h1, h2, h3⟩ := rp.addr ha
    have kcase : ∀ (kvs : List (Key × VV)) (ws : List (Key × V)), Rd H a (.dK ws) → RKv L ι H kvs ws → (keyV y).map (valM kvs) = some o → ∃ a' r, V.ref a = .ref a' ∧ DGet H a' w r ∧ RVo L ι H o r := fun kvs ws hr hk he => by
      cases q : keyV y with
      | none => rw [q] at he; cases he
      | some k =>
        rw [q] at he
        cases he
        exact ⟨a, valV ws k, rfl, .inl ⟨ws, k, hr, keyV_rel hy q, rfl⟩, valM_rel hk⟩
    have tcase : ∀ (kvs : List (List Key × VV)) (ws : List (List Key × V)), Rd H a (.dT ws) → RKv L ι H kvs ws → valT kvs y = some o → ∃ a' r, V.ref a = .ref a' ∧ DGet H a' w r ∧ RVo L ι H o r := fun kvs ws hr hk he => by
      cases y with
      | tup ys =>
        have he' : (ys.mapM keyV).map (valM kvs) = some o := he
        cases q : ys.mapM keyV with
        | none => rw [q] at he'; cases he'
        | some ks =>
          rw [q] at he'
          cases he'
          cases hy with
          | @tup b _ vs hb rb =>
            exact ⟨a, valV ws ks, rfl, .inr ⟨ws, ks, b, hr, rfl, by rw [hb, keysV_rel rb q], rfl⟩, valM_rel hk⟩
      | _ => cases he
    unfold dGet at e
    rw [h1] at e
    cases ob with
    | dK kvs =>
      obtain ⟨ws, hu, hk⟩ := h3
      subst hu
      exact kcase kvs ws (.inl h2) hk e
    | dT kvs =>
      obtain ⟨ws, hu, hk⟩ := h3
      subst hu
      exact tcase kvs ws (.inl h2) hk e
    | lk o2 =>
      obtain ⟨ob2, u2, hu, h4⟩ := h3
      subst hu
      cases o2 with
      | dK kvs =>
        obtain ⟨ws, hu, hk⟩ := h4
        subst hu
        exact kcase kvs ws (.inr ⟨ob2, h2⟩) hk e
      | dT kvs =>
        obtain ⟨ws, hu, hk⟩ := h4
        subst hu
        exact tcase kvs ws (.inr ⟨ob2, h2⟩) hk e
      | _ => cases e
    | _ => cases e

/-! ### subscripts -/
theorem atI_rel {ι : List Addr} {H : Hp} {xs : List VV} {vs : List V} {i : Int} {x : VV} (r : RVs L ι H xs vs) (e : atI xs i = some x) : ∃ v, atI vs i = some v ∧ RV L ι H x v := by
  unfold atI at e ⊢
  rw [← r.length]
  cases q : ixN xs.length i with
  | none => rw [q] at e; cases e
  | some j =>
    rw [q] at e
    obtain ⟨v, h1, h2⟩ := r.get (i := j) e
    exact ⟨v, h1, h2⟩
def optR (o : Option VV) (S : Sto) : Res VV := match o with
  | some x => .ok x S
  | none => .fail
def ixL (xs : List VV) (y : VV) : Option VV := match y with
  | .int i => atI xs i
  | _ => none
def ixD (o : Option (Option VV)) : Option VV := o.bind id
def gIxR (n : Nat) (y : VV) (S : Sto) : Res VV := match S[n]? with
  | some (.lst xs) => optR (ixL xs y) S
  | _ => optR (ixD (dGet S n y)) S
def gIx : VV → VV → Sto → Res VV
  | .tup xs, y, S => optR (ixL xs y) S
  | .str z, .int i, S => if z.length ≤ 100000 then optR ((atI z.cps.toList i).map fun c => .str ⟨#[c]⟩) S else .fail
  | .ref n, y, S => gIxR n y S
  | _, _, _ => .fail
theorem nx_opt {o : Option VV} {S : Sto} : NoX (optR o S) := fun n S' e => by
  unfold optR at e
  split at e <;> cases e
theorem nx_ix : ∀ x y S, NoX (gIx x y S) := fun x y S n S' e => by
  unfold gIx at e
  split at e
  · exact nx_opt n S' e
  · split at e
    · exact nx_opt n S' e
    · cases e
  · unfold gIxR at e
    split at e
    · exact nx_opt n S' e
    · exact nx_opt n S' e
  · cases e
/-- d[y] as a subscript by values -/
def rIxDc : R2 := fun x y H Q => ∃ a v, x = .ref a ∧ DGet H a y (some v) ∧ Q v H
theorem ix_dict (hu : X.A.units + 1 < cLine) : IxR X rIxDc := by
  intro value slice pins s σ H x y v u Q I rx ry h hs
  obtain ⟨a, z, rfl, g, q⟩ := h
  cases rx
  have hT := dict_typeIs I g
  unfold subscriptTail
  refine wpAny_bind ?_
  rw [getitemInPython_of_ne hT.not_modules]
  refine wpAny_bind (wpAny_specialOf hT PySem.F.slot_dict_getitem.lookup ?_)
  have fin : wpAny (model X.prog X.w) X.A (subscripted slice false (.ref a) u) (fun r s₃ => wpAny (model X.prog X.w) X.A (letTemporaryGo value (.ref a) r >>= fun _ => pure r) (EP X pins σ Q) X.xe s₃) X.xe s := by
    rw [hs]
    exact wpAny_operating (d_getItem hu I g ry fun w' s3 I3 rw' => wpAny_bind (wpAny_letTemporaryGo (wpAny_pure ⟨z, H, I3, rw', q⟩)))
  first
    | exact wpAny_pure (wpAny_bind fin)
    | exact wpAny_bind fin
    | exact wpAny_bind (wpAny_pure (wpAny_bind fin))
theorem optR_out {ι : List Addr} {H : Hp} {o : Option VV} {S : Sto} {Q : VK} {E : XK} (h : OutE L ι H (optR o S) Q E) : ∃ x, o = some x ∧ OutE L ι H (.ok x S) Q E := by
  cases o with
  | none => exact h.elim
  | some x => exact ⟨x, rfl, h⟩
theorem ixm (hu : X.A.units + 1 < cLine) : IxR X (rdO L gIx) := by
  intro value slice pins s σ H vx vy v u Q I rx ry ⟨ι, S, x, y, rp, hx, hy, o⟩ hs
  cases x with
  | tup xs =>
    obtain ⟨z, q, o'⟩ := optR_out (o := ixL xs y) o
    cases y with
    | int i =>
      cases hy
      cases hx with
      | @tup a _ vs ha ra =>
        obtain ⟨w, h1, h2⟩ := atI_rel ra q
        exact ix_tup value slice pins s σ H _ _ v u Q I rx ry ⟨a, vs, i, w, rfl, rfl, SqT.of ha, h1, o' ι H w (Ext.refl _ _) rp h2⟩ hs
    | _ => cases q
  | str z =>
    cases y with
    | int i =>
      have o' : OutE L ι H (if z.length ≤ 100000 then optR ((atI z.cps.toList i).map fun c => .str ⟨#[c]⟩) S else .fail) Q _ := o
      by_cases hz : z.length ≤ 100000
      · rw [if_pos hz] at o'
        obtain ⟨z2, q, o2⟩ := optR_out o'
        obtain ⟨c, q3, rfl⟩ := Option.map_eq_some_iff.mp q
        cases hy; cases hx
        exact ix_str value slice pins s σ H _ _ v u Q I rx ry ⟨z, i, c, rfl, rfl, sz_of hz, q3, o2 ι H _ (Ext.refl _ _) rp (.str _)⟩ hs
      · rw [if_neg hz] at o'
        exact o'.elim
    | _ => exact o.elim
  | ref n =>
    have dcase : OutE L ι H (optR (ixD (dGet S n y)) S) Q (fun _ _ _ => False) → wpAny (model X.prog X.w) X.A (subscriptTail value slice v u) (EP X pins σ Q) X.xe s := fun o' => by
      obtain ⟨z, q, o2⟩ := optR_out o'
      cases q2 : dGet S n y with
      | none => rw [q2] at q; cases q
      | some r =>
        rw [q2] at q
        cases r with
        | none => cases q
        | some z' =>
          cases q
          obtain ⟨a, r, rfl, g, hr⟩ := dGet_ok rp hx hy q2
          cases r with
          | none => exact hr.elim
          | some w => exact ix_dict hu value slice pins s σ H _ _ v u Q I rx ry ⟨a, w, rfl, g, o2 ι H w (Ext.refl _ _) rp hr⟩ hs
    have o : OutE L ι H (gIxR n y S) Q (fun _ _ _ => False) := o
    unfold gIxR at o
    cases q1 : S[n]? with
    | none => rw [q1] at o; exact dcase o
    | some ob =>
      rw [q1] at o
      cases ob with
      | lst xs =>
        obtain ⟨z, q, o'⟩ := optR_out (o := ixL xs y) o
        obtain ⟨a, vs, rfl, _, h3, h4⟩ := rp.lst hx q1
        cases y with
        | int i =>
          cases hy
          obtain ⟨w, h1, h2⟩ := atI_rel h4 q
          exact ix_list value slice pins s σ H _ _ v u Q I rx ry ⟨a, vs, i, w, rfl, rfl, SqL.of h3, h1, o' ι H w (Ext.refl _ _) rp h2⟩ hs
        | _ => cases q
      | _ => exact dcase o
  | _ => exact o.elim
theorem me_ix {a b : Expr} {pos : Pos} {ma mb : EM} (hu : X.A.units + 1 < cLine) (ha : ME X L W a ma) (hb : ME X L W b mb) (hs : PlainIx b := by exact fun _ _ => rfl) : ME X L W (.Subscript a b pos) (mOp gIx ma mb) :=
  PE.wk (pe_ix (ixm hu) ha hb hs) (rdO_of nx_ix)

/-! ### slices -/
abbrev OM := Sg → Sto → Res (Option Int)
def rdP (L : Lay) (W : WX) (m : OM) : TO := fun τ H Q => ∃ ι S σ, Rep L ι S H ∧ RS L ι H σ τ ∧ match m σ S with
  | .ok x S' => ∀ ι' H', Ext ι H ι' H' → Rep L ι' S' H' → Q x H'
  | .exc n S' => ∀ ι' H' cls d, Ext ι H ι' H' → Rep L ι' S' H' → XR L ι' S' n cls d → W cls d τ H'
  | .fail => False
abbrev MO (X : Cx) (L : Lay) (W : WX) (e : Option Expr) (m : OM) : Prop := PO X e (rdP L W m)
def mNoP : OM := fun _ S => .ok none S
def mPart (a : EM) : OM := fun σ S => (a σ S).bind fun x S1 => match x with
  | .int i => .ok (some i) S1
  | _ => .fail
theorem mo_none : MO X L W none mNoP := ⟨fun pins s τ H Q I ⟨ι, S, σ, rp, rs, o⟩ => po_none.run pins s τ H Q I (o ι H (Ext.refl _ _) rp)⟩
theorem mo_some {e : Expr} {a : EM} (h : ME X L W e a) : MO X L W (some e) (mPart a) := ⟨fun pins s τ H Q I ⟨ι, S, σ, rp, rs, o⟩ => (po_some h).run pins s τ H Q I (by
  refine bindE rp rs ?_
  unfold mPart at o
  cases e1 : a σ S with
  | ok x S1 =>
    rw [e1] at o
    intro ι1 H1 v ex r1 s1 rv
    cases x with
    | int i =>
      cases rv
      exact ⟨i, rfl, o ι1 H1 ex r1⟩
    | _ => exact o.elim
  | exc n S1 => rw [e1] at o; exact o
  | fail => rw [e1] at o; exact o.elim)⟩
def cutM (xs : List VV) (lo hi : Option Int) : List VV := (xs.drop (HT.sIx xs.length 0 lo)).take (HT.sIx xs.length xs.length hi - HT.sIx xs.length 0 lo)
theorem cut_rel {ι : List Addr} {H : Hp} {xs : List VV} {vs : List V} {lo hi : Option Int} (r : RVs L ι H xs vs) : RVs L ι H (cutM xs lo hi) (cutV vs lo hi) := by
  unfold cutM cutV
  rw [r.length]
  exact (r.drop _).take _
def gSl : VV → Option Int → Option Int → Sto → Res VV
  | .ref n, lo, hi, S => match S[n]? with
    | some (.lst xs) => .ok (.ref S.length) (S ++ [.lst (cutM xs lo hi)])
    | _ => .fail
  | .rol xs, lo, hi, S => .ok (.ref S.length) (S ++ [.lst (cutM xs lo hi)])
  | .tup xs, lo, hi, S => .ok (.tup (cutM xs lo hi)) S
  | _, _, _, _ => .fail
def mSl (a : EM) (l h : OM) : EM := fun σ S => (a σ S).bind fun x S1 => (l σ S1).bind fun lo S2 => (h σ S2).bind fun hi S3 => gSl x lo hi S3
theorem nx_sl : ∀ x lo hi S, NoX (gSl x lo hi S) := fun x lo hi S n S' e => by
  unfold gSl at e
  split at e
  · split at e <;> cases e
  · cases e
  · cases e
  · cases e
def rdL (L : Lay) (g : VV → Option Int → Option Int → Sto → Res VV) : V → Option Int → Option Int → Hp → VK → Prop := fun vx lo hi H Q => ∃ ι S x, Rep L ι S H ∧ RV L ι H x vx ∧ OutE L ι H (g x lo hi S) Q (fun _ _ _ => False)
theorem slm (hK : L.K = X.K) : SlR X (rdL L gSl) := by
  intro pins s σ H x v vl vu lo hi sl Q I rx hs pl pu ⟨ι, S, y, rp, hy, o⟩
  have lcase : ∀ (a : Addr) (vs : List V) (xs : List VV), x = .ref a → SqL X.K H a vs → RVs L ι H xs vs → OutE L ι H (.ok (.ref S.length) (S ++ [.lst (cutM xs lo hi)])) Q (fun _ _ _ => False) →
      ∃ T id, typeLookup (.type T) "__getitem__" = pure (some (.builtin id)) ∧ s.TypeIs v T ∧ wpAny (model X.prog X.w) X.A (getItem v (.ref sl)) (EP X pins σ Q) X.xe s := fun a vs xs e h1 h2 h3 => by
    subst e
    refine sl_list pins s σ H _ v vl vu lo hi sl Q I rx hs pl pu ⟨a, vs, rfl, h1, fun p hp => ?_⟩
    have e2 : Ext ι H (ι ++ [p]) (upd H p (.lst (cutV vs lo hi))) := Rep.newExt hp
    exact h3 _ _ _ e2 (rp.new hp ⟨_, rfl, (cut_rel h2).mono e2⟩) rp.newRef
  cases y with
  | ref n =>
    have o' : OutE L ι H (match S[n]? with
      | some (.lst xs) => .ok (.ref S.length) (S ++ [.lst (cutM xs lo hi)])
      | _ => .fail) Q _ := o
    cases q : S[n]? with
    | none => rw [q] at o'; exact o'.elim
    | some ob =>
      rw [q] at o'
      cases ob with
      | lst xs =>
        obtain ⟨a, vs, rfl, _, h3, h4⟩ := rp.lst hy q
        exact lcase a vs xs rfl (SqL.of h3) h4 o'
      | _ => exact o'.elim
  | rol xs =>
    obtain ⟨a, vs, rfl, h3, h4⟩ := rp.sq (x := .rol xs) hy rfl
    rw [hK] at h3
    exact lcase a vs xs rfl h3 h4 o
  | tup xs =>
    have o' : OutE L ι H (.ok (.tup (cutM xs lo hi)) S) Q (fun _ _ _ => False) := o
    cases hy with
    | @tup a _ vs ha ra =>
      refine sl_tupA pins s σ H _ v vl vu lo hi sl Q I rx hs pl pu ⟨a, vs, rfl, SqT.of ha, fun hw => ?_, fun _ p hp => ?_⟩
      · have e : cutM xs lo hi = xs := by
          unfold cutM
          rw [ra.length, hw.1, hw.2, List.drop_zero, Nat.sub_zero, ← ra.length]
          exact List.take_length
        rw [e] at o'
        exact o' ι H _ (Ext.refl _ _) rp (.tup ha ra)
      · have e2 : Ext ι H ι (upd H p (.tup (cutV vs lo hi))) := ⟨List.prefix_rfl, Keep.new hp⟩
        exact o' ι _ _ e2 (rp.other hp) (.tup upd_same ((cut_rel ra).mono e2))
  | _ => exact o.elim
theorem me_sl {e : Expr} {lo hi : Option Expr} {pos p2 : Pos} {a : EM} {l h : OM} (hK : L.K = X.K) (ha : ME X L W e a) (hl : MO X L W lo l) (hh : MO X L W hi h) : ME X L W (.Subscript e (.Slice lo hi none p2) pos) (mSl a l h) :=
  PE.wk (pe_slice (slm hK) ha hl hh) fun τ H Q ⟨ι, S, σ, rp, rs, o⟩ => stepE rp rs o fun x S1 ι1 H1 v ex r1 s1 rv o1 => by
    refine ⟨ι1, S1, σ, r1, s1, ?_⟩
    cases e1 : l σ S1 with
    | ok lo S2 =>
      rw [e1] at o1
      intro ι2 H2 ex2 r2
      have s2 := s1.mono ex2
      refine ⟨ι2, S2, σ, r2, s2, ?_⟩
      have o2 : OutE L ι1 H1 ((h σ S2).bind fun hi S3 => gSl x lo hi S3) Q (fun c d H' => W c d τ H') := o1
      cases e2 : h σ S2 with
      | ok hi S3 =>
        rw [e2] at o2
        intro ι3 H3 ex3 r3
        have o3 : OutE L ι1 H1 (gSl x lo hi S3) Q (fun c d H' => W c d τ H') := o2
        refine ⟨ι3, S3, x, r3, (rv.mono ex2).mono ex3, ?_⟩
        have o4 := OutE.mono (ex2.trans ex3) o3
        cases e3 : gSl x lo hi S3 with
        | ok z S4 => rw [e3] at o4; exact o4
        | exc n S4 => exact absurd e3 (nx_sl _ _ _ _ _ _)
        | fail => rw [e3] at o4; exact o4
      | exc n S3 =>
        rw [e2] at o2
        exact fun ι3 H3 c d ex3 r3 x3 => o2 ι3 H3 c d (ex2.trans ex3) r3 x3
      | fail => rw [e2] at o2; exact o2.elim
    | exc n S2 => rw [e1] at o1; exact o1
    | fail => rw [e1] at o1; exact o1.elim
end
end Sx
end
section
/-! Sx5: statements, targets, loops. -/
namespace Sx
open PySem PySem.Spec
open PyProof.Rows L2

abbrev GM := VV → Sg → Sto → SR
abbrev GMs := List VV → Sg → Sto → SR
def mNext : SM := fun σ S => .nx σ S
def mBrk : SM := fun σ S => .bk σ S
def mCt : SM := fun σ S => .ct σ S
def SR.andThen (r : SR) (k : Sg → Sto → SR) : SR := match r with
  | .nx σ S => k σ S
  | r => r
def mSeq (a b : SM) : SM := fun σ S => (a σ S).andThen b
def mDrop (e : EM) : SM := fun σ S => (e σ S).toS σ fun _ S1 => .nx σ S1
def mRet (e : EM) : SM := fun σ S => (e σ S).toS σ fun x S1 => .rt x S1
def mRetN : SM := fun _ S => .rt .non S
def Res.toT (σ : Sg) (r : Res Bool) (k : Bool → Sto → SR) : SR := match r with
  | .ok a S => k a S
  | .exc n S => .exc n σ S
  | .fail => .fail
def mIfS (t : TM) (a b : SM) : SM := fun σ S => (t σ S).toT σ fun c S1 => if c = true then a σ S1 else b σ S1
def SR.nxo (r : SR) : SR := match r with
  | .nx σ S => .nx σ S
  | .exc n σ S => .exc n σ S
  | _ => .fail
def mAsg (e : EM) (g : GM) : SM := fun σ S => (e σ S).toS σ fun x S1 => (g x σ S1).nxo
def gmName (i : Nat) : GM := fun x σ S => .nx (σ.set i (some x)) S
def gmNil : GMs := fun xs σ S => match xs with
  | [] => .nx σ S
  | _ => .fail
def gmCons (g : GM) (r : GMs) : GMs := fun xs σ S => match xs with
  | x :: ys => (g x σ S).andThen (r ys)
  | [] => .fail
def gmTup (n : Nat) (g : GMs) : GM := fun x σ S => match x with
  | .tup xs => if xs.length = n then g xs σ S else .fail
  | _ => .fail
/-- stores into lists and dicts -/
def ixOf (xs : List VV) (i : VV) : Option Nat := match i with
  | .int k => ixN xs.length k
  | _ => none
def keyT (i : VV) : Option (List Key) := match i with
  | .tup ks => ks.mapM keyV
  | _ => none
def setR (n : Nat) (i v : VV) (S : Sto) : Option Sto := match S[n]? with
  | some (.lst xs) => (ixOf xs i).map fun j => S.set n (.lst (xs.set j v))
  | some (.dK kvs) => if kvs.length ≤ 100000 then (keyV i).map fun k => S.set n (.dK (putM kvs k v)) else none
  | some (.dT kvs) => if kvs.length ≤ 100000 then (keyT i).map fun k => S.set n (.dT (putM kvs k v)) else none
  | _ => none
def setS (o i v : VV) (S : Sto) : Option Sto := match o with
  | .ref n => setR n i v S
  | _ => none
def optS (o : Option Sto) (σ : Sg) : SR := match o with
  | some S => .nx σ S
  | none => .fail
def gmSub (o i : EM) : GM := fun x σ S => (o σ S).toS σ fun a S1 => (i σ S1).toS σ fun k S2 => optS (setS a k x S2) σ
/-- name op= e -/
def mAug (i : Nat) (g : VV → VV → Sto → Res VV) (e : EM) : SM := fun σ S => match σ[i]? with
  | some (some x) => (e σ S).toS σ fun y S1 => (g x y S1).toS σ fun z S2 => .nx (σ.set i (some z)) S2
  | _ => .fail
/-- o[i] op= e -/
def mAugS (g : VV → VV → Sto → Res VV) (o i e : EM) : SM := fun σ S => (o σ S).toS σ fun a S1 => (i σ S1).toS σ fun k S2 => (gIx a k S2).toS σ fun x S3 => (e σ S3).toS σ fun y S4 => (g x y S4).toS σ fun z S5 => optS (setS a k z S5) σ

section
variable {X : Cx} {L : Lay} {W : WX}
theorem stepS {a : EM} {k : VV → Sto → SR} {τ : L2.St} {H : Hp} {D : Ends} {R : V → Hp → Prop} {ι : List Addr} {S : Sto} {σ : Sg} (rp : Rep L ι S H) (rs : RS L ι H σ τ) (o : OutS L W ι H ((a σ S).toS σ k) D)
    (h : ∀ x S1 ι1 H1 v, Ext ι H ι1 H1 → Rep L ι1 S1 H1 → RS L ι1 H1 σ τ → RV L ι1 H1 x v → OutS L W ι1 H1 (k x S1) D → R v H1) : rdE L W a τ H R := by
  refine bindE rp rs ?_
  cases e1 : a σ S with
  | ok x S1 =>
    rw [e1] at o
    exact fun ι1 H1 v ex r1 s1 rv => h x S1 ι1 H1 v ex r1 s1 rv (OutS.mono ex o)
  | exc n S1 =>
    rw [e1] at o
    exact fun ι1 H1 c d ex r1 x1 => o ι1 H1 τ c d ex r1 (rs.mono ex) x1
  | fail => rw [e1] at o; exact o.elim
theorem stepST {a : TM} {k : Bool → Sto → SR} {τ : L2.St} {H : Hp} {D : Ends} {R : Bool → Hp → Prop} {ι : List Addr} {S : Sto} {σ : Sg} (rp : Rep L ι S H) (rs : RS L ι H σ τ) (o : OutS L W ι H ((a σ S).toT σ k) D)
    (h : ∀ x S1 ι1 H1, Ext ι H ι1 H1 → Rep L ι1 S1 H1 → RS L ι1 H1 σ τ → OutS L W ι1 H1 (k x S1) D → R x H1) : rdT L W a τ H R := by
  refine bindT rp rs ?_
  cases e1 : a σ S with
  | ok x S1 =>
    rw [e1] at o
    exact fun ι1 H1 ex r1 s1 => h x S1 ι1 H1 ex r1 s1 (OutS.mono ex o)
  | exc n S1 =>
    rw [e1] at o
    exact fun ι1 H1 c d ex r1 x1 => o ι1 H1 τ c d ex r1 (rs.mono ex) x1
  | fail => rw [e1] at o; exact o.elim
/-! ### blocks -/
theorem mss_nil : MSs X L W [] mNext := PSs.wk pss_nil fun D τ H ⟨ι, S, σ, rp, rs, o⟩ => o ι H τ (Ext.refl _ _) rp rs
theorem andThen_out {ι : List Addr} {H : Hp} {r : SR} {k : Sg → Sto → SR} {D : Ends} {nx : L2.St → Hp → Prop} (o : OutS L W ι H (r.andThen k) D)
    (h : ∀ σ S ι1 H1 τ, Ext ι H ι1 H1 → Rep L ι1 S H1 → RS L ι1 H1 σ τ → OutS L W ι1 H1 (k σ S) D → nx τ H1) : OutS L W ι H r { D with nx := nx } := by
  cases r with
  | nx σ S => exact fun ι1 H1 τ ex r1 s1 => h σ S ι1 H1 τ ex r1 s1 (OutS.mono ex o)
  | rt x S => exact o
  | bk σ S => exact o
  | ct σ S => exact o
  | exc n σ S => exact o
  | fail => exact o
theorem mss_cons {s : Stmt} {r : List Stmt} {a b : SM} (ha : MS X L W s a) (hb : MSs X L W r b) : MSs X L W (s :: r) (mSeq a b) := PSs.wk (pss_cons ha hb) fun D τ H ⟨ι, S, σ, rp, rs, o⟩ =>
  ⟨ι, S, σ, rp, rs, andThen_out o fun σ1 S1 ι1 H1 τ1 ex r1 s1 o1 => ⟨ι1, S1, σ1, r1, s1, o1⟩⟩
theorem mss_one {s : Stmt} {a : SM} (ha : MS X L W s a) : MSs X L W [s] a := pss_one ha
theorem ms_pass {pos : Pos} : MS X L W (.Pass pos) mNext := PS.wk ps_pass fun D τ H ⟨ι, S, σ, rp, rs, o⟩ => o ι H τ (Ext.refl _ _) rp rs
theorem ms_brk {pos : Pos} : MS X L W (.Break pos) mBrk := PS.wk ps_break fun D τ H ⟨ι, S, σ, rp, rs, o⟩ => o ι H τ (Ext.refl _ _) rp rs
theorem ms_ct {pos : Pos} : MS X L W (.Continue pos) mCt := PS.wk ps_continue fun D τ H ⟨ι, S, σ, rp, rs, o⟩ => o ι H τ (Ext.refl _ _) rp rs
theorem ms_expr {e : Expr} {pos : Pos} {a : EM} (ha : ME X L W e a) (hs : swapsWith e none pos.line X.env = pure false := by rfl) : MS X L W (.Expr e pos) (mDrop a) := PS.wk (ps_expr ha hs) fun D τ H ⟨ι, S, σ, rp, rs, o⟩ =>
  stepS rp rs o fun x S1 ι1 H1 v ex r1 s1 rv o1 => o1 ι1 H1 τ (Ext.refl _ _) r1 s1
theorem ms_ret {e : Expr} {pos : Pos} {a : EM} (ha : ME X L W e a) : MS X L W (.Return (some e) pos) (mRet a) := PS.wk (ps_ret ha) fun D τ H ⟨ι, S, σ, rp, rs, o⟩ =>
  stepS rp rs o fun x S1 ι1 H1 v ex r1 s1 rv o1 => o1 ι1 H1 v (Ext.refl _ _) r1 rv
theorem ms_retN {pos : Pos} : MS X L W (.Return none pos) mRetN := PS.wk ps_retN fun D τ H ⟨ι, S, σ, rp, rs, o⟩ => o ι H .non (Ext.refl _ _) rp .non
theorem ms_if {c : Expr} {a b : List Stmt} {pos : Pos} {t : TM} {ma mb : SM} (ht : MT X L W c t) (ha : MSs X L W a ma) (hb : MSs X L W b mb) : MS X L W (.If c a b pos) (mIfS t ma mb) := PS.wk (ps_if ht ha hb) fun D τ H ⟨ι, S, σ, rp, rs, o⟩ =>
  stepST rp rs o fun x S1 ι1 H1 ex r1 s1 o1 => by
    cases x with
    | true => exact ⟨ι1, S1, σ, r1, s1, o1⟩
    | false => exact ⟨ι1, S1, σ, r1, s1, o1⟩
def mNever : SM := fun _ _ => .fail
theorem ms_never {s : Stmt} : MS X L W s mNever := PS.wk ps_never fun D τ H ⟨ι, S, σ, rp, rs, o⟩ => o
theorem mss_never {s : List Stmt} : MSs X L W s mNever := PSs.wk pss_never fun D τ H ⟨ι, S, σ, rp, rs, o⟩ => o

/-! ### targets -/
def rdG (L : Lay) (W : WX) (g : GM) : TG := fun v τ H Q => ∃ ι S σ x, Rep L ι S H ∧ RS L ι H σ τ ∧ RV L ι H x v ∧ OutS L W ι H (g x σ S) { nx := Q, rt := fun _ _ => False }
def rdGs (L : Lay) (W : WX) (g : GMs) : TGs := fun vs τ H Q => ∃ ι S σ xs, Rep L ι S H ∧ RS L ι H σ τ ∧ RVs L ι H xs vs ∧ OutS L W ι H (g xs σ S) { nx := Q, rt := fun _ _ => False }
abbrev MG (X : Cx) (L : Lay) (W : WX) (e : Expr) (g : GM) : Prop := PG X e (rdG L W g)
abbrev MGs (X : Cx) (L : Lay) (W : WX) (e : List Expr) (g : GMs) : Prop := PGs X e (rdGs L W g)
theorem PG.wk {e : Expr} {t t' : TG} (h : PG X e t) (k : ∀ v τ H Q, t' v τ H Q → t v τ H Q) : PG X e t' := ⟨fun pins s τ H v u Q I r q => h.run pins s τ H v u Q I r (k _ _ _ _ q)⟩
theorem PGs.wk {e : List Expr} {t t' : TGs} (h : PGs X e t) (k : ∀ v τ H Q, t' v τ H Q → t v τ H Q) : PGs X e t' := ⟨fun pins s τ H v u Q I r q => h.run pins s τ H v u Q I r (k _ _ _ _ q)⟩
theorem gname_rd {i : Nat} : ∀ v τ H Q, rdG L W (gmName i) v τ H Q → gName i v τ H Q := fun v τ H Q ⟨ι, S, σ, x, rp, rs, rv, o⟩ => o ι H _ (Ext.refl _ _) rp (rs.set i rv)
theorem mg_name {i : Nat} {e : Expr} (h : PG X e (gName i)) : MG X L W e (gmName i) := PG.wk h gname_rd
theorem mgs_nil : MGs X L W [] gmNil := PGs.wk pgs_nil fun v τ H Q ⟨ι, S, σ, xs, rp, rs, rv, o⟩ => by
  cases rv with
  | nil => exact ⟨rfl, o ι H τ (Ext.refl _ _) rp rs⟩
  | cons _ _ => exact o.elim
theorem mgs_cons {e : Expr} {es : List Expr} {g : GM} {r : GMs} (h1 : MG X L W e g) (h2 : MGs X L W es r) (hs : (assignEach (e :: es) X.env).map (·.2) = assign e X.env :: (assignEach es X.env).map (·.2) := by rfl) : MGs X L W (e :: es) (gmCons g r) :=
  PGs.wk (pgs_cons h1 h2 hs) fun v τ H Q ⟨ι, S, σ, xs, rp, rs, rv, o⟩ => by
    cases rv with
    | nil => exact o.elim
    | @cons x v ys vs h rr =>
      refine ⟨v, vs, rfl, ι, S, σ, x, rp, rs, h, andThen_out (D := { nx := Q, rt := fun _ _ => False }) o fun σ1 S1 ι1 H1 τ1 ex r1 s1 o1 => ⟨ι1, S1, σ1, ys, r1, s1, rr.mono ex, o1⟩⟩
theorem mg_tup {es : List Expr} {k : Nat} {pos : Pos} {g : GMs} {n : Nat} (hc : X.calm = true) (h : MGs X L W es g)
    (hn : (assignEach es X.env).length = n := by rfl) (hst : (assignEach es X.env).findIdx? (·.1) = none := by rfl) : MG X L W (.Tuple es k pos) (gmTup n g) :=
  PG.wk (pg_tup hc h hn hst) fun v τ H Q ⟨ι, S, σ, x, rp, rs, rv, o⟩ => by
    cases rv with
    | @tup a xs vs ha rr =>
      have o' : OutS L W ι H (if xs.length = n then g xs σ S else .fail) _ := o
      by_cases hl : xs.length = n
      · rw [if_pos hl] at o'
        exact ⟨a, vs, rfl, SqT.of ha, by rw [← rr.length]; exact hl, ι, S, σ, xs, rp, rs, rr, o'⟩
      · rw [if_neg hl] at o'
        exact o'.elim
    | _ => exact o.elim

/-! ### stores -/
theorem putM_rel {κ : Type} [DecidableEq κ] {ι : List Addr} {H : Hp} {k : κ} {x : VV} {v : V} {kvs : List (κ × VV)} {ws : List (κ × V)} (r : RKv L ι H kvs ws) (h : RV L ι H x v) : RKv L ι H (putM kvs k x) (putK ws k v) := by
  have ea : (kvs.any fun kv => decide (kv.1 = k)) = (ws.any fun kv => decide (kv.1 = k)) := by
    induction r with
    | nil => rfl
    | cons q _ ih => rw [List.any_cons, List.any_cons, ih, q.1]
  have em : RKv L ι H (kvs.map (fun kv => if kv.1 = k then (kv.1, x) else kv)) (ws.map (fun kv => if kv.1 = k then (kv.1, v) else kv)) := by
    clear ea
    induction r with
    | nil => exact .nil
    | @cons p q _ _ z _ ih =>
      refine .cons ?_ ih
      show (if p.1 = k then (p.1, x) else p).1 = (if q.1 = k then (q.1, v) else q).1 ∧ RV L ι H (if p.1 = k then (p.1, x) else p).2 (if q.1 = k then (q.1, v) else q).2
      by_cases e : p.1 = k
      · rw [if_pos e, if_pos (z.1.symm.trans e)]
        exact ⟨z.1, h⟩
      · rw [if_neg e, if_neg (fun y => e (z.1.trans y))]
        exact z
  have eap : RKv L ι H (kvs ++ [(k, x)]) (ws ++ [(k, v)]) := by
    clear ea em
    induction r with
    | nil => exact .cons ⟨rfl, h⟩ .nil
    | cons z _ ih => exact .cons z ih
  unfold putM putK
  rw [ea]
  by_cases c : (ws.any fun kv => decide (kv.1 = k)) = true
  · rw [if_pos c, if_pos c]
    exact em
  · rw [if_neg c, if_neg c]
    exact eap
theorem RKv.length {κ : Type} {ι : List Addr} {H : Hp} {a : List (κ × VV)} {b : List (κ × V)} (h : RKv L ι H a b) : a.length = b.length := Paired.length h
def rdSet (L : Lay) : TSet := fun vo vi vv H Q => ∃ ι S o i x S', Rep L ι S H ∧ RV L ι H o vo ∧ RV L ι H i vi ∧ RV L ι H x vv ∧ setS o i x S = some S' ∧ ∀ H', Ext ι H ι H' → Rep L ι S' H' → Q H'
theorem set_m (hu : X.A.units + 1 < cLine) : PSet X (rdSet L) := by
  intro pins s σ H vo vi vv ov iv u Q I ro ri ru ⟨ι, S, o, i, x, S', rp, ho, hi, hx, e, q⟩
  cases o with
  | ref n =>
    cases ho with
    | @ref _ a ha =>
      obtain ⟨ob, hob, h1, h2, h3⟩ := rp.addr ha
      have e' : setR n i x S = some S' := e
      unfold setR at e'
      rw [h1] at e'
      cases ob with
      | lst xs =>
        obtain ⟨vs, hh, hr⟩ := h3
        subst hh
        obtain ⟨j, hj, rfl⟩ := Option.map_eq_some_iff.mp e'
        cases hi with
        | int k =>
          have kp : Keep H (upd H a (.lst (vs.set j vv))) := Keep.set h2 (fun _ z => nomatch z) (fun _ _ z => nomatch z)
          have hj' : ixN xs.length k = some j := hj
          refine set_list pins s σ H _ _ vv ov iv u Q I ro ri ru ⟨a, vs, k, j, rfl, rfl, h2, by rw [← hr.length]; exact hj', q _ ⟨List.prefix_rfl, kp⟩ (rp.set ha h2 kp ⟨_, rfl, (hr.set j hx).mono ⟨List.prefix_rfl, kp⟩⟩)⟩
        | _ => cases hj
      | dK kvs =>
        obtain ⟨ws, hh, hr⟩ := h3
        subst hh
        have e2 : (if kvs.length ≤ 100000 then (keyV i).map fun k => S.set n (.dK (putM kvs k x)) else none) = some S' := e'
        by_cases c : kvs.length ≤ 100000
        · rw [if_pos c] at e2
          obtain ⟨k, hk, rfl⟩ := Option.map_eq_some_iff.mp e2
          have hv := keyV_rel hi hk
          subst hv
          cases (show ov = Value.ref a from ro)
          have kp : Keep H (upd H a (.dK (putK ws k vv))) := Keep.set h2 (fun _ z => nomatch z) (fun _ _ z => nomatch z)
          exact d_setItem hu I (DPut.k h2 (Nat.lt_of_le_of_lt (by rw [← hr.length]; exact c) (by decide))) ri ru fun s' I' => ⟨_, I', q _ ⟨List.prefix_rfl, kp⟩ (rp.set ha h2 kp ⟨_, rfl, (putM_rel hr hx).mono ⟨List.prefix_rfl, kp⟩⟩)⟩
        · rw [if_neg c] at e2
          cases e2
      | dT kvs =>
        obtain ⟨ws, hh, hr⟩ := h3
        subst hh
        have e2 : (if kvs.length ≤ 100000 then (keyT i).map fun k => S.set n (.dT (putM kvs k x)) else none) = some S' := e'
        by_cases c : kvs.length ≤ 100000
        · rw [if_pos c] at e2
          obtain ⟨k, hk, rfl⟩ := Option.map_eq_some_iff.mp e2
          cases hi with
          | @tup b ys vs hb rb =>
            have hk' : ys.mapM keyV = some k := hk
            have hv := keysV_rel rb hk'
            subst hv
            cases (show ov = Value.ref a from ro)
            have kp : Keep H (upd H a (.dT (putK ws k vv))) := Keep.set h2 (fun _ z => nomatch z) (fun _ _ z => nomatch z)
            exact d_setItem hu I (DPut.t h2 hb (Nat.lt_of_le_of_lt (by rw [← hr.length]; exact c) (by decide))) ri ru fun s' I' => ⟨_, I', q _ ⟨List.prefix_rfl, kp⟩ (rp.set ha h2 kp ⟨_, rfl, (putM_rel hr hx).mono ⟨List.prefix_rfl, kp⟩⟩)⟩
          | _ => cases hk
        · rw [if_neg c] at e2
          cases e2
      | _ => cases e'
  | _ => cases e
theorem optS_out {ι : List Addr} {H : Hp} {o : Option Sto} {σ : Sg} {D : Ends} (h : OutS L W ι H (optS o σ) D) : ∃ S, o = some S ∧ ∀ ι' H' τ, Ext ι H ι' H' → Rep L ι' S H' → RS L ι' H' σ τ → D.nx τ H' := by
  cases o with
  | none => exact h.elim
  | some S => exact ⟨S, rfl, h⟩
theorem mg_sub {o i : Expr} {pos : Pos} {mo mi : EM} (hu : X.A.units + 1 < cLine) (ho : ME X L W o mo) (hi : ME X L W i mi)
    (ha : ∀ v, assign (.Subscript o i pos) X.env v = (do
      let ov ← holding [v] (eval o X.env)
      let iv ← holding [v, ov] (eval i X.env)
      standAt pos
      holding [v, ov, iv] (setItem ov iv v)
      release [v, ov, iv] []) := by intro _; rfl) : MG X L W (.Subscript o i pos) (gmSub mo mi) :=
  PG.wk (pg_sub ho hi (set_m (L := L) hu) ha) fun v τ H Q ⟨ι, S, σ, x, rp, rs, rv, o⟩ =>
    stepS (D := { nx := Q, rt := fun _ _ => False }) rp rs o fun a S1 ι1 H1 va ex1 r1 s1 ra o1 => stepS (D := { nx := Q, rt := fun _ _ => False }) r1 s1 o1 fun k S2 ι2 H2 vk ex2 r2 s2 rk o2 => by
      obtain ⟨S3, e3, q⟩ := optS_out o2
      exact ⟨ι2, S2, a, k, x, S3, r2, ra.mono ex2, rk, (rv.mono ex1).mono ex2, e3, fun H' ex3 r3 => q ι2 H' τ ex3 r3 (s2.mono ex3)⟩

/-! ### assignments -/
theorem ms_asg {tg e : Expr} {pos : Pos} {a : EM} {g : GM} (he : ME X L W e a) (hg : MG X L W tg g) (hs : swapsWithSole [tg] e pos.line X.env = pure false := by rfl) (hw : swappedStores [tg] e X.env = pure none := by rfl)
    (h1 : (assignEach [tg] X.env).map (·.2) = [assign tg X.env] := by rfl) : MS X L W (.Assign [tg] e pos) (mAsg a g) := PS.wk (ps_asg he hg hs hw h1) fun D τ H ⟨ι, S, σ, rp, rs, o⟩ =>
  stepS rp rs o fun x S1 ι1 H1 v ex r1 s1 rv o1 => ⟨ι1, S1, σ, x, r1, s1, rv, by
    cases e1 : g x σ S1 with
    | nx σ' S' => rw [e1] at o1; exact o1
    | exc n σ' S' => rw [e1] at o1; exact o1
    | fail => rw [e1] at o1; exact o1
    | rt y S' => rw [e1] at o1; exact o1.elim
    | bk σ' S' => rw [e1] at o1; exact o1.elim
    | ct σ' S' => rw [e1] at o1; exact o1.elim⟩
theorem ms_set {i : Nat} {s : Stmt} {te : TE} {a : EM} (h : PS X s (tAsg te (gName i))) (hk : ∀ τ H Q, rdE L W a τ H Q → te τ H Q) : MS X L W s (mAsg a (gmName i)) := PS.wk h fun D τ H ⟨ι, S, σ, rp, rs, o⟩ =>
  hk τ H _ (stepS rp rs o fun x S1 ι1 H1 v ex r1 s1 rv o1 => o1 ι1 H1 _ (Ext.refl _ _) r1 (s1.set i rv))
end
end Sx
end
/-! Sx6: augmented stores, while, for. -/
noncomputable section
namespace Sx
open PySem PySem.Spec
open PyProof.Rows L2

def gGetL (xs : List VV) : VV → Sto → Res VV
  | .int i, S => if InR 0 i 1000000 then optR xs[i.toNat]? S else .fail
  | _, _ => .fail
def gGetR (n : Nat) (y : VV) (S : Sto) : Res VV := match S[n]? with
  | some (.lst xs) => gGetL xs y S
  | _ => optR (ixD (dGet S n y)) S
/-- o[i], as an augmented store reads it -/
def gGet : VV → VV → Sto → Res VV
  | .ref n, y, S => gGetR n y S
  | _, _, _ => .fail
/-- o[i] op= e -/
def mAugI (g : VV → VV → Sto → Res VV) (o i e : EM) : SM := fun σ S => (o σ S).toS σ fun a S1 => (i σ S1).toS σ fun k S2 => (gGet a k S2).toS σ fun x S3 => (e σ S3).toS σ fun y S4 => (g x y S4).toS σ fun z S5 => optS (setS a k z S5) σ
def SR.turn (r : SR) (k : Sg → Sto → SR) : SR := match r with
  | .nx σ S => k σ S
  | .ct σ S => k σ S
  | .bk σ S => .nx σ S
  | .rt v S => .rt v S
  | .exc n σ S => .exc n σ S
  | .fail => .fail
def mWhile (t : TM) (b : SM) : Nat → SM
  | 0, _, _ => .fail
  | n + 1, σ, S => (t σ S).toT σ fun c S1 => if c = true then (b σ S1).turn (mWhile t b n) else .nx σ S1
/-- what is walked: the items, and what must stand so long -/
structure Src where
  items : List VV
  ok : Sto → Prop
abbrev IM := Sg → Sto → Res Src
open Classical in
def forL (ok : Sto → Prop) (g : GM) (b : SM) : List VV → SM
  | [], σ, S => if ok S then .nx σ S else .fail
  | x :: r, σ, S => if ok S then (((g x σ S).nxo).andThen b).turn (forL ok g b r) else .fail
def mFor (m : IM) (g : GM) (b : SM) : SM := fun σ S => match m σ S with
  | .ok src S1 => forL src.ok g b src.items σ S1
  | .exc n S1 => .exc n σ S1
  | .fail => .fail

section
variable {X : Cx} {L : Lay} {W : WX}
theorem nx_getL : ∀ xs y S, NoX (gGetL xs y S) := fun xs y S n S' e => by
  cases y with
  | int i =>
    have e' : (if InR 0 i 1000000 then optR xs[i.toNat]? S else .fail) = Res.exc n S' := e
    split at e'
    · exact nx_opt n S' e'
    · cases e'
  | _ => cases e
theorem nx_get : ∀ x y S, NoX (gGet x y S) := fun x y S n S' e => by
  cases x with
  | ref m =>
    have e' : gGetR m y S = Res.exc n S' := e
    unfold gGetR at e'
    split at e'
    · exact nx_getL _ _ _ n S' e'
    · exact nx_opt n S' e'
  | _ => cases e
/-- an operator's end in a statement -/
theorem opS {g : VV → VV → Sto → Res VV} (hg : ∀ x y S, NoX (g x y S)) {x y : VV} {S : Sto} {σ : Sg} {k : VV → Sto → SR} {D : Ends} {ι : List Addr} {H : Hp} {vx vy : V} {R : V → Hp → Prop} (rp : Rep L ι S H) (hx : RV L ι H x vx) (hy : RV L ι H y vy) (o : OutS L W ι H ((g x y S).toS σ k) D)
    (h : ∀ z S1 ι1 H1 v, Ext ι H ι1 H1 → Rep L ι1 S1 H1 → RV L ι1 H1 z v → OutS L W ι1 H1 (k z S1) D → R v H1) : rdO L g vx vy H R := by
  refine ⟨ι, S, x, y, rp, hx, hy, ?_⟩
  cases e : g x y S with
  | ok z S1 =>
    rw [e] at o
    exact fun ι1 H1 v ex r1 rv => h z S1 ι1 H1 v ex r1 rv (OutS.mono ex o)
  | exc n S1 => exact absurd e (hg x y S n S1)
  | fail => rw [e] at o; exact o.elim
theorem ms_aug {i : Nat} {s : Stmt} {g : VV → VV → Sto → Res VV} {a : EM} (hg : ∀ x y S, NoX (g x y S)) (h : PS X s (tAug i (rdE L W a) (rdO L g))) : MS X L W s (mAug i g a) := PS.wk h fun D τ H ⟨ι, S, σ, rp, rs, o⟩ => by
  unfold mAug at o
  cases e : σ[i]? with
  | none => rw [e] at o; exact o.elim
  | some w =>
    cases w with
    | none => rw [e] at o; exact o.elim
    | some x =>
      rw [e] at o
      obtain ⟨v, h1, h2⟩ := rs.at_ i x e
      exact ⟨v, h1, stepS rp rs o fun y S1 ι1 H1 w ex r1 s1 rw' o1 => opS hg r1 (h2.mono ex) rw' o1 fun z S2 ι2 H2 u ex2 r2 ru o2 => o2 ι2 H2 _ (Ext.refl _ _) r2 ((s1.mono ex2).set i ru)⟩
theorem get_m (hu : X.A.units + 1 < cLine) : PGet X (rdO L gGet) := by
  intro pins s σ H vo vi ov iv Q I ro ri ⟨ι, S, x, y, rp, hx, hy, o⟩
  cases x with
  | ref n =>
    have dcase : OutE L ι H (optR (ixD (dGet S n y)) S) Q (fun _ _ _ => False) → wpAny (model X.prog X.w) X.A (getItem ov iv) (EP X pins σ Q) X.xe s := fun o' => by
      obtain ⟨z, q, o2⟩ := optR_out o'
      cases q2 : dGet S n y with
      | none => rw [q2] at q; cases q
      | some r =>
        rw [q2] at q
        cases r with
        | none => cases q
        | some z' =>
          cases q
          obtain ⟨a, r, rfl, g, hr⟩ := dGet_ok rp hx hy q2
          cases r with
          | none => exact hr.elim
          | some w =>
            cases (show ov = Value.ref a from ro)
            exact d_getItem hu I g ri fun w' s3 I3 rw' => ⟨w, H, I3, rw', o2 ι H w (Ext.refl _ _) rp hr⟩
    have o1 : OutE L ι H (gGetR n y S) Q (fun _ _ _ => False) := o
    unfold gGetR at o1
    cases q1 : S[n]? with
    | none =>
      rw [q1] at o1
      exact dcase o1
    | some ob =>
      rw [q1] at o1
      cases ob with
      | lst xs =>
        cases y with
        | int i =>
          have o' : OutE L ι H (if InR 0 i 1000000 then optR xs[i.toNat]? S else .fail) Q (fun _ _ _ => False) := o1
          by_cases c : InR 0 i 1000000
          · rw [if_pos c] at o'
            obtain ⟨z, q, o2⟩ := optR_out o'
            obtain ⟨a, vs, rfl, _, h3, h4⟩ := rp.lst hx q1
            obtain ⟨w, hw, rw'⟩ := h4.get q
            cases hy
            cases (show ov = Value.ref a from ro)
            obtain ⟨t, rfl⟩ := ri
            obtain ⟨its, r, pl, hz⟩ := I.list (SqL.of h3)
            obtain ⟨u, hu', ru⟩ := r.get hw
            exact wpAny_getItem_list pl.isList c.1 (by have := c.2; omega) (by simpa using hu') ⟨w, H, I, ru, o2 ι H w (Ext.refl _ _) rp rw'⟩
          · rw [if_neg c] at o'
            exact o'.elim
        | _ => exact o1.elim
      | _ => exact dcase o1
  | _ => exact o.elim
theorem ms_augI {o i e : Expr} {op : Operator} {tpos pos : Pos} {g : VV → VV → Sto → Res VV} {mo mi me : EM} (hu : X.A.units + 1 < cLine) (hg : ∀ x y S, NoX (g x y S)) (hp : PIp X op (rdO L g)) (ho : ME X L W o mo) (hi : ME X L W i mi) (he : ME X L W e me)
    (ha : ∀ ov iv new, augStore i ov iv new = (do holding [new, ov, iv] (setItem ov iv new); release [new, ov, iv] []; pure .next) := by intros; rfl) : MS X L W (.AugAssign (.Subscript o i tpos) op e pos) (mAugI g mo mi me) :=
  PS.wk (ps_augS ho hi (get_m (L := L) hu) he hp (set_m (L := L) hu) ha) fun D τ H ⟨ι, S, σ, rp, rs, o⟩ =>
    stepS rp rs o fun a S1 ι1 H1 va ex1 r1 s1 ra o1 => stepS r1 s1 o1 fun k S2 ι2 H2 vk ex2 r2 s2 rk o2 => opS nx_get r2 (ra.mono ex2) rk o2 fun x S3 ι3 H3 vx ex3 r3 rx o3 =>
      stepS r3 (s2.mono ex3) o3 fun y S4 ι4 H4 vy ex4 r4 s4 ry o4 => opS hg r4 (rx.mono ex4) ry o4 fun z S5 ι5 H5 vz ex5 r5 rz o5 => by
        obtain ⟨S6, e6, q⟩ := optS_out o5
        exact ⟨ι5, S5, a, k, z, S6, r5, ((((ra.mono ex2).mono ex3).mono ex4).mono ex5), ((rk.mono ex3).mono ex4).mono ex5, rz, e6, fun H' ex6 r6 => q ι5 H' τ ex6 r6 ((s4.mono ex5).mono ex6)⟩

/-! ### while -/
theorem turn_out {ι : List Addr} {H : Hp} {r : SR} {k : Sg → Sto → SR} {D : Ends} {N : L2.St → Hp → Prop} (o : OutS L W ι H (r.turn k) D)
    (h : ∀ σ S ι1 H1 τ, Ext ι H ι1 H1 → Rep L ι1 S H1 → RS L ι1 H1 σ τ → OutS L W ι1 H1 (k σ S) D → N τ H1) : OutS L W ι H r { D with nx := N, ct := N, bk := D.nx } := by
  cases r with
  | nx σ S => exact fun ι1 H1 τ ex r1 s1 => h σ S ι1 H1 τ ex r1 s1 (OutS.mono ex o)
  | ct σ S => exact fun ι1 H1 τ ex r1 s1 => h σ S ι1 H1 τ ex r1 s1 (OutS.mono ex o)
  | bk σ S => exact o
  | rt x S => exact o
  | exc n σ S => exact o
  | fail => exact o
theorem ms_while {c : Expr} {body : List Stmt} {pos : Pos} {t : TM} {b : SM} (n : Nat) (hp : PassesOwn (model X.prog X.w) X.A X.env X.xe) (hc : MT X L W c t) (hb : MSs X L W body b) : MS X L W (.While c body [] pos) (mWhile t b n) :=
  PS.wk (ps_while hp hc hb) fun D τ H ⟨ι, S, σ, rp, rs, o⟩ => by
    refine ⟨fun m τ H => ∃ ι S σ, Rep L ι S H ∧ RS L ι H σ τ ∧ OutS L W ι H (mWhile t b m σ S) D, ⟨n, ι, S, σ, rp, rs, o⟩, ?_⟩
    rintro m τ1 H1 ⟨ι1, S1, σ1, r1, s1, o1⟩
    cases m with
    | zero => exact o1.elim
    | succ m =>
      refine stepST r1 s1 o1 fun x S2 ι2 H2 ex2 r2 s2 o2 => ?_
      cases x with
      | false => exact o2 ι2 H2 τ1 (Ext.refl _ _) r2 s2
      | true =>
        rw [if_pos rfl] at o2 ⊢
        refine ⟨fun τ H => ∃ ι S σ, Rep L ι S H ∧ RS L ι H σ τ ∧ OutS L W ι H (mWhile t b m σ S) D, fun τ3 H3 w => ⟨m, Nat.lt_succ_self m, w⟩, ι2, S2, σ1, r2, s2, turn_out o2 fun σ4 S4 ι4 H4 τ4 ex4 r4 s4 o4 => ⟨ι4, S4, σ4, r4, s4, o4⟩⟩

/-! ### what is walked -/
def Walk (L : Lay) (src : Src) (ι0 : List Addr) (H0 : Hp) (J : It) : Prop := ∀ ι H S, Ext ι0 H0 ι H → Rep L ι S H → src.ok S → ∀ i : Nat,
  (∀ x, src.items[i]? = some x → J.go i H ∧ ∀ v H', J.yld i H v H' → Ext ι H ι H' ∧ Rep L ι S H' ∧ RV L ι H' x v) ∧ (src.items.length = i → J.stop i H)
def rdI (L : Lay) (W : WX) (m : IM) : TI := fun τ H R => ∃ ι S σ, Rep L ι S H ∧ RS L ι H σ τ ∧ match m σ S with
  | .ok src S' => ∀ ι' H' J, Ext ι H ι' H' → Rep L ι' S' H' → Walk L src ι' H' J → R J H'
  | .exc n S' => ∀ ι' H' cls d, Ext ι H ι' H' → Rep L ι' S' H' → XR L ι' S' n cls d → W cls d τ H'
  | .fail => False
abbrev MI (X : Cx) (L : Lay) (W : WX) (tg e : Expr) (m : IM) : Prop := PI X tg e (rdI L W m)
theorem PI.wk {tg e : Expr} {t t' : TI} (h : PI X tg e t) (k : ∀ τ H R, t' τ H R → t τ H R) : PI X tg e t' := ⟨fun pins s τ H R I q => h.run pins s τ H R I (k _ _ _ q)⟩
theorem PI.or {tg e : Expr} {t t' : TI} (h : PI X tg e t) (h' : PI X tg e t') : PI X tg e (fun τ H R => t τ H R ∨ t' τ H R) := ⟨fun pins s τ H R I q => q.elim (h.run pins s τ H R I) (h'.run pins s τ H R I)⟩
def srcOf (S : Sto) : VV → Option Src
  | .ref n => match S[n]? with
    | some (.lst xs) => some ⟨xs, fun S => S[n]? = some (.lst xs)⟩
    | _ => none
  | .rol xs => some ⟨xs, fun _ => True⟩
  | .tup xs => some ⟨xs, fun _ => True⟩
  | _ => none
def mSeqI (a : EM) : IM := fun σ S => (a σ S).bind fun x S1 => match srcOf S1 x with
  | some s => .ok s S1
  | none => .fail
theorem walk_lst {xs : List VV} {n : Nat} {ι0 : List Addr} {H0 : Hp} {a : Addr} (ha : ι0[n]? = some a) : Walk L ⟨xs, fun S => S[n]? = some (.lst xs)⟩ ι0 H0 (Itl L.K a) := by
  intro ι H S ex rp ok i
  obtain ⟨u, h1, vs, h2, h3⟩ := rp.get (pre_get ex.pre ha) ok
  subst h2
  refine ⟨fun x hx => ?_, fun hi => ⟨vs, SqL.of h1, by rw [← h3.length, ← hi]; exact Nat.le_refl _⟩⟩
  obtain ⟨v, hv, rv⟩ := h3.get hx
  refine ⟨⟨vs, v, SqL.of h1, hv⟩, fun v' H' hy => ?_⟩
  obtain ⟨e, hy⟩ := hy
  subst e
  have := hy vs (SqL.of h1)
  rw [hv] at this
  cases this
  exact ⟨Ext.refl _ _, rp, rv⟩
theorem walk_rol {xs : List VV} {vs : List V} {ι0 : List Addr} {H0 : Hp} {a : Addr} (ha : (∃ o, H0 a = some (.frz o (.lst vs))) ∨ ∀ H', SqL L.K H' a vs) (hr : RVs L ι0 H0 xs vs) : Walk L ⟨xs, fun _ => True⟩ ι0 H0 (Itl L.K a) := by
  intro ι H S ex rp _ i
  have h1 : SqL L.K H a vs := by
    rcases ha with ⟨o, h⟩ | h
    · exact .inl (.inr ⟨o, ex.keep.frz _ _ _ h⟩)
    · exact h H
  have h3 := hr.mono ex
  refine ⟨fun x hx => ?_, fun hi => ⟨vs, h1, by rw [← h3.length, ← hi]; exact Nat.le_refl _⟩⟩
  obtain ⟨v, hv, rv⟩ := h3.get hx
  refine ⟨⟨vs, v, h1, hv⟩, fun v' H' hy => ?_⟩
  obtain ⟨e, hy⟩ := hy
  subst e
  have := hy vs h1
  rw [hv] at this
  cases this
  exact ⟨Ext.refl _ _, rp, rv⟩
theorem walk_tup {xs : List VV} {vs : List V} {ι0 : List Addr} {H0 : Hp} {a : Addr} (ha : H0 a = some (.tup vs)) (hr : RVs L ι0 H0 xs vs) : Walk L ⟨xs, fun _ => True⟩ ι0 H0 (Itt L.K a) := by
  intro ι H S ex rp _ i
  have h1 : SqT L.K H a vs := SqT.of (ex.keep.tup _ _ ha)
  have h3 := hr.mono ex
  refine ⟨fun x hx => ?_, fun hi => ⟨vs, h1, by rw [← h3.length, ← hi]; exact Nat.le_refl _⟩⟩
  obtain ⟨v, hv, rv⟩ := h3.get hx
  refine ⟨⟨vs, v, h1, hv⟩, fun v' H' hy => ?_⟩
  obtain ⟨e, hy⟩ := hy
  subst e
  have := hy vs h1
  rw [hv] at this
  cases this
  exact ⟨Ext.refl _ _, rp, rv⟩
theorem mi_seq {tg e : Expr} {a : EM} (hK : L.K = X.K) (h : ME X L W e a) : MI X L W tg e (mSeqI a) := PI.wk (PI.or (pi_list (tg := tg) h) (pi_tup (tg := tg) h)) fun τ H R ⟨ι, S, σ, rp, rs, o⟩ => by
  unfold mSeqI at o
  cases e1 : a σ S with
  | ok x S1 =>
    rw [e1] at o
    dsimp only [Res.bind] at o
    cases e2 : srcOf S1 x with
    | none => rw [e2] at o; exact o.elim
    | some src =>
      rw [e2] at o
      have o : ∀ ι' H' J, Ext ι H ι' H' → Rep L ι' S1 H' → Walk L src ι' H' J → R J H' := o
      cases x with
      | ref n =>
        refine .inl (bindE rp rs ?_)
        rw [e1]
        intro ι1 H1 v ex r1 s1 rv
        have e3 : (match S1[n]? with
          | some (.lst xs) => some (⟨xs, fun S => S[n]? = some (.lst xs)⟩ : Src)
          | _ => none) = some src := e2
        split at e3
        · rename_i xs q
          cases e3
          obtain ⟨b, vs, rfl, hb, h3, h4⟩ := r1.lst rv q
          have hw := o ι1 H1 (Itl L.K b) ex r1 (walk_lst hb)
          rw [hK] at hw
          exact ⟨b, rfl, ⟨vs, SqL.of h3⟩, hw⟩
        · cases e3
      | rol xs =>
        refine .inl (bindE rp rs ?_)
        rw [e1]
        intro ι1 H1 v ex r1 s1 rv
        cases e2
        cases rv with
        | @rol b _ vs hb rr =>
          have hw := o ι1 H1 (Itl L.K b) ex r1 (walk_rol hb rr)
          rw [hK] at hw
          refine ⟨b, rfl, ⟨vs, ?_⟩, hw⟩
          rcases hb with ⟨ob, h⟩ | h
          · exact .inl (.inr ⟨ob, h⟩)
          · rw [hK] at h; exact h H1
      | tup xs =>
        refine .inr (bindE rp rs ?_)
        rw [e1]
        intro ι1 H1 v ex r1 s1 rv
        cases e2
        cases rv with
        | @tup b _ vs hb rr =>
          have hw := o ι1 H1 (Itt L.K b) ex r1 (walk_tup hb rr)
          rw [hK] at hw
          exact ⟨b, rfl, ⟨vs, SqT.of hb⟩, hw⟩
      | _ => cases e2
  | exc n S1 =>
    rw [e1] at o
    refine .inl (bindE rp rs ?_)
    rw [e1]
    exact o
  | fail => rw [e1] at o; exact o.elim
/-- lo, lo + 1, .. -/
def intsF (lo : Int) (n : Nat) : List VV := (List.range n).map fun (i : Nat) => VV.int (lo + (i : Int))
theorem walk_rng {lo : Int} {n : Nat} {ι0 : List Addr} {H0 : Hp} : Walk L ⟨intsF lo n, fun _ => True⟩ ι0 H0 (Itr lo n) := by
  intro ι H S ex rp _ i
  have hl : (intsF lo n).length = n := by unfold intsF; simp
  refine ⟨fun x hx => ?_, fun hi => ?_⟩
  · have hx' : (intsF lo n)[i]? = some x := hx
    unfold intsF at hx'
    rw [List.getElem?_map] at hx'
    have hi : i < n := by
      cases q : (List.range n)[i]? with
      | none => rw [q] at hx'; cases hx'
      | some j =>
        have := (List.getElem?_eq_some_iff.mp q).1
        simpa using this
    rw [List.getElem?_range hi] at hx'
    cases hx'
    refine ⟨hi, fun v H' hy => ?_⟩
    obtain ⟨e, e2⟩ := hy
    subst e e2
    exact ⟨Ext.refl _ _, rp, .int _⟩
  · have hi' : (intsF lo n).length = i := hi
    rw [hl] at hi'
    show n ≤ i
    omega
end
end Sx
end
/-! Sx7: ranges, zip, enumerate as what is walked; for. -/
noncomputable section
namespace Sx
open PySem PySem.Spec
open PyProof.Rows L2
/-- a list walked -/
def lstSrc (S : Sto) : VV → Option Src
  | .ref n => match S[n]? with
    | some (.lst xs) => some ⟨xs, fun S => S[n]? = some (.lst xs)⟩
    | _ => none
  | .rol xs => some ⟨xs, fun _ => True⟩
  | _ => none
def zipW (xs ys : List VV) : List VV := List.zipWith (fun x y => .tup [x, y]) xs ys
def zipT : VV → VV → Option Src
  | .tup xs, .tup ys => some ⟨zipW xs ys, fun _ => True⟩
  | _, _ => none
def zipOf (S : Sto) (x y : VV) : Option Src := match lstSrc S x with
  | some a => (lstSrc S y).map fun b => ⟨zipW a.items b.items, fun S => a.ok S ∧ b.ok S⟩
  | none => zipT x y
def optI (o : Option Src) (S : Sto) : Res Src := match o with
  | some s => .ok s S
  | none => .fail
def mSrc (g : Sto → List VV → Option Src) (a : AM) : IM := fun σ S => (a σ S).bind fun xs S1 => optI (g S1 xs) S1
def gZip (S : Sto) : List VV → Option Src
  | [x, y] => zipOf S x y
  | _ => none
def gRng1 (_ : Sto) : List VV → Option Src
  | [.int j] => if InR (-1000000000) j 1000000000 then some ⟨intsF 0 j.toNat, fun _ => True⟩ else none
  | _ => none
def gRng2 (_ : Sto) : List VV → Option Src
  | [.int i, .int j] => if InR (-1000000000) i 1000000000 ∧ InR (-1000000000) j 1000000000 then some ⟨intsF i (j - i).toNat, fun _ => True⟩ else none
  | _ => none
def enumW (xs : List VV) : List VV := xs.mapIdx fun i x => .tup [.int (i : Nat), x]
def gEnum (S : Sto) : List VV → Option Src
  | [x] => (lstSrc S x).map fun s => ⟨enumW s.items, s.ok⟩
  | _ => none
section
variable {X : Cx} {L : Lay} {W : WX}
theorem lstSrc_ok {ι : List Addr} {S : Sto} {H : Hp} {x : VV} {v : V} {s : Src} (rp : Rep L ι S H) (rv : RV L ι H x v) (e : lstSrc S x = some s) :
    ∃ a, v = .ref a ∧ s.ok S ∧ ∀ ι' H' S', Ext ι H ι' H' → Rep L ι' S' H' → s.ok S' → ∃ vs, SqL L.K H' a vs ∧ RVs L ι' H' s.items vs := by
  cases x with
  | ref n =>
    have e3 : (match S[n]? with
      | some (.lst xs) => some (⟨xs, fun S => S[n]? = some (.lst xs)⟩ : Src)
      | _ => none) = some s := e
    split at e3
    · rename_i xs q
      cases e3
      cases rv with
      | @ref _ a h =>
        refine ⟨a, rfl, q, fun ι' H' S' ex r' ok => ?_⟩
        obtain ⟨u, h1, vs, h2, h3⟩ := r'.get (pre_get ex.pre h) ok
        subst h2
        exact ⟨vs, SqL.of h1, h3⟩
    · cases e3
  | rol xs =>
    cases e
    cases rv with
    | @rol a _ vs ha rr =>
      refine ⟨a, rfl, trivial, fun ι' H' S' ex r' ok => ⟨vs, ?_, rr.mono ex⟩⟩
      rcases ha with ⟨o, h⟩ | h
      · exact .inl (.inr ⟨o, ex.keep.frz _ _ _ h⟩)
      · exact h H'
  | _ => cases e
theorem zipW_get {xs ys : List VV} {i : Nat} {z : VV} (h : (zipW xs ys)[i]? = some z) : ∃ x y, z = .tup [x, y] ∧ xs[i]? = some x ∧ ys[i]? = some y := by
  unfold zipW at h
  rw [List.getElem?_zipWith] at h
  cases h1 : xs[i]? with
  | none => rw [h1] at h; cases h
  | some x =>
    cases h2 : ys[i]? with
    | none => rw [h1, h2] at h; cases h
    | some y =>
      rw [h1, h2] at h
      cases h
      exact ⟨x, y, rfl, rfl, rfl⟩
theorem zipW_len {xs ys : List VV} : (zipW xs ys).length = min xs.length ys.length := by unfold zipW; exact List.length_zipWith
theorem rv_pair {ι : List Addr} {S : Sto} {H : Hp} {T : Addr} {x y : VV} {v w : V} (rp : Rep L ι S H) (hT : H T = none) (hx : RV L ι H x v) (hy : RV L ι H y w) :
    Ext ι H ι (upd H T (.tup [v, w])) ∧ Rep L ι S (upd H T (.tup [v, w])) ∧ RV L ι (upd H T (.tup [v, w])) (.tup [x, y]) (.ref T) := by
  have e2 : Ext ι H ι (upd H T (.tup [v, w])) := ⟨List.prefix_rfl, Keep.new hT⟩
  exact ⟨e2, rp.other hT, .tup upd_same (.cons (hx.mono e2) (.cons (hy.mono e2) .nil))⟩
/-- what is walked from its arguments -/
theorem src_of {a : AM} {g : Sto → List VV → Option Src} {t : List V → Hp → (It → Hp → Prop) → Prop} (h : ∀ ι S H xs vs src R, Rep L ι S H → RVs L ι H xs vs → g S xs = some src → (∀ J, Walk L src ι H J → R J H) → t vs H R) :
    ∀ τ H R, rdI L W (mSrc g a) τ H R → rdA L W a τ H fun vs H1 => t vs H1 R := fun τ H R ⟨ι, S, σ, rp, rs, o⟩ => by
  refine bindA rp rs ?_
  unfold mSrc at o
  cases e1 : a σ S with
  | exc n S1 => rw [e1] at o; exact o
  | fail => rw [e1] at o; exact o.elim
  | ok xs S1 =>
    rw [e1] at o
    dsimp only [Res.bind] at o
    intro ι1 H1 vs ex r1 s1 rv
    cases e2 : g S1 xs with
    | none => rw [e2] at o; exact o.elim
    | some src =>
      rw [e2] at o
      have o1 : ∀ ι' H' J, Ext ι H ι' H' → Rep L ι' S1 H' → Walk L src ι' H' J → R J H' := o
      exact h ι1 S1 H1 xs vs src R r1 rv e2 fun J w => o1 ι1 H1 J ex r1 w
theorem mi_zip {e e2 : Expr} {a : AM} {p pos tpos : Pos} {elts : List Expr} {kk : Nat} (hK : L.K = X.K) (hg : Gl X "zip") (hm : X.mg "zip" = none) (ha : MA X L W [e, e2] a)
    (hs : starEach [e, e2] X.env = (false, eval e X.env) :: starEach [e2] X.env := by rfl) (hpl : (backTo pos (starEach [e2] X.env)).any (·.1) = false := by rfl) :
    MI X L W (.Tuple elts kk tpos) (.Call (.Name "zip" p) [e, e2] [] pos) (mSrc gZip a) := PI.wk (RZ.pi_zipA hg hm ha hs hpl) <| src_of (t := fun vs H1 R => ∃ a b xs ys, vs = [.ref a, .ref b] ∧ ((SqL X.K H1 a xs ∧ SqL X.K H1 b ys ∧ R (Itz X.K a b) H1) ∨ (SqT X.K H1 a xs ∧ SqT X.K H1 b ys ∧ R (RZ.ItzT X.K a b) H1))) fun ι1 S1 H1 xs vs src R r1 rv e2 o1 => by
  cases rv with
  | nil => cases e2
  | cons r rr =>
    rename_i x v _ _
    cases rr with
    | nil => cases e2
    | cons r' rr =>
      rename_i y w _ _
      cases rr with
      | cons _ _ => cases e2
      | nil =>
        have e3 : zipOf S1 x y = some src := e2
        unfold zipOf at e3
        cases e4 : lstSrc S1 x with
        | some sa =>
          rw [e4] at e3
          dsimp only at e3
          cases e5 : lstSrc S1 y with
          | none => rw [e5] at e3; cases e3
          | some sb =>
            rw [e5] at e3
            cases e3
            obtain ⟨A, rfl, okA, hA⟩ := lstSrc_ok r1 r e4
            obtain ⟨B, rfl, okB, hB⟩ := lstSrc_ok r1 r' e5
            obtain ⟨va, qa, ra⟩ := hA ι1 H1 S1 (Ext.refl _ _) r1 okA
            obtain ⟨vb, qb, rb⟩ := hB ι1 H1 S1 (Ext.refl _ _) r1 okB
            refine ⟨A, B, va, vb, rfl, .inl ⟨hK ▸ qa, hK ▸ qb, o1 _ ?_⟩⟩
            intro ι2 H2 S2 ex2 r2 ok2 i
            obtain ⟨va2, qa2, ra2⟩ := hA ι2 H2 S2 ex2 r2 ok2.1
            obtain ⟨vb2, qb2, rb2⟩ := hB ι2 H2 S2 ex2 r2 ok2.2
            rw [hK] at qa2 qb2
            refine ⟨fun z hz => ?_, fun hi => ⟨va2, vb2, qa2, qb2, ?_⟩⟩
            · obtain ⟨x', y', rfl, hx, hy⟩ := zipW_get hz
              obtain ⟨v1, hv1, rv1⟩ := ra2.get hx
              obtain ⟨w1, hw1, rw1⟩ := rb2.get hy
              refine ⟨⟨va2, vb2, v1, w1, qa2, qb2, hv1, hw1⟩, fun v' H' hy => ?_⟩
              obtain ⟨T, v3, w3, rfl, hT, rfl, h1, h2⟩ := hy
              have e1 := h1 va2 qa2
              rw [hv1] at e1
              cases e1
              have e2 := h2 vb2 qb2
              rw [hw1] at e2
              cases e2
              exact rv_pair r2 hT rv1 rw1
            · have hl := hi
              rw [zipW_len] at hl
              have la := ra2.length
              have lb := rb2.length
              omega
        | none =>
          rw [e4] at e3
          dsimp only at e3
          cases x with
          | tup xs =>
            cases y with
            | tup ys =>
              cases e3
              cases r with
              | @tup A _ va ha ra =>
                cases r' with
                | @tup B _ vb hb rb =>
                  refine ⟨A, B, va, vb, rfl, .inr ⟨SqT.of ha, SqT.of hb, o1 _ ?_⟩⟩
                  intro ι2 H2 S2 ex2 r2 ok2 i
                  have qa2 : SqT X.K H2 A va := SqT.of (ex2.keep.tup _ _ ha)
                  have qb2 : SqT X.K H2 B vb := SqT.of (ex2.keep.tup _ _ hb)
                  have ra2 := ra.mono ex2
                  have rb2 := rb.mono ex2
                  refine ⟨fun z hz => ?_, fun hi => ⟨va, vb, qa2, qb2, ?_⟩⟩
                  · obtain ⟨x', y', rfl, hx, hy⟩ := zipW_get hz
                    obtain ⟨v1, hv1, rv1⟩ := ra2.get hx
                    obtain ⟨w1, hw1, rw1⟩ := rb2.get hy
                    refine ⟨⟨va, vb, v1, w1, qa2, qb2, hv1, hw1⟩, fun v' H' hy => ?_⟩
                    obtain ⟨T, v3, w3, rfl, hT, rfl, h1, h2⟩ := hy
                    have e1 := h1 va qa2
                    rw [hv1] at e1
                    cases e1
                    have e2 := h2 vb qb2
                    rw [hw1] at e2
                    cases e2
                    exact rv_pair r2 hT rv1 rw1
                  · have hl := hi
                    rw [zipW_len] at hl
                    have la := ra2.length
                    have lb := rb2.length
                    omega
            | _ => cases e3
          | _ => cases e3
theorem mi_rng1 {tg a : Expr} {m : AM} {p pos : Pos} (hg : Gl X "range") (hm : X.mg "range" = none) (ha : MA X L W [a] m) (hs : starEach [a] X.env = [(false, eval a X.env)] := by rfl) : MI X L W tg (.Call (.Name "range" p) [a] [] pos) (mSrc gRng1 m) :=
  PI.wk (pi_range1 hg hm ha hs) <| src_of (t := fun vs H1 R => ∃ j : Int, vs = [.int j] ∧ -(2 ^ 62) ≤ j ∧ j < 2 ^ 62 ∧ R (Itr 0 j.toNat) H1) fun ι1 S1 H1 xs vs src R r1 rv e2 o1 => by
    unfold gRng1 at e2
    split at e2
    · rename_i j
      split at e2
      · rename_i hj
        cases e2
        cases rv with
        | cons r rr =>
          cases rr
          cases r
          obtain ⟨h1, h2⟩ := hj
          exact ⟨j, rfl, by omega, by omega, o1 _ walk_rng⟩
      · cases e2
    · cases e2
theorem mi_rng2 {tg a b : Expr} {m : AM} {p pos : Pos} (hg : Gl X "range") (hm : X.mg "range" = none) (ha : MA X L W [a, b] m) (hs : starEach [a, b] X.env = [(false, eval a X.env), (false, eval b X.env)] := by rfl) (hs2 : starEach [b] X.env = [(false, eval b X.env)] := by rfl) :
    MI X L W tg (.Call (.Name "range" p) [a, b] [] pos) (mSrc gRng2 m) :=
  PI.wk (pi_range2 hg hm ha hs hs2) <| src_of (t := fun vs H1 R => ∃ i j : Int, vs = [.int i, .int j] ∧ (-(2 ^ 62) ≤ i ∧ i < 2 ^ 62 ∧ -(2 ^ 62) ≤ j ∧ j < 2 ^ 62) ∧ R (Itr i (j - i).toNat) H1) fun ι1 S1 H1 xs vs src R r1 rv e2 o1 => by
    unfold gRng2 at e2
    split at e2
    · rename_i i j
      split at e2
      · rename_i hj
        cases e2
        cases rv with
        | cons r rr =>
          cases rr with
          | cons r' rr =>
            cases rr
            cases r
            cases r'
            obtain ⟨⟨h1, h2⟩, h3, h4⟩ := hj
            exact ⟨i, j, rfl, by omega, o1 _ walk_rng⟩
      · cases e2
    · cases e2
theorem enumW_get {xs : List VV} {i : Nat} {z : VV} (h : (enumW xs)[i]? = some z) : ∃ x, z = .tup [.int (i : Nat), x] ∧ xs[i]? = some x := by
  unfold enumW at h
  rw [List.getElem?_mapIdx] at h
  cases h1 : xs[i]? with
  | none => rw [h1] at h; cases h
  | some x =>
    rw [h1] at h
    cases h
    exact ⟨x, rfl, rfl⟩
theorem mi_enum {e : Expr} {a : AM} {p pos tpos : Pos} {elts : List Expr} {kk : Nat} (hK : L.K = X.K) (hg : Gl X "enumerate") (hm : X.mg "enumerate" = none) (ha : MA X L W [e] a) (hs : starEach [e] X.env = [(false, eval e X.env)] := by rfl) :
    MI X L W (.Tuple elts kk tpos) (.Call (.Name "enumerate" p) [e] [] pos) (mSrc gEnum a) := PI.wk (pi_enum hg hm ha hs) <| src_of (t := fun vs H1 R => ∃ a xs, vs = [.ref a] ∧ SqL X.K H1 a xs ∧ R (Ite X.K a) H1) fun ι1 S1 H1 xs vs src R r1 rv e2 o1 => by
  cases rv with
  | nil => cases e2
  | cons r rr =>
    rename_i x v _ _
    cases rr with
    | cons _ _ => cases e2
    | nil =>
      have e3 : ((lstSrc S1 x).map fun s => (⟨enumW s.items, s.ok⟩ : Src)) = some src := e2
      cases e4 : lstSrc S1 x with
      | none => rw [e4] at e3; cases e3
      | some sa =>
        rw [e4] at e3
        cases e3
        obtain ⟨A, rfl, okA, hA⟩ := lstSrc_ok r1 r e4
        obtain ⟨va, qa, ra⟩ := hA ι1 H1 S1 (Ext.refl _ _) r1 okA
        refine ⟨A, va, rfl, hK ▸ qa, o1 _ ?_⟩
        intro ι2 H2 S2 ex2 r2 ok2 i
        obtain ⟨va2, qa2, ra2⟩ := hA ι2 H2 S2 ex2 r2 ok2
        rw [hK] at qa2
        refine ⟨fun z hz => ?_, fun hi => ⟨va2, qa2, ?_⟩⟩
        · obtain ⟨x', rfl, hx⟩ := enumW_get hz
          obtain ⟨v1, hv1, rv1⟩ := ra2.get hx
          refine ⟨⟨va2, v1, qa2, hv1⟩, fun v' H' hy => ?_⟩
          obtain ⟨T, v3, rfl, hT, rfl, h1⟩ := hy
          have e1 := h1 va2 qa2
          rw [hv1] at e1
          cases e1
          exact rv_pair r2 hT (.int _) rv1
        · have hl : (enumW sa.items).length = i := hi
          unfold enumW at hl
          rw [List.length_mapIdx] at hl
          have la := ra2.length
          omega

/-! ### for -/
theorem ms_for {tg iter : Expr} {body : List Stmt} {m : IM} {g : GM} {b : SM} {pos : Pos} (hp : PassesOwn (model X.prog X.w) X.A X.env X.xe) (hc : X.calm = true) (hi : MI X L W tg iter m) (hg : MG X L W tg g) (hb : MSs X L W body b)
    (hs : ∀ x, foldedSetIterable iter X.env x = pure x := by intro _; rfl) : MS X L W (.For tg iter body [] pos) (mFor m g b) := PS.wk (ps_for hp hc hi hg hb hs) fun D τ H ⟨ι, S, σ, rp, rs, o⟩ => by
  refine ⟨ι, S, σ, rp, rs, ?_⟩
  unfold mFor at o
  cases e1 : m σ S with
  | fail => rw [e1] at o; exact o.elim
  | exc n S1 =>
    rw [e1] at o
    exact fun ι1 H1 c d ex r1 x1 => o ι1 H1 τ c d ex r1 (rs.mono ex) x1
  | ok src S1 =>
    rw [e1] at o
    dsimp only at o ⊢
    intro ι0 H0 J ex0 r0 wk
    have d0 : src.items.drop 0 = src.items := rfl
    refine ⟨fun i k τ H => ∃ ι S σ, Ext ι0 H0 ι H ∧ Rep L ι S H ∧ RS L ι H σ τ ∧ i ≤ src.items.length ∧ k = src.items.length - i ∧ OutS L W ι H (forL src.ok g b (src.items.drop i) σ S) D, ⟨src.items.length, ι0, S1, σ, Ext.refl _ _, r0, rs.mono ex0, Nat.zero_le _, rfl, OutS.mono ex0 o⟩, ?_⟩
    rintro i k τ1 H1 ⟨ι1, S2, σ1, ex1, r1, s1, hle, rfl, o1⟩
    cases hd : src.items.drop i with
    | nil =>
      rw [hd] at o1
      unfold forL at o1
      have hl : src.items.length = i := Nat.le_antisymm (List.drop_eq_nil_iff.mp hd) hle
      by_cases ok : src.ok S2
      · rw [if_pos ok] at o1
        exact .inl ⟨(wk ι1 H1 S2 ex1 r1 ok i).2 hl, o1 ι1 H1 τ1 (Ext.refl _ _) r1 s1⟩
      · rw [if_neg ok] at o1; exact o1.elim
    | cons x rest =>
      rw [hd] at o1
      unfold forL at o1
      by_cases ok : src.ok S2
      · rw [if_pos ok] at o1
        have hx : src.items[i]? = some x := by rw [← List.head?_drop, hd]; rfl
        have hlt : i < src.items.length := (List.getElem?_eq_some_iff.mp hx).1
        have hr : src.items.drop (i + 1) = rest := by rw [← List.tail_drop, hd]; rfl
        obtain ⟨hgo, hyl⟩ := (wk ι1 H1 S2 ex1 r1 ok i).1 x hx
        refine .inr ⟨hgo, fun τ H => ∃ ι S σ, Ext ι0 H0 ι H ∧ Rep L ι S H ∧ RS L ι H σ τ ∧ OutS L W ι H (forL src.ok g b rest σ S) D, fun τ' H' ⟨ι', S', σ', a1, a2, a3, a4⟩ => ⟨src.items.length - (i + 1), by omega, ι', S', σ', a1, a2, a3, hlt, rfl, by rw [hr]; exact a4⟩, fun v H' hy => ?_⟩
        obtain ⟨ex2, r2, rv2⟩ := hyl v H' hy
        refine ⟨ι1, S2, σ1, x, r2, s1.mono ex2, rv2, ?_⟩
        have o2 := turn_out (OutS.mono ex2 o1) (N := fun τ H => ∃ ι S σ, Ext ι0 H0 ι H ∧ Rep L ι S H ∧ RS L ι H σ τ ∧ OutS L W ι H (forL src.ok g b rest σ S) D) fun σ4 S4 ι4 H4 τ4 ex4 r4 s4 o4 => ⟨ι4, S4, σ4, (ex1.trans ex2).trans ex4, r4, s4, o4⟩
        have o3 := andThen_out o2 (nx := fun τ H => rdS L W b { D with nx := fun τ H => ∃ ι S σ, Ext ι0 H0 ι H ∧ Rep L ι S H ∧ RS L ι H σ τ ∧ OutS L W ι H (forL src.ok g b rest σ S) D, ct := fun τ H => ∃ ι S σ, Ext ι0 H0 ι H ∧ Rep L ι S H ∧ RS L ι H σ τ ∧ OutS L W ι H (forL src.ok g b rest σ S) D, bk := D.nx } τ H) fun σ4 S4 ι4 H4 τ4 ex4 r4 s4 o4 => ⟨ι4, S4, σ4, r4, s4, o4⟩
        cases e1 : g x σ1 S2 with
        | nx σ' S' => rw [e1] at o3; exact o3
        | exc n σ' S' => rw [e1] at o3; exact o3
        | fail => rw [e1] at o3; exact o3
        | rt y S' => rw [e1] at o3; exact o3.elim
        | bk σ' S' => rw [e1] at o3; exact o3.elim
        | ct σ' S' => rw [e1] at o3; exact o3.elim
      · rw [if_neg ok] at o1; exact o1.elim
end
end Sx
end
/-! Sx8: list comprehensions. -/
noncomputable section
namespace Sx
open PySem PySem.Spec
open PyProof.Rows L2
def WF : WX := fun _ _ _ _ => False
def wipeM (σ : Sg) : List Nat → Sg
  | [] => σ
  | v :: vs => (wipeM σ vs).set v none
def Res.bindF {α : Type} (r : Res α) (k : α → Sto → Res VV) : Res VV := match r with
  | .ok a S => k a S
  | _ => .fail
def SR.go (r : SR) (k : Sg → Sto → Res VV) : Res VV := match r with
  | .nx σ S => k σ S
  | _ => .fail
def appL (S : Sto) (D : Nat) (y : VV) : OO → Option Sto
  | .lst acc => if acc.length < 100000 then some (S.set D (.lst (acc ++ [y]))) else none
  | _ => none
def appS (S : Sto) (D : Nat) (y : VV) : Option Sto := (S[D]?).bind (appL S D y)
def optK (o : Option Sto) (k : Sto → Res VV) : Res VV := match o with
  | some S => k S
  | none => .fail
open Classical in
def lcL (ok : Sto → Prop) (g : GM) (t : TM) (e : EM) (σ : Sg) (D : Nat) : List VV → Sto → Res VV
  | [], S => if ok S then .ok (.ref D) S else .fail
  | x :: r, S => if ok S then (g x σ S).go fun σ2 S2 => (t σ2 S2).bindF fun c S3 => if c = true then (e σ2 S3).bindF fun y S4 => optK (appS S4 D y) fun S5 => lcL ok g t e σ D r S5 else lcL ok g t e σ D r S3 else .fail
def mLc (m : IM) (g : GM) (t : TM) (e : EM) (own : List Nat) : EM := fun σ S => (m σ S).bind fun src S1 => lcL src.ok g t e (wipeM σ own) S1.length src.items (S1 ++ [.lst []])
def mYes : TM := fun _ S => .ok true S
theorem wipe_get {σ : L2.St} {i : Nat} : ∀ {vs : List Nat}, i ∈ vs → i < σ.length → (wipe σ vs)[i]? = some none
  | [], h, _ => absurd h (by simp)
  | v :: vs, h, hl => by
    unfold wipe
    by_cases e : v = i
    · subst e
      rw [List.getElem?_set_self (by rw [wipe_length]; exact hl)]
    · rw [List.getElem?_set_ne e]
      exact wipe_get ((List.mem_cons.mp h).resolve_left fun z => e z.symm) hl
theorem wipe_eq {σ τ : L2.St} {vs : List Nat} (hl : σ.length = τ.length) (h : ∀ i, i ∉ vs → σ[i]? = τ[i]?) : wipe σ vs = wipe τ vs := by
  refine List.ext_getElem? fun i => ?_
  by_cases hi : i ∈ vs
  · by_cases hl' : i < σ.length
    · rw [wipe_get hi hl', wipe_get hi (hl ▸ hl')]
    · rw [List.getElem?_eq_none (by rw [wipe_length]; omega), List.getElem?_eq_none (by rw [wipe_length]; omega)]
  · rw [wipe_out hi, wipe_out hi, h i hi]
theorem wipe_set {σ : L2.St} {i : Nat} {o : Option V} {vs : List Nat} (hi : i ∈ vs) : wipe (σ.set i o) vs = wipe σ vs :=
  wipe_eq (List.length_set ..) fun j hj => List.getElem?_set_ne (fun e : i = j => hj (e ▸ hi))
theorem wipe_wipe {σ : L2.St} {vs : List Nat} : wipe (wipe σ vs) vs = wipe σ vs := wipe_eq (wipe_length ..) fun j hj => wipe_out hj
section
variable {X : Cx} {L : Lay} {W : WX}
theorem RS.wipe {ι : List Addr} {H : Hp} {σ : Sg} {τ : L2.St} (r : RS L ι H σ τ) : ∀ vs : List Nat, RS L ι H (wipeM σ vs) (L2.wipe τ vs)
  | [] => r
  | v :: vs => RS.gone v (RS.wipe r vs)

/-! ### targets of a block's own names -/
def OutG (L : Lay) (own : List Nat) (ι : List Addr) (H : Hp) (τ : L2.St) (r : SR) (Q : L2.St → Hp → Prop) : Prop := match r with
  | .nx σ S => ∀ ι' H' τ', Ext ι H ι' H' → Rep L ι' S H' → RS L ι' H' σ τ' → L2.wipe τ' own = L2.wipe τ own → Q τ' H'
  | _ => False
def rdGw (L : Lay) (own : List Nat) (g : GM) : TG := fun v τ H Q => ∃ ι S σ x, Rep L ι S H ∧ RS L ι H σ τ ∧ RV L ι H x v ∧ OutG L own ι H τ (g x σ S) Q
def rdGsw (L : Lay) (own : List Nat) (g : GMs) : TGs := fun vs τ H Q => ∃ ι S σ xs, Rep L ι S H ∧ RS L ι H σ τ ∧ RVs L ι H xs vs ∧ OutG L own ι H τ (g xs σ S) Q
abbrev MGw (X : Cx) (L : Lay) (own : List Nat) (e : Expr) (g : GM) : Prop := PG X e (rdGw L own g)
abbrev MGsw (X : Cx) (L : Lay) (own : List Nat) (e : List Expr) (g : GMs) : Prop := PGs X e (rdGsw L own g)
theorem mgw_name {own : List Nat} {i : Nat} {e : Expr} (h : PG X e (gName i)) (hi : i ∈ own) : MGw X L own e (gmName i) := PG.wk h fun v τ H Q ⟨ι, S, σ, x, rp, rs, rv, o⟩ => o ι H _ (Ext.refl _ _) rp (rs.set i rv) (wipe_set hi)
theorem mgsw_nil {own : List Nat} : MGsw X L own [] gmNil := PGs.wk pgs_nil fun v τ H Q ⟨ι, S, σ, xs, rp, rs, rv, o⟩ => by
  cases rv with
  | nil => exact ⟨rfl, o ι H τ (Ext.refl _ _) rp rs rfl⟩
  | cons _ _ => exact o.elim
theorem mgsw_cons {own : List Nat} {e : Expr} {es : List Expr} {g : GM} {r : GMs} (h1 : MGw X L own e g) (h2 : MGsw X L own es r) (hs : (assignEach (e :: es) X.env).map (·.2) = assign e X.env :: (assignEach es X.env).map (·.2) := by rfl) : MGsw X L own (e :: es) (gmCons g r) :=
  PGs.wk (pgs_cons h1 h2 hs) fun v τ H Q ⟨ι, S, σ, xs, rp, rs, rv, o⟩ => by
    cases rv with
    | nil => exact o.elim
    | @cons x v ys vs h rr =>
      refine ⟨v, vs, rfl, ι, S, σ, x, rp, rs, h, ?_⟩
      have o1 : OutG L own ι H τ ((g x σ S).andThen (r ys)) Q := o
      cases e1 : g x σ S with
      | nx σ1 S1 =>
        rw [e1] at o1
        have o2 : OutG L own ι H τ (r ys σ1 S1) Q := o1
        refine fun ι1 H1 τ1 ex r1 s1 hw => ⟨ι1, S1, σ1, ys, r1, s1, rr.mono ex, ?_⟩
        cases e2 : r ys σ1 S1 with
        | nx σ2 S2 =>
          rw [e2] at o2
          exact fun ι2 H2 τ2 ex2 r2 s2 hw2 => o2 ι2 H2 τ2 (ex.trans ex2) r2 s2 (hw2.trans hw)
        | _ => rw [e2] at o2; exact o2.elim
      | _ => rw [e1] at o1; exact o1.elim
theorem mgw_tup {own : List Nat} {es : List Expr} {k : Nat} {pos : Pos} {g : GMs} {n : Nat} (hc : X.calm = true) (h : MGsw X L own es g)
    (hn : (assignEach es X.env).length = n := by rfl) (hst : (assignEach es X.env).findIdx? (·.1) = none := by rfl) : MGw X L own (.Tuple es k pos) (gmTup n g) :=
  PG.wk (pg_tup hc h hn hst) fun v τ H Q ⟨ι, S, σ, x, rp, rs, rv, o⟩ => by
    cases rv with
    | @tup a xs vs ha rr =>
      have o' : OutG L own ι H τ (if xs.length = n then g xs σ S else .fail) Q := o
      by_cases hl : xs.length = n
      · rw [if_pos hl] at o'
        exact ⟨a, vs, rfl, SqT.of ha, by rw [← rr.length]; exact hl, ι, S, σ, xs, rp, rs, rr, o'⟩
      · rw [if_neg hl] at o'
        exact o'.elim
    | _ => exact o.elim

/-! ### tests -/
abbrev MTs (X : Cx) (L : Lay) (es : List Expr) (t : TM) : Prop := PTs X es (rdT L WF t)
theorem mts_nil : MTs X L [] mYes := ⟨fun pins s τ H Q I ⟨ι, S, σ, rp, rs, o⟩ => pts_nil.run pins s τ H Q I (o ι H (Ext.refl _ _) rp)⟩
theorem mts_one {e : Expr} {t : TM} (h : MT X L WF e t) : MTs X L [e] t := pts_one h

/-! ### the block -/
theorem appS_ok {S S5 : Sto} {D : Nat} {y : VV} (h : appS S D y = some S5) : ∃ acc, S[D]? = some (.lst acc) ∧ acc.length < 100000 ∧ S5 = S.set D (.lst (acc ++ [y])) := by
  unfold appS at h
  cases e : S[D]? with
  | none => rw [e] at h; cases h
  | some o =>
    rw [e] at h
    cases o with
    | lst acc =>
      have h' : (if acc.length < 100000 then some (S.set D (.lst (acc ++ [y]))) else none) = some S5 := h
      by_cases c : acc.length < 100000
      · rw [if_pos c] at h'
        cases h'
        exact ⟨acc, rfl, c, rfl⟩
      · rw [if_neg c] at h'; cases h'
    | _ => cases h
/-- an item behind a list's end -/
theorem app_rep {ι : List Addr} {S : Sto} {H : Hp} {D : Nat} {a : Addr} {acc : List VV} {y : VV} {v : V} (rp : Rep L ι S H) (ha : ι[D]? = some a) (hS : S[D]? = some (.lst acc)) (ry : RV L ι H y v) :
    ∃ vs, H a = some (.lst vs) ∧ RVs L ι H acc vs ∧ Ext ι H ι (upd H a (.lst (vs ++ [v]))) ∧ Rep L ι (S.set D (.lst (acc ++ [y]))) (upd H a (.lst (vs ++ [v]))) := by
  obtain ⟨u, h1, vs, h2, h3⟩ := rp.get ha hS
  subst h2
  have kp : Keep H (upd H a (.lst (vs ++ [v]))) := Keep.set h1 (fun _ => by intro z; cases z) (fun _ _ => by intro z; cases z)
  have ex : Ext ι H ι (upd H a (.lst (vs ++ [v]))) := ⟨List.prefix_rfl, kp⟩
  exact ⟨vs, h1, h3, ex, rp.set ha h1 kp ⟨_, rfl, (h3.append (.cons ry .nil)).mono ex⟩⟩
theorem rdLc {m : IM} {g : GM} {t : TM} {e : EM} {own : List Nat} : ∀ τ H Q, rdE L W (mLc m g t e own) τ H Q → tLc (rdI L W m) (rdGw L own g) (rdT L WF t) (rdE L WF e) own τ H Q := fun τ H Q ⟨ι, S, σ, rp, rs, o⟩ => by
  refine ⟨ι, S, σ, rp, rs, ?_⟩
  unfold mLc at o
  cases e1 : m σ S with
  | fail => rw [e1] at o; exact o.elim
  | exc n S1 => rw [e1] at o; exact o
  | ok src S1 =>
    rw [e1] at o
    dsimp only [Res.bind] at o ⊢
    intro ι0 H0 J ex0 r0 wk D hD
    have exD : Ext ι0 H0 (ι0 ++ [D]) (upd H0 D (.lst [])) := Rep.newExt hD
    have rD : Rep L (ι0 ++ [D]) (S1 ++ [.lst []]) (upd H0 D (.lst [])) := r0.new hD ⟨[], rfl, .nil⟩
    have hDi : (ι0 ++ [D])[S1.length]? = some D := by
      rw [List.getElem?_append_right (by rw [r0.len]; omega), r0.len]
      simp
    have rs0 := (rs.mono ex0).wipe own
    refine ⟨fun i k H => ∃ ι S, Ext (ι0 ++ [D]) (upd H0 D (.lst [])) ι H ∧ Rep L ι S H ∧ i ≤ src.items.length ∧ k = src.items.length - i ∧ OutE L ι H (lcL src.ok g t e (wipeM σ own) S1.length (src.items.drop i) S) Q (fun c d H' => W c d τ H'),
      ⟨src.items.length, ι0 ++ [D], _, Ext.refl _ _, rD, Nat.zero_le _, rfl, OutE.mono (ex0.trans exD) o⟩, ?_⟩
    rintro i k H1 ⟨ι1, S2, ex1, r1, hle, rfl, o1⟩
    have ex01 := exD.trans ex1
    have hD1 : ι1[S1.length]? = some D := pre_get ex1.pre hDi
    cases hd : src.items.drop i with
    | nil =>
      rw [hd] at o1
      unfold lcL at o1
      have hl : src.items.length = i := Nat.le_antisymm (List.drop_eq_nil_iff.mp hd) hle
      by_cases ok : src.ok S2
      · rw [if_pos ok] at o1
        exact .inl ⟨(wk ι1 H1 S2 ex01 r1 ok i).2 hl, o1 ι1 H1 _ (Ext.refl _ _) r1 (.ref hD1)⟩
      · rw [if_neg ok] at o1; exact o1.elim
    | cons x rest =>
      rw [hd] at o1
      unfold lcL at o1
      by_cases ok : src.ok S2
      · rw [if_pos ok] at o1
        have hx : src.items[i]? = some x := by rw [← List.head?_drop, hd]; rfl
        have hlt : i < src.items.length := (List.getElem?_eq_some_iff.mp hx).1
        have hr : src.items.drop (i + 1) = rest := by rw [← List.tail_drop, hd]; rfl
        obtain ⟨hgo, hyl⟩ := (wk ι1 H1 S2 ex01 r1 ok i).1 x hx
        refine .inr ⟨hgo, fun H => ∃ ι S, Ext (ι0 ++ [D]) (upd H0 D (.lst [])) ι H ∧ Rep L ι S H ∧ OutE L ι H (lcL src.ok g t e (wipeM σ own) S1.length rest S) Q (fun c d H' => W c d τ H'),
          fun H' ⟨ι', S', a1, a2, a4⟩ => ⟨src.items.length - (i + 1), by omega, ι', S', a1, a2, hlt, rfl, by rw [hr]; exact a4⟩, fun v H' hy => ?_⟩
        obtain ⟨ex2, r2, rv2⟩ := hyl v H' hy
        refine ⟨ι1, S2, wipeM σ own, x, r2, (rs0.mono ex01).mono ex2, rv2, ?_⟩
        cases e2 : g x (wipeM σ own) S2 with
        | nx σ3 S3 =>
          rw [e2] at o1
          intro ι3 H3 τ3 ex3 r3 s3 hw
          refine ⟨hw.trans wipe_wipe, ι3, S3, σ3, r3, s3, ?_⟩
          dsimp only [SR.go] at o1
          cases e3 : t σ3 S3 with
          | ok c S4 =>
            rw [e3] at o1
            intro ι4 H4 ex4 r4
            dsimp only [Res.bindF] at o1
            cases c with
            | false =>
              exact ⟨ι4, S4, ((ex1.trans ex2).trans ex3).trans ex4, r4, OutE.mono ((ex2.trans ex3).trans ex4) o1⟩
            | true =>
              rw [if_pos rfl] at o1 ⊢
              refine ⟨ι4, S4, σ3, r4, s3.mono ex4, ?_⟩
              cases e4 : e σ3 S4 with
              | ok y S5 =>
                rw [e4] at o1
                intro ι5 H5 w ex5 r5 rw5
                dsimp only at o1
                cases e5 : appS S5 S1.length y with
                | none => rw [e5] at o1; exact o1.elim
                | some S6 =>
                  rw [e5] at o1
                  have ex15 := ((ex2.trans ex3).trans ex4).trans ex5
                  obtain ⟨acc, q1, q2, rfl⟩ := appS_ok e5
                  obtain ⟨vs, h1, h2, h3, h4⟩ := app_rep r5 (pre_get ex15.pre hD1) q1 rw5
                  exact ⟨vs, h1, by rw [← h2.length]; exact Nat.lt_of_lt_of_le q2 (by decide), ι5, _, (ex1.trans ex15).trans h3, h4, OutE.mono (ex15.trans h3) o1⟩
              | _ => rw [e4] at o1; exact o1.elim
          | _ => rw [e3] at o1; exact o1.elim
        | _ => rw [e2] at o1; exact o1.elim
      · rw [if_neg ok] at o1; exact o1.elim
theorem me_lc {elt tg iter : Expr} {ifs : List Expr} {scope : Scope} {own : List (Str × Nat)} {pos : Pos} {m : IM} {g : GM} {t : TM} {e : EM} (hc : X.calm = true) (hN : X.N.Nodup) (hi : MI X L W tg iter m) (ok : BlkOk X.N X.env.scope scope own)
    (hg : ∀ (s : Shared) (H : Hp) (C : Addr) (cl : List (Str × Addr)) (fp : List Addr), MGw (X.blk s H scope (compEnvC scope cl C X.env) fp) L (own.map (·.2)) tg g) (ht : ∀ (s : Shared) (H : Hp) (C : Addr) (cl : List (Str × Addr)) (fp : List Addr), MTs (X.blk s H scope (compEnvC scope cl C X.env) fp) L ifs t)
    (he : ∀ (s : Shared) (H : Hp) (C : Addr) (cl : List (Str × Addr)) (fp : List Addr), ME (X.blk s H scope (compEnvC scope cl C X.env) fp) L WF elt e) (hs : ∀ x, foldedSetIterable iter X.env x = pure x := by intro _; rfl) :
    ME X L W (.ListComp elt [⟨tg, iter, ifs, 0⟩] scope pos) (mLc m g t e (own.map (·.2))) := PE.wk (pe_lc hc hN hi ok hg ht he hs) rdLc
theorem ms_setLc {i : Nat} {y : Str} {py : Pos} {elt tg iter : Expr} {ifs : List Expr} {scope : Scope} {own : List (Str × Nat)} {pos spos : Pos} {m : IM} {g : GM} {t : TM} {e : EM} (hc : X.calm = true) (hN : X.N.Nodup) (hy : X.N[i]? = some y) (hyl : X.env.scope.names.lookup y = some .local)
    (hsw : swapsWith (.ListComp elt [⟨tg, iter, ifs, 0⟩] scope pos) (some (.Name y py)) spos.line X.env = pure true) (hi : MI X L W tg iter m) (ok : BlkOk X.N X.env.scope scope own)
    (hg : ∀ (s : Shared) (H : Hp) (C : Addr) (cl : List (Str × Addr)) (fp : List Addr), MGw (X.blk s H scope (compEnvC scope cl C X.env) fp) L (own.map (·.2)) tg g) (ht : ∀ (s : Shared) (H : Hp) (C : Addr) (cl : List (Str × Addr)) (fp : List Addr), MTs (X.blk s H scope (compEnvC scope cl C X.env) fp) L ifs t)
    (he : ∀ (s : Shared) (H : Hp) (C : Addr) (cl : List (Str × Addr)) (fp : List Addr), ME (X.blk s H scope (compEnvC scope cl C X.env) fp) L WF elt e) (hs : ∀ x, foldedSetIterable iter X.env x = pure x := by intro _; rfl) :
    MS X L W (.Assign [.Name y py] (.ListComp elt [⟨tg, iter, ifs, 0⟩] scope pos) spos) (mAsg (mLc m g t e (own.map (·.2))) (gmName i)) := ms_set (ps_setLc hc hN hy hyl hsw hi ok hg ht he hs) rdLc
end
end Sx
end
/-! Sx9: built-in functions. -/
noncomputable section
namespace Sx
open PySem PySem.Spec
open PyProof.Rows L2
def optV (o : Option VV) (S : Sto) : Res VV := optR o S
/-- one argument -/
def g1 (g : VV → Sto → Res VV) : List VV → Sto → Res VV
  | [x], S => g x S
  | _, _ => .fail
def g2 (g : VV → VV → Sto → Res VV) : List VV → Sto → Res VV
  | [x, y], S => g x y S
  | _, _ => .fail
def lenO : OO → Option Nat
  | .lst xs => some xs.length
  | .dK kvs => some kvs.length
  | .dT kvs => some kvs.length
  | _ => none
def lenOf (S : Sto) : VV → Option Nat
  | .ref n => (S[n]?).bind lenO
  | .rol xs => some xs.length
  | .tup xs => some xs.length
  | .str x => if x.length ≤ 100000 then some x.length else none
  | _ => none
def gLen (x : VV) (S : Sto) : Res VV := optR ((lenOf S x).map fun n => .int (n : Nat)) S
/-- the items of a list or a tuple -/
def seqAt (S : Sto) : VV → Option (List VV)
  | .tup xs => some xs
  | x => lstAt S x
def newL (xs : List VV) (S : Sto) : Res VV := .ok (.ref S.length) (S ++ [.lst xs])
def optL (o : Option (List VV)) (S : Sto) (k : List VV → Res VV) : Res VV := match o with
  | some xs => k xs
  | none => .fail
def gList (x : VV) (S : Sto) : Res VV := optL (seqAt S x) S fun xs => newL xs S
def gTuple (x : VV) (S : Sto) : Res VV := optL (seqAt S x) S fun xs => .ok (.tup xs) S
def bls : List VV → Option (List Bool)
  | [] => some []
  | .bl b :: r => (bls r).map (b :: ·)
  | _ => none
def gAll (x : VV) (S : Sto) : Res VV := optR (((lstAt S x).bind bls).map fun bs => .bl (bs.all id)) S
def gAny (x : VV) (S : Sto) : Res VV := optR (((lstAt S x).bind bls).map fun bs => .bl (bs.any id)) S
def tyO : OO → Option String
  | .lst _ => some "list"
  | .dK _ => some "dict"
  | .dT _ => some "dict"
  | _ => none
def tyN (S : Sto) : VV → Option String
  | .non => some "NoneType"
  | .bl _ => some "bool"
  | .int _ => some "int"
  | .str _ => some "str"
  | .tup _ => some "tuple"
  | .ref n => (S[n]?).bind tyO
  | .rol _ => none
def anyB (t : String) : List String → Option Bool
  | [] => some false
  | u :: us => match kitB t u with
    | some true => some true
    | some false => anyB t us
    | none => none
def gIsi (u : String) (x : VV) (S : Sto) : Res VV := optR (((tyN S x).bind fun t => kitB t u).map .bl) S
def gIsiT (us : List String) (x : VV) (S : Sto) : Res VV := optR (((tyN S x).bind fun t => anyB t us).map .bl) S
def datD (S : Sto) (x : VV) : PyData := (dat S 8 x).getD .none
def canSort (S : Sto) (xs : List VV) : Prop := (∀ x ∈ xs, (dat S 8 x).isSome = true ∧ (datD S x).depth ≤ 60) ∧ PySem.W.AllAlike (xs.map (datD S)) ∧ PySem.W.Sortable (xs.map (datD S)) ∧ xs.length ≤ 100000
open Classical in
def gSorted (x : VV) (S : Sto) : Res VV := optL (lstAt S x) S fun xs => if canSort S xs then newL (xs.mergeSort (PySem.W.dataLe false (datD S))) S else .fail
def lstI : OO → Option (List VV)
  | .lst xs => some xs
  | _ => none
def refL (S : Sto) : VV → Option (List VV)
  | .ref n => (S[n]?).bind lstI
  | _ => none
def allL (S : Sto) : List VV → Option (List (List VV))
  | [] => some []
  | x :: r => (refL S x).bind fun l => (allL S r).map (l :: ·)
def sumR (xs acc : List VV) (ls : List (List VV)) (y : VV) (S : Sto) : Res VV :=
  if xs.length ≤ 900 ∧ acc.length ≤ 1000 ∧ (ls.all fun l => decide (l.length ≤ 1000)) = true ∧ (acc ++ ls.flatten).length ≤ 100000 then (if xs.length = 0 then .ok y S else newL (acc ++ ls.flatten) S) else .fail
def gSumL (x y : VV) (S : Sto) : Res VV := optL (lstAt S x) S fun xs => optL (refL S y) S fun acc => match allL S xs with
  | some ls => sumR xs acc ls y S
  | none => .fail
section
variable {X : Cx} {L : Lay} {W : WX}
theorem me_cb {x : Str} {p pos : Pos} {e : Expr} {es : List Expr} {id : String} {g : List VV → Sto → Res VV} {a : AM} (hc : CallR X (.builtin id) (rdC L g)) (hx : ∀ x S, NoX (g x S)) (hg : Gl X x) (hm : X.mg x = none) (hv : bootBuiltins x = some (.builtin id)) (ha : MA X L W (e :: es) a)
    (hn : x ≠ "__name__" := by decide) (hdb : (x == ("__debug__" : Str)) = false := by decide) (he : starEach (e :: es) X.env = (false, eval e X.env) :: starEach es X.env := by rfl) (hpl : (backTo pos (starEach es X.env)).any (·.1) = false := by rfl) :
    ME X L W (.Call (.Name x p) (e :: es) [] pos) (mCB g a) := PE.wk (pe_callB hc hg hm hv ha hn hdb he hpl) (rdC_of hx)
theorem me_cty {x : Str} {p pos : Pos} {e : Expr} {es : List Expr} {id : String} {g : List VV → Sto → Res VV} {a : AM} (hc : CallR X (.type id) (rdC L g)) (hx : ∀ x S, NoX (g x S)) (hg : Gl X x) (hm : X.mg x = none) (hv : bootBuiltins x = some (.type id)) (ha : MA X L W (e :: es) a)
    (hn : x ≠ "__name__" := by decide) (hdb : (x == ("__debug__" : Str)) = false := by decide) (he : starEach (e :: es) X.env = (false, eval e X.env) :: starEach es X.env := by rfl) (hpl : (backTo pos (starEach es X.env)).any (·.1) = false := by rfl) :
    ME X L W (.Call (.Name x p) (e :: es) [] pos) (mCB g a) := PE.wk (pe_callTy hc hg hm hv ha hn hdb he hpl) (rdC_of hx)
theorem cr1 {f : Value} {g : VV → Sto → Res VV} (h : ∀ (pins : List (Addr × Obj)) (s : Shared) (σ : L2.St) (H : Hp) (v : V) (us : List Value) (Q : VK) (ι : List Addr) (S : Sto) (x : VV), Inv X pins σ H s → Vals [v] us → Rep L ι S H → RV L ι H x v → OutE L ι H (g x S) Q (fun _ _ _ => False) → wpAny (model X.prog X.w) X.A (call f us) (EP X pins σ Q) X.xe s) :
    CallR X f (rdC L (g1 g)) := by
  intro pins s σ H vs us Q I r ⟨ι, S, xs, rp, rv, o⟩
  cases rv with
  | nil => exact o.elim
  | cons rx rr =>
    cases rr with
    | nil => exact h pins s σ H _ us Q ι S _ I r rp rx o
    | cons _ _ => exact o.elim
theorem nx1 {g : VV → Sto → Res VV} (h : ∀ x S, NoX (g x S)) : ∀ xs S, NoX (g1 g xs S) := fun xs S n S' e => by
  unfold g1 at e
  split at e
  · exact h _ _ n S' e
  · cases e
theorem nxL {o : Option (List VV)} {S : Sto} {k : List VV → Res VV} (h : ∀ xs, NoX (k xs)) : NoX (optL o S k) := fun n S' e => by
  unfold optL at e
  split at e
  · exact h _ n S' e
  · cases e
theorem optL_out {ι : List Addr} {H : Hp} {o : Option (List VV)} {S : Sto} {k : List VV → Res VV} {Q : VK} {E : XK} (h : OutE L ι H (optL o S k) Q E) : ∃ xs, o = some xs ∧ OutE L ι H (k xs) Q E := by
  cases o with
  | none => exact h.elim
  | some xs => exact ⟨xs, rfl, h⟩
theorem nxLen : ∀ x S, NoX (gLen x S) := fun _ _ => nx_opt
theorem cm_len (hK : L.K = X.K) : CallR X (.builtin "len") (rdC L (g1 gLen)) := cr1 fun pins s σ H v us Q ι S x I r rp rv o => by
  obtain ⟨z, e, o1⟩ := optR_out o
  obtain ⟨n, e1, rfl⟩ := Option.map_eq_some_iff.mp e
  have q := o1 ι H _ (Ext.refl _ _) rp (.int _)
  cases x with
  | ref k =>
    have e2 : (S[k]?).bind lenO = some n := e1
    cases e3 : S[k]? with
    | none => rw [e3] at e2; cases e2
    | some ob =>
      rw [e3] at e2
      cases rv with
      | @ref _ a h =>
        obtain ⟨u, h1, h2⟩ := rp.get h e3
        cases ob with
        | lst xs =>
          cases e2
          obtain ⟨vs, rfl, rr⟩ := h2
          exact call_len_seq pins s σ H _ us Q I r ⟨a, vs, rfl, .inl (SqL.of h1), by rw [← rr.length]; exact q⟩
        | dK xs =>
          cases e2
          obtain ⟨vs, rfl, rr⟩ := h2
          exact call_lenD pins s σ H _ us Q I r ⟨a, vs, rfl, h1, by rw [← rr.length]; exact q⟩
        | dT xs =>
          cases e2
          obtain ⟨vs, rfl, rr⟩ := h2
          exact call_len_dT pins s σ H _ us Q I r ⟨a, vs, rfl, h1, by rw [← rr.length]; exact q⟩
        | _ => cases e2
  | rol xs =>
    cases e1
    obtain ⟨a, vs, rfl, h2, h3⟩ := rp.sq rv (show lstAt S (.rol xs) = some xs from rfl)
    exact call_len_seq pins s σ H _ us Q I r ⟨a, vs, rfl, .inl (hK ▸ h2), by rw [← h3.length]; exact q⟩
  | tup xs =>
    cases e1
    cases rv with
    | @tup a _ vs ha rr => exact call_len_seq pins s σ H _ us Q I r ⟨a, vs, rfl, .inr (SqT.of ha), by rw [← rr.length]; exact q⟩
  | str z =>
    have e2 : (if z.length ≤ 100000 then some z.length else none) = some n := e1
    by_cases c : z.length ≤ 100000
    · rw [if_pos c] at e2
      cases e2
      cases rv
      exact call_len_str pins s σ H _ us Q I r ⟨z, rfl, sz_of c, q⟩
    · rw [if_neg c] at e2; cases e2
  | _ => cases e1
/-- the new list -/
theorem newL_out {ι : List Addr} {S : Sto} {H : Hp} {xs : List VV} {vs : List V} {Q : VK} {E : XK} (rp : Rep L ι S H) (rv : RVs L ι H xs vs) (o : OutE L ι H (newL xs S) Q E) : ∀ l, H l = none → Q (.ref l) (upd H l (.lst vs)) := fun l hl => by
  have e2 : Ext ι H (ι ++ [l]) (upd H l (.lst vs)) := Rep.newExt hl
  exact o _ _ _ e2 (rp.new hl ⟨vs, rfl, rv.mono e2⟩) rp.newRef
theorem seqAt_ok {ι : List Addr} {S : Sto} {H : Hp} {x : VV} {v : V} {xs : List VV} (hK : L.K = X.K) (rp : Rep L ι S H) (rv : RV L ι H x v) (e : seqAt S x = some xs) : ∃ a vs, v = .ref a ∧ (SqL X.K H a vs ∨ SqT X.K H a vs) ∧ RVs L ι H xs vs := by
  have lk : lstAt S x = some xs → ∃ a vs, v = .ref a ∧ (SqL X.K H a vs ∨ SqT X.K H a vs) ∧ RVs L ι H xs vs := fun e => by
    obtain ⟨a, vs, h1, h2, h3⟩ := rp.sq rv e
    exact ⟨a, vs, h1, .inl (hK ▸ h2), h3⟩
  cases x with
  | tup ys =>
    cases e
    cases rv with
    | @tup a _ vs ha rr => exact ⟨a, vs, rfl, .inr (SqT.of ha), rr⟩
  | _ => exact lk e
theorem cm_list (hK : L.K = X.K) : CallR X (.type "list") (rdC L (g1 gList)) := cr1 fun pins s σ H v us Q ι S x I r rp rv o => by
  obtain ⟨xs, e, o1⟩ := optL_out o
  obtain ⟨a, vs, rfl, h2, h3⟩ := seqAt_ok hK rp rv e
  exact call_list_of pins s σ H _ us Q I r ⟨a, vs, rfl, h2, newL_out rp h3 o1⟩
theorem nxNew {xs : List VV} {S : Sto} : NoX (newL xs S) := fun _ _ e => nomatch e
theorem nxList : ∀ x S, NoX (gList x S) := fun _ _ => nxL fun _ => nxNew
theorem nxTuple : ∀ x S, NoX (gTuple x S) := fun _ _ => nxL fun _ _ _ e => nomatch e
theorem cm_tuple (hK : L.K = X.K) : CallR X (.type "tuple") (rdC L (g1 gTuple)) := cr1 fun pins s σ H v us Q ι S x I r rp rv o => by
  obtain ⟨xs, e, o1⟩ := optL_out o
  have lk : lstAt S x = some xs → wpAny (model X.prog X.w) X.A (call (.type "tuple") us) (EP X pins σ Q) X.xe s := fun e => by
    obtain ⟨a, vs, rfl, h2, h3⟩ := rp.sq rv e
    refine call_tuple_of pins s σ H _ us Q I r ⟨a, vs, rfl, .inl ⟨hK ▸ h2, fun l hl => ?_⟩⟩
    have e2 : Ext ι H ι (upd H l (.tup vs)) := ⟨List.prefix_rfl, Keep.new hl⟩
    exact o1 ι _ _ e2 (rp.other hl) (.tup upd_same (h3.mono e2))
  cases x with
  | tup ys =>
    cases e
    cases rv with
    | @tup a _ vs ha rr => exact call_tuple_of pins s σ H _ us Q I r ⟨a, vs, rfl, .inr ⟨SqT.of ha, o1 ι H _ (Ext.refl _ _) rp (.tup ha rr)⟩⟩
  | _ => exact lk e
theorem bls_ok : ∀ {xs : List VV} {bs : List Bool}, bls xs = some bs → xs = bs.map VV.bl
  | [], _, e => by cases e; rfl
  | x :: r, bs, e => by
    cases x with
    | bl b =>
      have e1 : (bls r).map (b :: ·) = some bs := e
      obtain ⟨bs', h1, rfl⟩ := Option.map_eq_some_iff.mp e1
      rw [List.map_cons, ← bls_ok h1]
    | _ => cases e
theorem bls_rel {ι : List Addr} {H : Hp} : ∀ {bs : List Bool} {vs : List V}, RVs L ι H (bs.map VV.bl) vs → vs = bs.map V.bl
  | [], _, .nil => rfl
  | b :: bs, _, .cons (.bl _) r => by rw [bls_rel r]; rfl
theorem nxAll : ∀ x S, NoX (gAll x S) := fun _ _ => nx_opt
theorem nxAny : ∀ x S, NoX (gAny x S) := fun _ _ => nx_opt
theorem cm_all (hK : L.K = X.K) (hc : X.calm = true) : CallR X (.builtin "all") (rdC L (g1 gAll)) := cr1 fun pins s σ H v us Q ι S x I r rp rv o => by
  obtain ⟨z, e, o1⟩ := optR_out o
  obtain ⟨bs, e1, rfl⟩ := Option.map_eq_some_iff.mp e
  obtain ⟨xs, e2, e3⟩ := Option.bind_eq_some_iff.mp e1
  obtain ⟨a, vs, rfl, h2, h3⟩ := rp.sq rv e2
  rw [bls_ok e3] at h3
  rw [bls_rel h3] at h2
  exact cr_all hc pins s σ H _ us Q I r ⟨a, bs, rfl, hK ▸ h2, o1 ι H _ (Ext.refl _ _) rp (.bl _)⟩
theorem cm_any (hK : L.K = X.K) (hc : X.calm = true) : CallR X (.builtin "any") (rdC L (g1 gAny)) := cr1 fun pins s σ H v us Q ι S x I r rp rv o => by
  obtain ⟨z, e, o1⟩ := optR_out o
  obtain ⟨bs, e1, rfl⟩ := Option.map_eq_some_iff.mp e
  obtain ⟨xs, e2, e3⟩ := Option.bind_eq_some_iff.mp e1
  obtain ⟨a, vs, rfl, h2, h3⟩ := rp.sq rv e2
  rw [bls_ok e3] at h3
  rw [bls_rel h3] at h2
  exact cr_any hc pins s σ H _ us Q I r ⟨a, bs, rfl, hK ▸ h2, o1 ι H _ (Ext.refl _ _) rp (.bl _)⟩

/-! ### isinstance -/
theorem tyN_ok {ι : List Addr} {S : Sto} {H : Hp} {K : PySem.W.Frag} {x : VV} {v : V} {t : String} (rp : Rep L ι S H) (rv : RV L ι H x v) (e : tyN S x = some t) : TyX K H v (.type t) := by
  cases x with
  | ref k =>
    have e2 : (S[k]?).bind tyO = some t := e
    cases e3 : S[k]? with
    | none => rw [e3] at e2; cases e2
    | some ob =>
      rw [e3] at e2
      cases rv with
      | @ref _ a h =>
        obtain ⟨u, h1, h2⟩ := rp.get h e3
        cases ob with
        | lst xs => cases e2; obtain ⟨vs, rfl, _⟩ := h2; exact .base (.lst h1)
        | dK xs => cases e2; obtain ⟨vs, rfl, _⟩ := h2; exact .base (.dK h1)
        | dT xs => cases e2; obtain ⟨vs, rfl, _⟩ := h2; exact .base (.dT h1)
        | _ => cases e2
  | non => cases e; cases rv; exact .base .non
  | bl b => cases e; cases rv; exact .base (.bl _)
  | int b => cases e; cases rv; exact .base (.int _)
  | str b => cases e; cases rv; exact .base (.str _)
  | tup b =>
    cases e
    cases rv with
    | @tup a _ vs ha rr => exact .base (.tup ha)
  | rol b => cases e
def mIsi (u : String) (a : EM) : EM := mUn (gIsi u) a
def mIsiT (us : List String) (a : EM) : EM := mUn (gIsiT us) a
theorem me_isi {x : Str} {p pos : Pos} {e c : Expr} {u : String} {a : EM} (he : ME X L W e a) (hcl : PE X c (tC (V.ty u))) (hg : Gl X x) (hm : X.mg x = none) (hv : bootBuiltins x = some (.builtin "isinstance"))
    (hn : x ≠ "__name__" := by decide) (hdb : (x == ("__debug__" : Str)) = false := by decide) (hs : starEach [e, c] X.env = (false, eval e X.env) :: starEach [c] X.env := by rfl) (hs2 : starEach [c] X.env = (false, eval c X.env) :: starEach [] X.env := by rfl) (hpl : (backTo pos (starEach [c] X.env)).any (·.1) = false := by rfl) :
    ME X L W (.Call (.Name x p) [e, c] [] pos) (mIsi u a) := PE.wk (pe_callB call_isi hg hm hv (pa_cons he (pa_cons hcl pa_nil hs2) hs) hn hdb hs hpl) fun τ H Q ⟨ι, S, σ, rp, rs, o⟩ =>
  stepE rp rs o fun x S1 ι1 H1 v ex r1 s1 rv o1 => by
    obtain ⟨z, e, o2⟩ := optR_out o1
    obtain ⟨b, e1, rfl⟩ := Option.map_eq_some_iff.mp e
    obtain ⟨t, e2, e3⟩ := Option.bind_eq_some_iff.mp e1
    exact ⟨v, .ty u, .type t, .type u, b, rfl, .ty u, tyN_ok r1 rv e2, kit_ty e3, o2 ι1 H1 _ (Ext.refl _ _) r1 (.bl _)⟩
theorem anyB_ok {K : PySem.W.Frag} {t : String} : ∀ {us : List String} {b : Bool}, anyB t us = some b → PySem.W.kitAny K (.type t) (us.map Value.type) = some b
  | [], b, e => by cases e; rfl
  | u :: us, b, e => by
    unfold anyB at e
    rw [List.map_cons]
    split at e
    · rename_i h
      cases e
      exact kitAny_cons (kit_ty h) (fun z => nomatch z) fun _ => rfl
    · rename_i h
      exact kitAny_cons (kit_ty h) (fun _ => anyB_ok e) fun z => nomatch z
    · cases e
theorem cls_all : ∀ us : List String, Paired ClsV (us.map V.ty) (us.map Value.type)
  | [] => .nil
  | u :: us => .cons (.ty u) (cls_all us)
/-- the classes of isinstance's tuple -/
theorem pa_ty {e : Expr} {es : List Expr} {u : String} {us : List String} (h : PE X e (tC (V.ty u))) (hr : PA X es (fun _ H Q => Q (us.map V.ty) H)) (hs : starEach (e :: es) X.env = (false, eval e X.env) :: starEach es X.env := by rfl) :
    PA X (e :: es) (fun _ H Q => Q ((u :: us).map V.ty) H) := PA.wk (pa_cons h hr hs) fun _ _ _ q => q
theorem pa_ty0 : PA X [] (fun _ H Q => Q (([] : List String).map V.ty) H) := PA.wk pa_nil fun _ _ _ q => q
theorem me_isiT {x : Str} {p pos tp : Pos} {e : Expr} {cs : List Expr} {k : Nat} {us : List String} {a : EM} (he : ME X L W e a) (hcl : PA X cs (fun _ H Q => Q (us.map V.ty) H)) (hz : us.length ≤ 100) (hg : Gl X x) (hm : X.mg x = none) (hv : bootBuiltins x = some (.builtin "isinstance"))
    (hn : x ≠ "__name__" := by decide) (hdb : (x == ("__debug__" : Str)) = false := by decide) (hs : starEach [e, .Tuple cs k tp] X.env = (false, eval e X.env) :: starEach [.Tuple cs k tp] X.env := by rfl) (hs2 : starEach [.Tuple cs k tp] X.env = (false, eval (.Tuple cs k tp) X.env) :: starEach [] X.env := by rfl)
    (hpl : (backTo pos (starEach [.Tuple cs k tp] X.env)).any (·.1) = false := by rfl) :
    ME X L W (.Call (.Name x p) [e, .Tuple cs k tp] [] pos) (mIsiT us a) := PE.wk (pe_callB call_isiT hg hm hv (pa_cons he (pa_cons (pe_tup hcl) pa_nil hs2) hs) hn hdb hs hpl) fun τ H Q ⟨ι, S, σ, rp, rs, o⟩ =>
  stepE rp rs o fun x S1 ι1 H1 v ex r1 s1 rv o1 => by
    obtain ⟨z, e, o2⟩ := optR_out o1
    obtain ⟨b, e1, rfl⟩ := Option.map_eq_some_iff.mp e
    obtain ⟨t, e2, e3⟩ := Option.bind_eq_some_iff.mp e1
    refine ⟨by rw [List.length_map]; exact sz_of (by omega), fun q hq => ?_⟩
    have ex2 : Ext ι1 H1 ι1 (upd H1 q (.tup (us.map V.ty))) := ⟨List.prefix_rfl, Keep.new hq⟩
    exact ⟨v, q, us.map V.ty, .type t, us.map Value.type, b, rfl, upd_same, cls_all us, tyN_ok (r1.other hq) (rv.mono ex2) e2, anyB_ok e3, o2 ι1 _ _ ex2 (r1.other hq) (.bl _)⟩

/-! ### sorted -/
theorem each_of {ι : List Addr} {H : Hp} : ∀ {xs : List VV} {vs : List V} {us : List Value}, RVs L ι H xs vs → Vals vs us → PySem.W.EachIs (fun u x => ∃ v, RelV v u ∧ RV L ι H x v) us xs
  | [], _, _, .nil, .nil => .nil
  | _ :: _, _, _, .cons h r, .cons h2 r2 => .cons ⟨_, h2, h⟩ (each_of r r2)
theorem each_back {ι : List Addr} {H : Hp} : ∀ {xs : List VV} {us : List Value}, PySem.W.EachIs (fun u x => ∃ v, RelV v u ∧ RV L ι H x v) us xs → ∃ vs, RVs L ι H xs vs ∧ Vals vs us
  | _, _, .nil => ⟨[], .nil, .nil⟩
  | _, _, .cons ⟨v, h1, h2⟩ r => by
    obtain ⟨vs, a, b⟩ := each_back r
    exact ⟨v :: vs, .cons h2 a, .cons h1 b⟩
theorem nxSorted : ∀ x S, NoX (gSorted x S) := fun x S => nxL fun xs n S' e => by
  split at e
  · exact nxNew n S' e
  · cases e
theorem cm_sorted (hK : L.K = X.K) (hu : X.A.units + 64 < cLine) : CallR X (.builtin "sorted") (rdC L (g1 gSorted)) := cr1 fun pins s σ H v us Q ι S x I r rp rv o => by
  obtain ⟨xs, e, o1⟩ := optL_out o
  by_cases c : canSort S xs
  · rw [if_pos c] at o1
    obtain ⟨c1, c2, c3, c4⟩ := c
    obtain ⟨a, vs, rfl, h2, h3⟩ := rp.sq rv e
    rw [hK] at h2
    obtain ⟨its, rr, pl, hz⟩ := I.list h2
    obtain ⟨u, rfl, ru⟩ := vals1 r
    obtain rfl : u = Value.ref a := ru
    have ee := each_of h3 rr
    refine PySem.W.sorted_data (enc := datD S) (R := fun u x => ∃ v, RelV v u ∧ RV L ι H x v) pl.isList ee ?_ c2 c3 (sz_of c4) (fun b hb => ?_) fun out hl eo => ?_
    · refine (PySem.W.each_mem ee).mono fun u b ⟨⟨v, q1, q2⟩, hb⟩ => ?_
      obtain ⟨z1, z2⟩ := c1 b hb
      obtain ⟨d, hd⟩ := Option.isSome_iff_exists.mp z1
      have hdd : datD S b = d := by unfold datD; rw [hd]; rfl
      rw [hdd]
      exact Dp.reads I d v u (hK ▸ dat_ok rp 8 b v d hd q2) q1
    · have := (c1 b hb).2
      omega
    · obtain ⟨ws, hw1, hw2⟩ := each_back eo
      obtain ⟨cc, hcc⟩ := sortedAll_at s.heap its out.toArray
      have hfr : H (s.heap.objs.size + 1) = none := I.hok.fresh (Nat.le_succ _)
      refine ⟨.ref (s.heap.objs.size + 1), upd H (s.heap.objs.size + 1) (.lst ws), I.laid (t' := s.toks) (fun _ _ => sortedAll_old) (Nat.le_succ _) ⟨?_, out, cc, hw2, hcc⟩, rfl, newL_out rp hw1 o1 _ hfr⟩
      rw [← hw1.length, List.length_mergeSort]
      exact sz_of c4
  · rw [if_neg c] at o1
    exact o1.elim

/-! ### sum of lists -/
theorem cr2 {f : Value} {g : VV → VV → Sto → Res VV} (h : ∀ (pins : List (Addr × Obj)) (s : Shared) (σ : L2.St) (H : Hp) (v w : V) (us : List Value) (Q : VK) (ι : List Addr) (S : Sto) (x y : VV), Inv X pins σ H s → Vals [v, w] us → Rep L ι S H → RV L ι H x v → RV L ι H y w → OutE L ι H (g x y S) Q (fun _ _ _ => False) → wpAny (model X.prog X.w) X.A (call f us) (EP X pins σ Q) X.xe s) :
    CallR X f (rdC L (g2 g)) := by
  intro pins s σ H vs us Q I r ⟨ι, S, xs, rp, rv, o⟩
  cases rv with
  | nil => exact o.elim
  | cons rx rr =>
    cases rr with
    | nil => exact o.elim
    | cons ry rr =>
      cases rr with
      | nil => exact h pins s σ H _ _ us Q ι S _ _ I r rp rx ry o
      | cons _ _ => exact o.elim
theorem nx2 {g : VV → VV → Sto → Res VV} (h : ∀ x y S, NoX (g x y S)) : ∀ xs S, NoX (g2 g xs S) := fun xs S n S' e => by
  unfold g2 at e
  split at e
  · exact h _ _ _ n S' e
  · cases e
theorem refL_ok {ι : List Addr} {S : Sto} {H : Hp} {x : VV} {v : V} {xs : List VV} (rp : Rep L ι S H) (rv : RV L ι H x v) (e : refL S x = some xs) : ∃ n a vs, x = .ref n ∧ v = .ref a ∧ H a = some (.lst vs) ∧ RVs L ι H xs vs := by
  cases x with
  | ref n =>
    have e2 : (S[n]?).bind lstI = some xs := e
    cases e3 : S[n]? with
    | none => rw [e3] at e2; cases e2
    | some ob =>
      rw [e3] at e2
      cases ob with
      | lst ys =>
        cases e2
        obtain ⟨a, vs, h1, _, h3, h4⟩ := rp.lst rv e3
        exact ⟨n, a, vs, rfl, h1, h3, h4⟩
      | _ => cases e2
  | _ => cases e
/-- the lists that a list names -/
theorem allL_ok {ι : List Addr} {S : Sto} {H : Hp} {pins : List (Addr × Obj)} {σ : L2.St} {s : Shared} (I : Inv X pins σ H s) (rp : Rep L ι S H) : ∀ {xs : List VV} {vs : List V} {us : List Value} {ls : List (List VV)}, RVs L ι H xs vs → Vals vs us → allL S xs = some ls →
    ∃ (wls : List (List V)) (uls : List (List Value)), Paired (fun l w => RVs L ι H l w) ls wls ∧ Paired (fun w u => Vals w u) wls uls ∧ Paired (fun u (its : List Value) => ∃ a, u = Value.ref a ∧ LO s.heap a its) us uls
  | [], _, _, _, .nil, .nil, e => by
    cases e
    exact ⟨[], [], .nil, .nil, .nil⟩
  | x :: xs, _, _, ls, .cons h r, .cons h2 r2, e => by
    obtain ⟨l, e1, e2⟩ := Option.bind_eq_some_iff.mp e
    obtain ⟨ls', e3, rfl⟩ := Option.map_eq_some_iff.mp e2
    obtain ⟨n, a, vs, rfl, rfl, h3, h4⟩ := refL_ok rp h e1
    obtain ⟨z, its, m, r3, _, h5⟩ := I.lstM h3
    obtain ⟨wls, uls, p1, p2, p3⟩ := allL_ok I rp r r2 e3
    exact ⟨vs :: wls, its :: uls, .cons h4 p1, .cons r3 p2, .cons ⟨a, h2, m, h5⟩ p3⟩
theorem flat_rel {ι : List Addr} {H : Hp} : ∀ {ls : List (List VV)} {wls : List (List V)}, Paired (fun l w => RVs L ι H l w) ls wls → RVs L ι H ls.flatten wls.flatten
  | _, _, .nil => .nil
  | _, _, .cons h r => RVs.append h (flat_rel r)
theorem flat_vals : ∀ {ls : List (List V)} {wls : List (List Value)}, Paired (fun l w => Vals l w) ls wls → Vals ls.flatten wls.flatten
  | _, _, .nil => .nil
  | _, _, .cons h r => Vals.append h (flat_vals r)
theorem pair_get {α β : Type} {R : α → β → Prop} : ∀ {as : List α} {bs : List β} {i : Nat} {a : α}, Paired R as bs → as[i]? = some a → ∃ b, bs[i]? = some b ∧ R a b
  | _, _, _, _, .nil, e => by simp at e
  | _, _, 0, _, .cons h _, e => by simp at e; subst e; exact ⟨_, rfl, h⟩
  | _, _, i + 1, _, .cons _ r, e => by
    obtain ⟨b, h1, h2⟩ := pair_get (i := i) r (by simpa using e)
    exact ⟨b, by simpa using h1, h2⟩
theorem flatMap_range {α : Type} : ∀ ls : List (List α), (List.range ls.length).flatMap (fun i => ls.getD i []) = ls.flatten
  | [] => rfl
  | l :: ls => by
    rw [List.length_cons, List.range_succ_eq_map, List.flatMap_cons, List.flatMap_map, List.flatten_cons, ← flatMap_range ls]
    rfl
theorem nxSumL : ∀ x y S, NoX (gSumL x y S) := fun x y S => nxL fun xs => nxL fun acc n S' e => by
  split at e
  · unfold sumR at e
    split at e
    · split at e
      · cases e
      · exact nxNew n S' e
    · cases e
  · cases e
theorem cm_sumL (hK : L.K = X.K) (hcm : X.calm = true) : CallR X (.builtin "sum") (rdC L (g2 gSumL)) := cr2 fun pins s σ H v w us Q ι S x y I r rp rx ry o => by
  obtain ⟨xs, e1, o1⟩ := optL_out o
  obtain ⟨acc, e2, o2⟩ := optL_out o1
  cases e3 : allL S xs with
  | none => rw [e3] at o2; exact o2.elim
  | some ls =>
    rw [e3] at o2
    dsimp only at o2
    unfold sumR at o2
    by_cases c : xs.length ≤ 900 ∧ acc.length ≤ 1000 ∧ (ls.all fun l => decide (l.length ≤ 1000)) = true ∧ (acc ++ ls.flatten).length ≤ 100000
    · rw [if_pos c] at o2
      obtain ⟨c1, c2, c3, c4⟩ := c
      obtain ⟨a, vs, rfl, h2, h3⟩ := rp.sq rx e1
      rw [hK] at h2
      obtain ⟨its, rr, pl, hz⟩ := I.list h2
      obtain ⟨u1, u2, rfl, ru1, ru2⟩ := vals2 r
      obtain rfl : u1 = Value.ref a := ru1
      obtain ⟨n, b, bs, rfl, rfl, hb, rb⟩ := refL_ok rp ry e2
      obtain rfl : u2 = Value.ref b := ru2
      obtain ⟨z, its2, m, r3, l3, h5⟩ := I.lstM hb
      obtain ⟨wls, uls, p1, p2, p3⟩ := allL_ok I rp h3 rr e3
      have hlu : its.length = uls.length := Paired.length p3
      refine sum_lists (vals := fun i => uls.getD i []) (I.ok.hd hcm) pl.isList ⟨m, h5⟩ (by rw [← l3, ← rb.length]; exact c2) (by rw [← rr.length, ← h3.length]; exact c1) (fun i => ?_) (fun j v hj => ?_) fun h' tk t' hk hL ht => ?_
      · cases q : uls[i]? with
        | none => rw [List.getD_eq_getElem?_getD, q]; exact Nat.zero_le _
        | some ul =>
          rw [List.getD_eq_getElem?_getD, q]
          obtain ⟨k1, k2⟩ := List.getElem?_eq_some_iff.mp q
          have hw : i < wls.length := by rw [Paired.length p2]; exact k1
          obtain ⟨ul', q1, q2⟩ := pair_get p2 (List.getElem?_eq_getElem hw)
          rw [q] at q1
          cases q1
          have hl : i < ls.length := by rw [Paired.length p1]; exact hw
          obtain ⟨w', q3, q4⟩ := pair_get p1 (List.getElem?_eq_getElem hl)
          rw [List.getElem?_eq_getElem hw] at q3
          cases q3
          show ul.length ≤ 1000
          rw [← q2.length, ← q4.length]
          exact of_decide_eq_true (List.all_eq_true.mp c3 _ (List.getElem_mem hl))
      · obtain ⟨b, q1, a', q2, q3⟩ := pair_get p3 hj
        refine ⟨a', q2, ?_⟩
        show LO s.heap a' (uls.getD j [])
        rw [List.getD_eq_getElem?_getD, q1]
        exact q3
      · rw [hlu, flatMap_range] at hL
        by_cases hz0 : xs.length = 0
        · rw [if_pos hz0] at o2
          have hi0 : its.length = 0 := by rw [← rr.length, ← h3.length]; exact hz0
          have ht' : t' = b := by
            rcases ht with ⟨_, q⟩ | q
            · exact q
            · exact absurd hi0 q.1
          subst ht'
          exact ⟨.ref t', H, I.kept (t' := tk) hk, rfl, o2 ι H _ (Ext.refl _ _) rp ry⟩
        · rw [if_neg hz0] at o2
          have hi0 : its.length ≠ 0 := by rw [← rr.length, ← h3.length]; exact hz0
          have hnew : ∀ b o, s.heap.get? b = some o → b ≠ t' := by
            rcases ht with ⟨q, _⟩ | q
            · exact absurd q hi0
            · exact q.2
          obtain ⟨cc, hcc⟩ := hL
          have hfr : s.heap.get? t' = none := by
            cases q : s.heap.get? t' with
            | none => rfl
            | some o => exact absurd rfl (hnew _ _ q)
          have hfrH : H t' = none := I.hok.gone hfr
          refine ⟨.ref t', upd H t' (.lst (bs ++ wls.flatten)), I.laidN (t' := tk) hk hfr hfrH ⟨?_, its2 ++ uls.flatten, cc, r3.append (flat_vals p2), hcc⟩, rfl, newL_out rp (rb.append (flat_rel p1)) o2 _ hfrH⟩
          rw [← (rb.append (flat_rel p1)).length]
          exact sz_of c4
    · rw [if_neg c] at o2
      exact o2.elim
end
end Sx
end
/-! Sx10: methods of lists, defs and their calls. -/
noncomputable section
namespace Sx
open PySem PySem.Spec
open PyProof.Rows L2
/-! ### methods -/
def tyB (T : String) (S : Sto) : VV → Bool
  | .str _ => T == "str"
  | .ref n => ((S[n]?).bind tyO) == some T
  | .rol _ => T == "list"
  | _ => false
def mMt (T : String) (g : VV → List VV → Sto → Res VV) (o : EM) (a : AM) : EM := fun σ S => (o σ S).bind fun x S1 => if tyB T S1 x = true then (a σ S1).bind fun xs S2 => g x xs S2 else .fail
def mMt0 (T : String) (g : VV → List VV → Sto → Res VV) (o : EM) : EM := fun σ S => (o σ S).bind fun x S1 => if tyB T S1 x = true then g x [] S1 else .fail
/-- a list changes: its items and the arguments give what is returned and the new items -/
def lmO (lm : List VV → List VV → Option (VV × List VV)) (n : Nat) (args : List VV) (S : Sto) : OO → Option (VV × Sto)
  | .lst xs => (lm xs args).map fun p => (p.1, S.set n (.lst p.2))
  | _ => none
def lmR (lm : List VV → List VV → Option (VV × List VV)) (args : List VV) (S : Sto) : VV → Option (VV × Sto)
  | .ref n => (S[n]?).bind (lmO lm n args S)
  | _ => none
def optP (o : Option (VV × Sto)) : Res VV := match o with
  | some p => .ok p.1 p.2
  | none => .fail
def gLm (lm : List VV → List VV → Option (VV × List VV)) (x : VV) (args : List VV) (S : Sto) : Res VV := optP (lmR lm args S x)
def lmAppend : List VV → List VV → Option (VV × List VV)
  | xs, [y] => if xs.length < 100000 then some (.non, xs ++ [y]) else none
  | _, _ => none
def lmInsert : List VV → List VV → Option (VV × List VV)
  | xs, [.int i, y] => if xs.length < 100000 ∧ InR 0 i 1000000 then some (.non, xs.take i.toNat ++ [y] ++ xs.drop i.toNat) else none
  | _, _ => none
def lmPop : List VV → List VV → Option (VV × List VV)
  | xs, [] => (xs[xs.length - 1]?).map fun y => (y, xs.dropLast)
  | _, _ => none
def lmPopAt : List VV → List VV → Option (VV × List VV)
  | xs, [.int i] => if InR (-1000000) i 1000000 then (seqIndex? i xs.length).bind fun k => (xs[k]?).map fun y => (y, xs.eraseIdx k) else none
  | _, _ => none
def lmReverse : List VV → List VV → Option (VV × List VV)
  | xs, [] => some (.non, xs.reverse)
  | _, _ => none
def lmClear : List VV → List VV → Option (VV × List VV)
  | _, [] => some (.non, [])
  | _, _ => none
/-! ### defs -/
def SR.fin (r : SR) : Res VV := match r with
  | .nx _ S => .ok .non S
  | .rt v S => .ok v S
  | .exc k _ S => .exc k S
  | _ => .fail
abbrev FM := List VV → Sto → Res VV
def fnM (np n : Nat) (b : SM) : FM := fun args S => if args.length = np then (b (startM n args) S).fin else .fail
def spM (L : Lay) (m : FM) : Sp := fun vs H Q E => ∃ ι S args, Rep L ι S H ∧ RVs L ι H args vs ∧ OutE L ι H (m args S) Q E
def mCall (m : FM) (a : AM) : EM := fun σ S => (a σ S).bind fun xs S1 => m xs S1
section
variable {X : Cx} {L : Lay} {W : WX}
theorem nxP {o : Option (VV × Sto)} : NoX (optP o) := fun n S' e => by
  unfold optP at e
  split at e <;> cases e
theorem nxLm {lm : List VV → List VV → Option (VV × List VV)} : ∀ x args S, NoX (gLm lm x args S) := fun _ _ _ => nxP
def rdM (L : Lay) (g : VV → List VV → Sto → Res VV) : V → List V → Hp → VK → Prop := fun vx vs H Q => ∃ ι S x xs, Rep L ι S H ∧ RV L ι H x vx ∧ RVs L ι H xs vs ∧ OutE L ι H (g x xs S) Q (fun _ _ _ => False)
theorem tyB_ok {ι : List Addr} {S : Sto} {H : Hp} {x : VV} {v : V} {T : String} (hK : L.K = X.K) (rp : Rep L ι S H) (rv : RV L ι H x v) (e : tyB T S x = true) : tyV X.K T v H := by
  cases x with
  | str z => cases rv; exact eq_of_beq e
  | ref n =>
    have e2 : (((S[n]?).bind tyO) == some T) = true := e
    have e2 := eq_of_beq e2
    cases e3 : S[n]? with
    | none => rw [e3] at e2; cases e2
    | some ob =>
      rw [e3] at e2
      cases rv with
      | @ref _ a h =>
        obtain ⟨u, h1, h2⟩ := rp.get h e3
        cases ob with
        | lst xs => cases e2; obtain ⟨vs, rfl, _⟩ := h2; exact .inl ⟨rfl, vs, SqL.of h1⟩
        | dK xs => cases e2; obtain ⟨vs, rfl, _⟩ := h2; exact .inr (.inr (.inl ⟨rfl, .inl ⟨vs, h1⟩⟩))
        | dT xs => cases e2; obtain ⟨vs, rfl, _⟩ := h2; exact .inr (.inr (.inl ⟨rfl, .inr ⟨vs, h1⟩⟩))
        | _ => cases e2
  | rol xs =>
    obtain ⟨a, vs, rfl, h2, h3⟩ := rp.sq rv (show lstAt S (.rol xs) = some xs from rfl)
    exact .inl ⟨eq_of_beq e, vs, hK ▸ h2⟩
  | _ => cases e
theorem me_bm {o e : Expr} {es : List Expr} {name : Str} {apos cpos : Pos} {T id : String} {g : VV → List VV → Sto → Res VV} {mo : EM} {a : AM} (hK : L.K = X.K) (pa : PlainAttrs T) (slot : Slot T name id) (hty : typeOf (.builtin id) = pure (.type "method_descriptor")) (hm : MtR X id (rdM L g)) (hx : ∀ x xs S, NoX (g x xs S))
    (ho : ME X L W o mo) (ha : MA X L W (e :: es) a) (hbase : attributeBase o name X.env (eval o X.env) = eval o X.env := by rfl)
    (hfew : ((backTo cpos (starEach (e :: es) X.env)).all (fun x => !x.1) && (backToKw cpos (keywordEach [] X.env)).all (fun x => x.1.isSome)
      && decide ((e :: es).length + ([] : List Keyword).length + (if ([] : List Keyword).isEmpty then 0 else 1) < 30)) = true := by rfl)
    (hline : (apos.endLine == cpos.line) = true := by rfl) (hs : starEach (e :: es) X.env = (false, eval e X.env) :: starEach es X.env := by rfl) (hplain : (backTo cpos (starEach es X.env)).any (·.1) = false := by rfl) :
    ME X L W (.Call (.Attribute o name apos) (e :: es) [] cpos) (mMt T g mo a) := PE.wk (pe_bm pa slot hty hm ho ha hbase hfew hline hs hplain) fun τ H Q ⟨ι, S, σ, rp, rs, o⟩ =>
  stepE rp rs o fun x S1 ι1 H1 v ex r1 s1 rv o1 => by
    by_cases c : tyB T S1 x = true
    · rw [if_pos c] at o1
      refine ⟨tyB_ok hK r1 rv c, stepA r1 s1 o1 fun xs S2 ι2 H2 vs ex2 r2 s2 rvs o2 => ⟨ι2, S2, x, xs, r2, rv.mono ex2, rvs, ?_⟩⟩
      cases e : g x xs S2 with
      | ok z S3 => rw [e] at o2; exact o2
      | exc n S3 => exact absurd e (hx x xs S2 n S3)
      | fail => rw [e] at o2; exact o2
    · rw [if_neg c] at o1
      exact o1.elim
theorem me_bm0 {o : Expr} {name : Str} {apos cpos : Pos} {T id : String} {g : VV → List VV → Sto → Res VV} {mo : EM} (hK : L.K = X.K) (pa : PlainAttrs T) (slot : Slot T name id) (hty : typeOf (.builtin id) = pure (.type "method_descriptor")) (hm : MtR X id (rdM L g)) (hx : ∀ x xs S, NoX (g x xs S))
    (ho : ME X L W o mo) (hbase : attributeBase o name X.env (eval o X.env) = eval o X.env := by rfl) (hline : (apos.endLine == cpos.line) = true := by rfl) :
    ME X L W (.Call (.Attribute o name apos) [] [] cpos) (mMt0 T g mo) := PE.wk (pe_bm0 pa slot hty hm ho hbase hline) fun τ H Q ⟨ι, S, σ, rp, rs, o⟩ =>
  stepE rp rs o fun x S1 ι1 H1 v ex r1 s1 rv o1 => by
    by_cases c : tyB T S1 x = true
    · rw [if_pos c] at o1
      refine ⟨tyB_ok hK r1 rv c, ι1, S1, x, [], r1, rv, .nil, ?_⟩
      cases e : g x [] S1 with
      | ok z S3 => rw [e] at o1; exact o1
      | exc n S3 => exact absurd e (hx x [] S1 n S3)
      | fail => rw [e] at o1; exact o1
    · rw [if_neg c] at o1
      exact o1.elim
theorem optP_out {ι : List Addr} {H : Hp} {o : Option (VV × Sto)} {Q : VK} {E : XK} (h : OutE L ι H (optP o) Q E) : ∃ x S, o = some (x, S) ∧ OutE L ι H (.ok x S) Q E := by
  cases o with
  | none => exact h.elim
  | some p => exact ⟨p.1, p.2, rfl, h⟩
/-- a list's items change -/
theorem lst_set {ι : List Addr} {S : Sto} {H : Hp} {n : Nat} {a : Addr} {vs ws : List V} {ys : List VV} (rp : Rep L ι S H) (ha : ι[n]? = some a) (h1 : H a = some (.lst vs)) (r : RVs L ι H ys ws) :
    Ext ι H ι (upd H a (.lst ws)) ∧ Rep L ι (S.set n (.lst ys)) (upd H a (.lst ws)) := by
  have kp : Keep H (upd H a (.lst ws)) := Keep.set h1 (fun _ => by intro z; cases z) (fun _ _ => by intro z; cases z)
  have ex : Ext ι H ι (upd H a (.lst ws)) := ⟨List.prefix_rfl, kp⟩
  exact ⟨ex, rp.set ha h1 kp ⟨_, rfl, r.mono ex⟩⟩
/-- THE RULE for what changes a list -/
theorem lm_of {id : String} {lm : List VV → List VV → Option (VV × List VV)} {r : V → List V → Hp → VK → Prop} (hm : MtR X id r)
    (h : ∀ (ι : List Addr) (H : Hp) (l : Addr) (xs args ys : List VV) (vs us : List V) (z : VV) (Q : VK), H l = some (.lst vs) → RVs L ι H xs vs → RVs L ι H args us → lm xs args = some (z, ys) → (∀ v ws, RV L ι H z v → RVs L ι H ys ws → Q v (upd H l (.lst ws))) → r (.ref l) us H Q) :
    MtR X id (rdM L (gLm lm)) := by
  intro pins s σ H vx vs v us Q I rx rs ⟨ι, S, x, xs, rp, rv, rvs, o⟩
  obtain ⟨z, S1, e, o1⟩ := optP_out o
  cases x with
  | ref n =>
    have e1 : (S[n]?).bind (lmO lm n xs S) = some (z, S1) := e
    obtain ⟨ob, e2, e3⟩ := Option.bind_eq_some_iff.mp e1
    cases ob with
    | lst ys =>
      have e4 : (lm ys xs).map (fun p => (p.1, S.set n (.lst p.2))) = some (z, S1) := e3
      obtain ⟨⟨z', ys'⟩, e5, e6⟩ := Option.map_eq_some_iff.mp e4
      cases e6
      obtain ⟨a, ws, rfl, ha, h3, h4⟩ := rp.lst rv e2
      refine hm pins s σ H _ vs v us Q I rx rs (h ι H a ys xs ys' ws vs z' Q h3 h4 rvs e5 fun v' ws' hz hy => ?_)
      obtain ⟨ex, r2⟩ := lst_set rp ha h3 hy
      exact o1 ι _ v' ex r2 (hz.mono ex)
    | _ => cases e3
  | _ => cases e
theorem lm_append : MtR X "list.append" (rdM L (gLm lmAppend)) := lm_of mt_append fun ι H l xs args ys vs us z Q h1 h2 h3 e q => by
  unfold lmAppend at e
  split at e
  · rename_i y
    split at e
    · rename_i c
      cases e
      cases h3 with
      | cons hy hr =>
        cases hr
        exact ⟨l, vs, _, rfl, rfl, h1, by rw [← h2.length]; exact Nat.lt_of_lt_of_le c (by decide), q _ _ .non (h2.append (.cons hy .nil))⟩
    · cases e
  · cases e
theorem lm_insert : MtR X "list.insert" (rdM L (gLm lmInsert)) := lm_of mt_insert fun ι H l xs args ys vs us z Q h1 h2 h3 e q => by
  unfold lmInsert at e
  split at e
  · rename_i i y
    split at e
    · rename_i c
      cases e
      cases h3 with
      | cons hi hr =>
        cases hi
        cases hr with
        | cons hy hr =>
          cases hr
          exact ⟨l, vs, i, _, rfl, rfl, h1, by rw [← h2.length]; exact Nat.lt_of_lt_of_le c.1 (by decide), c.2.1, by have := c.2.2; omega, q _ _ .non (((h2.take _).append (.cons hy .nil)).append (h2.drop _))⟩
    · cases e
  · cases e
theorem lm_pop : MtR X "list.pop" (rdM L (gLm lmPop)) := lm_of mt_pop fun ι H l xs args ys vs us z Q h1 h2 h3 e q => by
  unfold lmPop at e
  split at e
  · obtain ⟨y, e1, e2⟩ := Option.map_eq_some_iff.mp e
    cases e2
    cases h3
    obtain ⟨v, hv, rv⟩ := h2.get e1
    exact ⟨l, vs, v, rfl, rfl, h1, by rw [← h2.length]; exact hv, q _ _ rv h2.dropLast⟩
  · cases e
theorem lm_popAt : MtR X "list.pop" (rdM L (gLm lmPopAt)) := lm_of mt_popAt fun ι H l xs args ys vs us z Q h1 h2 h3 e q => by
  unfold lmPopAt at e
  split at e
  · rename_i i
    split at e
    · rename_i c
      obtain ⟨k, e1, e2⟩ := Option.bind_eq_some_iff.mp e
      obtain ⟨y, e3, e4⟩ := Option.map_eq_some_iff.mp e2
      cases e4
      cases h3 with
      | cons hi hr =>
        cases hi
        cases hr
        obtain ⟨v, hv, rv⟩ := h2.get e3
        obtain ⟨c1, c2⟩ := c
        exact ⟨l, vs, i, k, v, rfl, rfl, h1, by omega, by omega, by rw [← h2.length]; exact e1, hv, q _ _ rv (h2.eraseIdx k)⟩
    · cases e
  · cases e
theorem lm_reverse : MtR X "list.reverse" (rdM L (gLm lmReverse)) := lm_of mt_reverse fun ι H l xs args ys vs us z Q h1 h2 h3 e q => by
  unfold lmReverse at e
  split at e
  · cases e
    cases h3
    exact ⟨l, vs, rfl, rfl, h1, q _ _ .non h2.rev⟩
  · cases e
theorem lm_clear : MtR X "list.clear" (rdM L (gLm lmClear)) := lm_of mt_clear fun ι H l xs args ys vs us z Q h1 h2 h3 e q => by
  unfold lmClear at e
  split at e
  · cases e
    cases h3
    exact ⟨l, vs, rfl, rfl, h1, q _ _ .non .nil⟩
  · cases e

/-! ### defs -/
theorem spM_len {np n : Nat} {b : SM} {vs : List V} {H : Hp} {Q : VK} {E : XK} (h : spM L (fnM np n b) vs H Q E) : vs.length = np := by
  obtain ⟨ι, S, args, rp, rv, o⟩ := h
  by_cases c : args.length = np
  · rw [← rv.length]; exact c
  · unfold fnM at o
    rw [if_neg c] at o
    exact o.elim
theorem spM_body {np : Nat} {N : List Str} {b : SM} {vs : List V} {H : Hp} {Q : VK} {E : XK} (h : spM L (fnM np N.length b) vs H Q E) :
    rdS L (fun cls d _ H => E cls d H) b { nx := fun _ H' => Q .non H', rt := Q } (start N vs) H := by
  obtain ⟨ι, S, args, rp, rv, o⟩ := h
  by_cases c : args.length = np
  · unfold fnM at o
    rw [if_pos c] at o
    refine ⟨ι, S, _, rp, RS.start rv, ?_⟩
    cases e : b (startM N.length args) S with
    | nx σ S1 => rw [e] at o; exact fun ι1 H1 τ ex r1 s1 => o ι1 H1 .non ex r1 .non
    | rt x S1 => rw [e] at o; exact o
    | exc k σ S1 => rw [e] at o; exact fun ι1 H1 τ cls d ex r1 s1 x1 => o ι1 H1 cls d ex r1 x1
    | bk σ S1 => rw [e] at o; exact o.elim
    | ct σ S1 => rw [e] at o; exact o.elim
    | fail => rw [e] at o; exact o.elim
  · unfold fnM at o
    rw [if_neg c] at o
    exact o.elim
section
variable {P : Program} {w : World} {K : PySem.W.Frag} {mg : Str → Option Value} {base : Heap}
/-- THE RULE of a def -/
theorem fn_okM {x qual : Str} {params : Arguments} {body : List Stmt} {scope : Scope} {dvs : List V} {kws : List (Str × V)} {f : Addr} {fd : FuncData} {N ps : List Str} {k np n : Nat} {b : SM} (F : FunD K x qual params body scope dvs kws f fd) (Sc : FnScope N ps scope) (hnp : ps.length = np) (hn : N.length = n)
    (h : ∀ (cdv : Value) (A : Around) (outer : List Env) (s : Shared) (H : Hp) (E : XK), Room k (A.deeper (envOfC qual scope s.heap.objs.size f cdv)) → Takes (cxOf (L2.CX P w) P w K mg base N qual scope f cdv A outer s H E) (fun cls d _ H => E cls d H) →
      MSs (cxOf (L2.CX P w) P w K mg base N qual scope f cdv A outer s H E) L (fun cls d _ H => E cls d H) body b) : FnOk P w K mg base (L2.CX P w) (k + 1) f fd ps (spM L (fnM np n b)) := by
  subst hnp hn
  exact F.ok Sc (fun vs H Q E h => spM_len h) fun cdv A outer s H vs Q E hr hsp => ⟨_, h cdv A outer s H E hr (takes_of rfl rfl rfl (E₁ := fun e' s'' => L2.CX P w outer H s E e' s'') rfl), spM_body hsp⟩
theorem fn_never {x qual : Str} {params : Arguments} {body : List Stmt} {scope : Scope} {dvs : List V} {kws : List (Str × V)} {f : Addr} {fd : FuncData} {N ps : List Str} {k : Nat} (F : FunD K x qual params body scope dvs kws f fd) (Sc : FnScope N ps scope) :
    FnOk P w K mg base (L2.CX P w) (k + 1) f fd ps (spM L (fun _ _ => .fail)) := F.ok Sc (fun vs H Q E ⟨_, _, _, _, _, o⟩ => o.elim) fun cdv A outer s H vs Q E hr ⟨_, _, _, _, _, o⟩ => o.elim
end
/-- f(e, ..) -/
theorem me_call {k j : Nat} {f : Addr} {fd : FuncData} {ps : List Str} {m : FM} {x : Str} {p pos : Pos} {e : Expr} {es : List Expr} {a : AM} (F : FnOk X.prog X.w X.K X.mg X.base (L2.CX X.prog X.w) k f fd ps (spM L m)) (hr : Room j X.A) (hkj : k ≤ j) (tk : Takes X W) (hg : Gl X x) (hm : X.mg x = some (.ref f)) (hk : PySem.W.keepIn X.K (.ref f) = true)
    (hb : Binds X.K fd ps []) (ha : MA X L W (e :: es) a) (hdb : (x == ("__debug__" : Str)) = false := by decide) (he : starEach (e :: es) X.env = (false, eval e X.env) :: starEach es X.env := by rfl) (hpl : (backTo pos (starEach es X.env)).any (·.1) = false := by rfl) :
    ME X L W (.Call (.Name x p) (e :: es) [] pos) (mCall m a) := PE.wk (pe_callS F (hr.mono hkj) hg hm hk hb (passAt tk) ha hdb he hpl) fun τ H Q ⟨ι, S, σ, rp, rs, o⟩ =>
  stepA rp rs o fun xs S1 ι1 H1 vs ex r1 s1 rv o1 => ⟨ι1, S1, xs, r1, rv, o1⟩
end
end Sx
end
/-! Sx11: in-place operators, truth, short forms for the printer. -/
noncomputable section
namespace Sx
open PySem PySem.Spec
open PyProof.Rows L2
abbrev gIAdd := gInt fun i j => .int (i + j)
section
variable {X : Cx} {L : Lay} {W : WX}
theorem ip_int {op : Operator} {f : Int → Int → Int} (ho : PIp X op (ipI f)) : PIp X op (rdO L (gInt fun i j => .int (f i j))) := by
  intro pins s σ H vx vy v u Q I rx ry ⟨ι, S, x, y, rp, hx, hy, o⟩
  cases x with
  | int a =>
    cases y with
    | int b =>
      cases hx; cases hy
      exact ho pins s σ H _ _ v u Q I rx ry ⟨a, b, rfl, rfl, o ι H _ (Ext.refl _ _) rp (.int _)⟩
    | _ => exact o.elim
  | _ => exact o.elim
theorem ipm_add : PIp X .Add (rdO L gIAdd) := ip_int ip_add
theorem ipm_sub : PIp X .Sub (rdO L gSub) := ip_int ip_sub
/-- the printer's names -/
theorem ev (i : Nat) {x : Str} {pos : Pos} (hN : X.N[i]? = some x := by rfl) (hv : Vis X.env.scope x := by first | exact Or.inl rfl | exact Or.inr (Or.inl rfl) | exact Or.inr (Or.inr rfl)) (hd : (x == ("__debug__" : Str)) = false := by decide)
    (hcd : (x == ("__classdict__" : Str)) = false := by decide) : ME X L W (.Name x pos) (mV i) := me_v i (pe_var hN hv hd hcd)
theorem gv (i : Nat) {x : Str} {pos : Pos} (hN : X.N.Nodup) (hi : X.N[i]? = some x := by rfl) (hx : Loc X.env.scope x := by first | exact Or.inl rfl | exact Or.inr rfl) (hf : X.fn x = true ∨ X.env.scope.names.lookup x = some .local := by first | exact .inl rfl | exact .inr rfl | assumption) : MG X L W (.Name x pos) (gmName i) := mg_name (pg_name hN hi hx hf)
theorem gw (i : Nat) {x : Str} {pos : Pos} {own : List Nat} (hN : X.N.Nodup) (hw : i ∈ own := by decide) (hi : X.N[i]? = some x := by rfl) (hx : Loc X.env.scope x := by first | exact Or.inl rfl | exact Or.inr rfl) (hf : X.fn x = true ∨ X.env.scope.names.lookup x = some .local := by first | exact .inl rfl | exact .inr rfl | assumption) : MGw X L own (.Name x pos) (gmName i) := mgw_name (pg_name hN hi hx hf) hw
theorem sv (i : Nat) {x : Str} {pos pos' : Pos} {op : Operator} {g : VV → VV → Sto → Res VV} {e : Expr} {a : EM} (hN : X.N.Nodup) (hg : ∀ x y S, NoX (g x y S)) (hp : PIp X op (rdO L g)) (he : ME X L W e a) (hi : X.N[i]? = some x := by rfl) (hx : Loc X.env.scope x := by first | exact Or.inl rfl | exact Or.inr rfl) (hf : X.fn x = true ∨ X.env.scope.names.lookup x = some .local := by first | exact .inl rfl | exact .inr rfl | assumption) :
    MS X L W (.AugAssign (.Name x pos') op e pos) (mAug i g a) := ms_aug hg (ps_aug hN hi hx he hp hf)
theorem tw {e : Expr} {t : TM} (h : MW X L W e t) : MT X L W e t := h.pt
theorem tkF {X : Cx} : Takes X WF := takes0
/-! ### a def as it stands behind the top, with its promise -/
structure Df (P : Program) (w : World) (K : PySem.W.Frag) (mg : Str → Option Value) (base : Heap) (L : Lay) (x : Str) (k : Nat) (ps : List Str) (m : FM) : Prop where
  ex : ∃ f fd, FnOk P w K mg base (L2.CX P w) k f fd ps (spM L m) ∧ Binds K fd ps [] ∧ PySem.W.keepIn K (.ref f) = true ∧ mg x = some (.ref f)
theorem me_d {k j : Nat} {ps : List Str} {m : FM} {x : Str} {p pos : Pos} {e : Expr} {es : List Expr} {a : AM} (D : Df X.prog X.w X.K X.mg X.base L x k ps m) (hr : Room j X.A) (tk : Takes X W) (ha : MA X L W (e :: es) a) (hkj : k ≤ j := by decide) (hg : Gl X x := by rfl)
    (hdb : (x == ("__debug__" : Str)) = false := by decide) (he : starEach (e :: es) X.env = (false, eval e X.env) :: starEach es X.env := by rfl) (hpl : (backTo pos (starEach es X.env)).any (·.1) = false := by rfl) :
    ME X L W (.Call (.Name x p) (e :: es) [] pos) (mCall m a) := by
  obtain ⟨f, fd, F, b, kp, g⟩ := D.ex
  exact me_call F hr hkj tk hg g kp b ha hdb he hpl
/-- the law's start: nothing but the script -/
theorem law_start {L : Lay} {H : Hp} {a : Addr} {ns : List Int} (hO : Only H) (hS : SqL L.K H a (ns.map V.int)) (tb : NdefX.TabsN L.T H) : Rep L [] [] H ∧ RVs L [] H [.rol (ns.map VV.int)] [.ref a] := by
  refine ⟨⟨rfl, List.nodup_nil, fun n o e => by simp at e, tb⟩, .cons (.rol (vs := ns.map V.int) ?_ ?_) .nil⟩
  · rcases hS with (h | ⟨o, h⟩) | h
    · rcases hO a with z | ⟨o, xs, z⟩ <;> rw [h] at z <;> cases z
    · exact .inl ⟨o, h⟩
    · exact .inr fun H' => .inr h
  · clear hS
    induction ns with
    | nil => exact .nil
    | cons n ns ih => exact .cons (.int n) ih
/-- the law's promise -/
def spLaw (K : PySem.W.Frag) (n : Nat) : Sp := fun vs H Q _ => ∃ (a : Addr) (ns : List Int), vs = [.ref a] ∧ ns.length ≤ n ∧ Only H ∧ SqL K H a (ns.map V.int) ∧ ∀ H', Q (.bl true) H'
theorem law_out {L : Lay} {m : FM} {n : Nat} {H : Hp} {a : Addr} {ns : List Int} (hl : ns.length ≤ n) (hO : Only H) (hS : SqL L.K H a (ns.map V.int)) (h : ∀ ns : List Int, ns.length ≤ n → ∃ S, m [.rol (ns.map VV.int)] [] = .ok (.bl true) S) (tb : L.T = [] := by rfl) :
    spM L m [.ref a] H (fun v _ => v = .bl true) fun _ _ _ => False := by
  obtain ⟨r, rv⟩ := law_start hO hS (by rw [tb]; exact fun p hp => nomatch hp)
  obtain ⟨S, e⟩ := h ns hl
  refine ⟨[], [], _, r, rv, ?_⟩
  rw [e]
  intro ι1 H1 v ex r1 rv1
  cases rv1
  rfl
/-- the law's promise where tables of code objects are kept; the script may stand as a list of the store -/
theorem law_outT {L : Lay} {m : FM} {n : Nat} {H : Hp} {a : Addr} {ns : List Int} (hl : ns.length ≤ n) (hS : SqL L.K H a (ns.map V.int)) (tb : NdefX.TabsN L.T H) (h1 : ∀ ns : List Int, ns.length ≤ n → ∃ S, m [.rol (ns.map VV.int)] [] = .ok (.bl true) S) (h2 : ∀ ns : List Int, ns.length ≤ n → ∃ S, m [.ref 0] [.lst (ns.map VV.int)] = .ok (.bl true) S) :
    spM L m [.ref a] H (fun v _ => v = .bl true) fun _ _ _ => False := by
  have irs : ∀ (ι : List Addr) (H : Hp) (ns : List Int), RVs L ι H (ns.map VV.int) (ns.map V.int) := fun ι H ns => by
    induction ns with
    | nil => exact .nil
    | cons n ns ih => exact .cons (.int n) ih
  have go : ∀ {ι : List Addr} {S0 : Sto} {x : VV}, Rep L ι S0 H → RV L ι H x (.ref a) → (∃ S, m [x] S0 = .ok (.bl true) S) → spM L m [.ref a] H (fun v _ => v = .bl true) fun _ _ _ => False := fun {ι S0 x} r rv ⟨S, e⟩ => by
    refine ⟨ι, S0, [x], r, .cons rv .nil, ?_⟩
    rw [e]
    intro ι1 H1 v ex r1 rv1
    cases rv1
    rfl
  rcases hS with (z | ⟨o, z⟩) | z
  · refine go (ι := [a]) (S0 := [.lst (ns.map VV.int)]) (x := .ref 0) ⟨rfl, by simp, fun k o e => ?_, tb⟩ (.ref rfl) (h2 ns hl)
    match k with
    | 0 => cases e; exact ⟨a, _, rfl, z, _, rfl, irs _ _ _⟩
    | k + 1 => simp at e
  · exact go (ι := []) (S0 := []) ⟨rfl, List.nodup_nil, fun n o e => by simp at e, tb⟩ (.rol (vs := ns.map V.int) (.inl ⟨o, z⟩) (irs _ _ _)) (h1 ns hl)
  · exact go (ι := []) (S0 := []) ⟨rfl, List.nodup_nil, fun n o e => by simp at e, tb⟩ (.rol (vs := ns.map V.int) (.inr fun H' => .inr z) (irs _ _ _)) (h1 ns hl)
theorem no_CX {P : Program} {w : World} (H : Hp) (s : Shared) (e : Value) (s' : Shared) (h : L2.CX P w [] H s (fun _ _ _ => False) e s') : False := by
  obtain ⟨_, _, _, _, _, _, _, _, _, _, _, _, z⟩ := h
  exact z
end
end Sx
end
section
/-! SxEnd: what a law's def may let out, whatever the world. -/
namespace Sx
open PySem PySem.Spec
open PyProof.Rows L2
def CXA (P : Program) : CXT := fun outer H s E u s' => ∃ w, L2.CX P w outer H s E u s'
theorem fn_anyW {P : Program} {w : World} {K : PySem.W.Frag} {mg : Str → Option Value} {base : Heap} {k : Nat} {f : Addr} {fd : FuncData} {ps : List Str} {sp : Sp} (F : FnOk P w K mg base (L2.CX P w) k f fd ps sp) : FnOk P w K mg base (CXA P) k f fd ps sp :=
  ⟨F.len, fun A outer s H args us vs Q E hr e b r h => codeAny_mono (F.run A outer s H args us vs Q E hr e b r h) fun r s' hq => by
    cases r with
    | error e => exact ⟨w, hq⟩
    | ok fl => cases fl <;> exact hq⟩
theorem no_CXA {P : Program} (H : Hp) (s : Shared) (e : Value) (s' : Shared) (h : CXA P [] H s (fun _ _ _ => False) e s') : False := by
  obtain ⟨w, h⟩ := h
  exact no_CX H s e s' h
end Sx
end
/-! Sx12: min(xs, default=d), -x, abs, min and max of two. -/
noncomputable section
namespace Sx
open PySem PySem.Spec
open PyProof.Rows L2
def intsO : List VV → Option (List Int)
  | [] => some []
  | .int i :: r => (intsO r).map (i :: ·)
  | _ => none
def minR (y : VV) (S : Sto) : List Int → Res VV
  | [] => .ok y S
  | n :: ns => .ok (.int (ns.foldl min n)) S
def optN (o : Option (List Int)) (k : List Int → Res VV) : Res VV := match o with
  | some ns => k ns
  | none => .fail
def gMinD (x y : VV) (S : Sto) : Res VV := optN ((lstAt S x).bind intsO) (minR y S)
def mMinD (a d : EM) : EM := fun σ S => (a σ S).bind fun x S1 => (d σ S1).bind fun y S2 => gMinD x y S2
def gNeg : VV → Sto → Res VV
  | .int i, S => .ok (.int (-i)) S
  | _, _ => .fail
def gAbs : VV → Sto → Res VV
  | .int i, S => .ok (.int (if i < 0 then -i else i)) S
  | _, _ => .fail
def gMin2 : VV → VV → Sto → Res VV
  | .int i, .int j, S => .ok (.int (if j < i then j else i)) S
  | _, _, _ => .fail
def gMax2 : VV → VV → Sto → Res VV
  | .int i, .int j, S => .ok (.int (if j > i then j else i)) S
  | _, _, _ => .fail
section
variable {X : Cx} {L : Lay} {W : WX}
theorem intsO_ok {xs : List VV} {ns : List Int} (e : intsO xs = some ns) : xs = ns.map VV.int := by
  induction xs generalizing ns with
  | nil => cases e; rfl
  | cons x r ih =>
    cases x with
    | int i =>
      have e1 : (intsO r).map (i :: ·) = some ns := e
      obtain ⟨ns', h1, rfl⟩ := Option.map_eq_some_iff.mp e1
      rw [List.map_cons, ← ih h1]
    | _ => cases e
theorem ints_rel {ι : List Addr} {H : Hp} : ∀ {ns : List Int} {vs : List V}, RVs L ι H (ns.map VV.int) vs → vs = ns.map V.int
  | [], _, .nil => rfl
  | n :: ns, _, .cons (.int _) r => by rw [ints_rel r]; rfl
theorem dp_ints {K : PySem.W.Frag} {H : Hp} : ∀ ns : List Int, DpAll K H (ns.map V.int) (ns.map PyData.int)
  | [] => .nil
  | n :: ns => .cons (.int n) (dp_ints ns)
theorem depth_ints : ∀ ns : List Int, PyData.depthAll (ns.map PyData.int) = 0
  | [] => by simp [PyData.depthAll]
  | n :: ns => by
    rw [List.map_cons]
    simp only [PyData.depthAll, PyData.depth]
    rw [depth_ints ns]
    rfl
theorem alike_ints (ns : List Int) : PySem.W.AlikeAll (ns.map PyData.int) := by
  refine ⟨fun x hx y hy => ?_, fun x hx => ?_⟩
  · obtain ⟨i, _, rfl⟩ := List.mem_map.mp hx
    obtain ⟨j, _, rfl⟩ := List.mem_map.mp hy
    rfl
  · obtain ⟨i, _, rfl⟩ := List.mem_map.mp hx
    exact fun z => nomatch z
def rMinDf (L : Lay) : List V → List V → Hp → VK → Prop := fun vs zs H Q => ∃ ι S x y v w, Rep L ι S H ∧ vs = [v] ∧ zs = [w] ∧ RV L ι H x v ∧ RV L ι H y w ∧ OutE L ι H (gMinD x y S) Q (fun _ _ _ => False)
theorem cr_minD (hK : L.K = X.K) (hc : X.calm = true) (hu : X.A.units + 64 < cLine) : CallRK X (.builtin "min") [Str.ofString "default"] (rMinDf L) := by
  intro pins s σ H vs zs us ws Q I r rz h
  obtain ⟨ι, S, x, y, v, w, rp, rfl, rfl, rx, ry, o⟩ := h
  have o1 : OutE L ι H (optN ((lstAt S x).bind intsO) (minR y S)) Q (fun _ _ _ => False) := o
  cases e : (lstAt S x).bind intsO with
  | none => rw [e] at o1; exact o1.elim
  | some ns =>
    rw [e] at o1
    obtain ⟨xs, e1, e2⟩ := Option.bind_eq_some_iff.mp e
    obtain ⟨a, vs, rfl, h2, h3⟩ := rp.sq rx e1
    rw [intsO_ok e2] at h3
    rw [ints_rel h3, hK] at h2
    obtain ⟨its, rv, pl, _⟩ := I.list h2
    obtain ⟨u, rfl, ru⟩ := vals1 r
    obtain rfl : u = Value.ref a := ru
    obtain ⟨uw, rfl, rw'⟩ := vals1 rz
    obtain ⟨as, hr⟩ := Dp.readsAll I (ns.map PyData.int) (ns.map V.int) its (dp_ints ns) rv
    refine PySem.W.min_list_default (d := uw) (I.ok.hd hc) pl.isList (show ReadsAll s.heap its.toArray.toList _ as from hr) (alike_ints ns) (by rw [depth_ints]; omega) (fun h0 h' tk hk => ?_) fun y' ys i v h' tk bs hxs hi hrd hk => ?_
    · have hn : ns = [] := by simpa using h0
      subst hn
      exact ⟨w, H, I.kept (t' := tk) hk, rw', o1 ι H w (Ext.refl _ _) rp ry⟩
    · cases ns with
      | nil => cases hxs
      | cons n ns =>
        rw [List.map_cons] at hxs
        obtain ⟨rfl, rfl⟩ := List.cons.inj hxs
        rw [PySem.W.minD_ints] at hrd
        cases hrd
        exact ⟨.int _, H, I.kept (t' := tk) hk, ⟨_, rfl⟩, o1 ι H _ (Ext.refl _ _) rp (.int _)⟩
theorem nxMinD : ∀ x y S, NoX (gMinD x y S) := fun x y S n S' e => by
  unfold gMinD optN at e
  split at e
  · unfold minR at e
    split at e <;> cases e
  · cases e
theorem me_minD {x : Str} {p pos kp : Pos} {e d : Expr} {nm : Option Str} {a b : EM} (hK : L.K = X.K) (hc : X.calm = true) (hu : X.A.units + 64 < cLine) (hg : Gl X x) (hm : X.mg x = none) (hv : bootBuiltins x = some (.builtin "min")) (he : ME X L W e a) (hd : ME X L W d b)
    (hn : x ≠ "__name__" := by decide) (hdb : (x == ("__debug__" : Str)) = false := by decide) (hs : starEach [e] X.env = (false, eval e X.env) :: starEach [] X.env := by rfl)
    (h1 : backTo pos (starEach [e] X.env) = (false, eval e X.env) :: backTo pos (starEach [] X.env) := by rfl) (h2 : (backTo pos (starEach [e] X.env)).any (·.1) = false := by rfl)
    (h3 : (backToKw pos (keywordEach [⟨nm, d, kp⟩] X.env)).all (·.1.isSome) = true := by rfl) (h4 : (backToKw pos (keywordEach [⟨nm, d, kp⟩] X.env)).any (·.1.isNone) = false := by rfl) (h5 : (backToKw pos (keywordEach [⟨nm, d, kp⟩] X.env)).filterMap (·.1) = [Str.ofString "default"] := by rfl) :
    ME X L W (.Call (.Name x p) [e] [⟨nm, d, kp⟩] pos) (mMinD a b) := PE.wk (pe_callBK (cr_minD (L := L) hK hc hu) hg hm hv (pa_cons he pa_nil hs) (pk_cons hd pk_nil) hn hdb h1 h2 h3 h4 h5) fun τ H Q ⟨ι, S, σ, rp, rs, o⟩ =>
  stepE rp rs o fun x S1 ι1 H1 v ex r1 s1 rv o1 => stepE r1 s1 o1 fun y S2 ι2 H2 w ex2 r2 s2 rw' o2 => by
    refine ⟨ι2, S2, x, y, v, w, r2, rfl, rfl, rv.mono ex2, rw', ?_⟩
    cases e : gMinD x y S2 with
    | ok z S3 => rw [e] at o2; exact o2
    | exc n S3 => exact absurd e (nxMinD x y S2 n S3)
    | fail => rw [e] at o2; exact o2
theorem um_neg : UnR X (unaryOp .USub) (rdU L gNeg) := by
  intro pins s σ H vx v Q I rx ⟨ι, S, x, rp, hx, o⟩
  cases x with
  | int i =>
    cases hx
    exact un_neg pins s σ H _ v Q I rx ⟨i, rfl, o ι H _ (Ext.refl _ _) rp (.int _)⟩
  | _ => exact o.elim
theorem nxNeg : ∀ x S, NoX (gNeg x S) := fun x S n S' e => by cases x <;> cases e
theorem cm_abs : CallR X (.builtin "abs") (rdC L (g1 gAbs)) := cr1 fun pins s σ H v us Q ι S x I r rp rv o => by
  cases x with
  | int i =>
    cases rv
    exact call_abs pins s σ H _ us Q I r ⟨i, rfl, o ι H _ (Ext.refl _ _) rp (.int _)⟩
  | _ => exact o.elim
theorem nxAbs : ∀ x S, NoX (gAbs x S) := fun x S n S' e => by cases x <;> cases e
theorem cm_min2 (hc : X.calm = true) : CallR X (.builtin "min") (rdC L (g2 gMin2)) := cr2 fun pins s σ H v w us Q ι S x y I r rp rx ry o => by
  cases x with
  | int i =>
    cases y with
    | int j =>
      cases rx
      cases ry
      exact call_min2 hc pins s σ H _ us Q I r ⟨i, j, rfl, o ι H _ (Ext.refl _ _) rp (.int _)⟩
    | _ => exact o.elim
  | _ => exact o.elim
theorem cm_max2 (hc : X.calm = true) : CallR X (.builtin "max") (rdC L (g2 gMax2)) := cr2 fun pins s σ H v w us Q ι S x y I r rp rx ry o => by
  cases x with
  | int i =>
    cases y with
    | int j =>
      cases rx
      cases ry
      exact call_max2 hc pins s σ H _ us Q I r ⟨i, j, rfl, o ι H _ (Ext.refl _ _) rp (.int _)⟩
    | _ => exact o.elim
  | _ => exact o.elim
theorem nxMin2 : ∀ x y S, NoX (gMin2 x y S) := fun x y S n S' e => by cases x <;> cases y <;> cases e
theorem nxMax2 : ∀ x y S, NoX (gMax2 x y S) := fun x y S n S' e => by cases x <;> cases y <;> cases e
end
end Sx
end
/-! Sy1: what a mirror does, by weakest preconditions. -/
noncomputable section
namespace Sx
open PySem L2
def wE {α : Type} (r : Res α) (Q : α → Sto → Prop) : Prop := match r with
  | .ok a S => Q a S
  | _ => False
structure Po where
  nx : Sg → Sto → Prop := fun _ _ => False
  rt : VV → Sto → Prop := fun _ _ => False
  bk : Sg → Sto → Prop := fun _ _ => False
  ct : Sg → Sto → Prop := fun _ _ => False
def wS (r : SR) (P : Po) : Prop := match r with
  | .nx σ S => P.nx σ S
  | .rt v S => P.rt v S
  | .bk σ S => P.bk σ S
  | .ct σ S => P.ct σ S
  | _ => False
section
variable {α β : Type} {P : Po} {Q : VV → Sto → Prop} {σ : Sg} {S : Sto}
theorem wE_ok {a : α} {Q : α → Sto → Prop} : wE (.ok a S) Q = Q a S := (rfl)
theorem wE_fail {Q : α → Sto → Prop} : wE (.fail) Q = False := (rfl)
theorem wE_bind {r : Res α} {k : α → Sto → Res β} {Q : β → Sto → Prop} : wE (r.bind k) Q = wE r fun a S => wE (k a S) Q := by cases r <;> rfl
theorem wE_if {c : Prop} [Decidable c] {a b : Res α} {Q : α → Sto → Prop} : wE (if c then a else b) Q = if c then wE a Q else wE b Q := by split <;> rfl
theorem wE_mono {r : Res α} {Q Q' : α → Sto → Prop} (h : wE r Q) (k : ∀ a S, Q a S → Q' a S) : wE r Q' := by
  cases r with
  | ok a S => exact k _ _ h
  | exc n S => exact h
  | fail => exact h
theorem wS_mono {r : SR} {P P' : Po} (h : wS r P) (h1 : ∀ σ S, P.nx σ S → P'.nx σ S) (h2 : ∀ v S, P.rt v S → P'.rt v S) (h3 : ∀ σ S, P.bk σ S → P'.bk σ S) (h4 : ∀ σ S, P.ct σ S → P'.ct σ S) : wS r P' := by
  cases r with
  | nx σ S => exact h1 _ _ h
  | rt v S => exact h2 _ _ h
  | bk σ S => exact h3 _ _ h
  | ct σ S => exact h4 _ _ h
  | exc n σ S => exact h
  | fail => exact h
theorem wE_ex {r : Res α} {Q : α → Sto → Prop} (h : wE r Q) : ∃ a S, r = .ok a S ∧ Q a S := by
  cases r with
  | ok a S => exact ⟨a, S, rfl, h⟩
  | exc n S => exact h.elim
  | fail => exact h.elim
/-! statements -/
theorem wS_nx : wS (.nx σ S) P = P.nx σ S := (rfl)
theorem wS_rt {v : VV} : wS (.rt v S) P = P.rt v S := (rfl)
theorem wS_bk : wS (.bk σ S) P = P.bk σ S := (rfl)
theorem wS_ct : wS (.ct σ S) P = P.ct σ S := (rfl)
theorem wS_fail : wS .fail P = False := (rfl)
theorem wS_if {c : Prop} [Decidable c] {a b : SR} : wS (if c then a else b) P = if c then wS a P else wS b P := by split <;> rfl
theorem wS_toS {r : Res VV} {k : VV → Sto → SR} : wS (r.toS σ k) P = wE r fun a S => wS (k a S) P := by cases r <;> rfl
theorem wS_toT {r : Res Bool} {k : Bool → Sto → SR} : wS (r.toT σ k) P = wE r fun a S => wS (k a S) P := by cases r <;> rfl
theorem wS_andThen {r : SR} {k : Sg → Sto → SR} : wS (r.andThen k) P = wS r { P with nx := fun σ S => wS (k σ S) P } := by cases r <;> rfl
theorem wS_nxo {r : SR} : wS r.nxo P = wS r { nx := P.nx } := by cases r <;> rfl
theorem wS_turn {r : SR} {k : Sg → Sto → SR} : wS (r.turn k) P = wS r { nx := fun σ S => wS (k σ S) P, ct := fun σ S => wS (k σ S) P, bk := P.nx, rt := P.rt } := by cases r <;> rfl
theorem wE_fin {r : SR} : wE r.fin Q = wS r { nx := fun _ S => Q .non S, rt := Q } := by cases r <;> rfl
theorem wS_seq {a b : SM} : wS (mSeq a b σ S) P = wS (a σ S) { P with nx := fun σ S => wS (b σ S) P } := wS_andThen
theorem wS_next : wS (mNext σ S) P = P.nx σ S := (rfl)
theorem wS_brk : wS (mBrk σ S) P = P.bk σ S := (rfl)
theorem wS_cont : wS (mCt σ S) P = P.ct σ S := (rfl)
theorem wS_drop {e : EM} : wS (mDrop e σ S) P = wE (e σ S) fun _ S => P.nx σ S := wS_toS
theorem wS_ret {e : EM} : wS (mRet e σ S) P = wE (e σ S) P.rt := wS_toS
theorem wS_retN : wS (mRetN σ S) P = P.rt .non S := (rfl)
theorem wS_ifS {t : TM} {a b : SM} : wS (mIfS t a b σ S) P = wE (t σ S) fun c S => if c = true then wS (a σ S) P else wS (b σ S) P := by
  unfold mIfS
  rw [wS_toT]
  congr 1
  funext c S
  split <;> rfl
theorem wS_asg {e : EM} {g : GM} : wS (mAsg e g σ S) P = wE (e σ S) fun x S => wS (g x σ S) { nx := P.nx } := by
  unfold mAsg
  rw [wS_toS]
  congr 1
  funext x S
  exact wS_nxo
theorem wS_gname {x : VV} {i : Nat} : wS (gmName i x σ S) P = P.nx (σ.set i (some x)) S := (rfl)
theorem wS_gsub {x : VV} {o i : EM} : wS (gmSub o i x σ S) P = wE (o σ S) fun a S => wE (i σ S) fun k S => wS (optS (setS a k x S) σ) P := by
  unfold gmSub
  rw [wS_toS]
  congr 1
  funext a S
  exact wS_toS
theorem wS_gtup {n : Nat} {g : GMs} {xs : List VV} (h : xs.length = n) : wS (gmTup n g (.tup xs) σ S) P = wS (g xs σ S) P := by
  show wS (if xs.length = n then g xs σ S else .fail) P = _
  rw [if_pos h]
theorem wS_gnil : wS (gmNil [] σ S) P = P.nx σ S := (rfl)
theorem wS_gcons {x : VV} {xs : List VV} {g : GM} {r : GMs} : wS (gmCons g r (x :: xs) σ S) P = wS (g x σ S) { P with nx := fun σ S => wS (r xs σ S) P } := wS_andThen
theorem wS_aug {i : Nat} {g : VV → VV → Sto → Res VV} {e : EM} {x : VV} (h : σ[i]? = some (some x)) : wS (mAug i g e σ S) P = wE (e σ S) fun y S => wE (g x y S) fun z S => P.nx (σ.set i (some z)) S := by
  unfold mAug
  rw [h]
  dsimp only
  rw [wS_toS]
  congr 1
  funext a S
  exact wS_toS
theorem wS_augI {g : VV → VV → Sto → Res VV} {o i e : EM} : wS (mAugI g o i e σ S) P = wE (o σ S) fun a S => wE (i σ S) fun k S => wE (gGet a k S) fun x S => wE (e σ S) fun y S => wE (g x y S) fun z S => wS (optS (setS a k z S) σ) P := by
  unfold mAugI
  rw [wS_toS]
  congr 1
  funext a S
  rw [wS_toS]
  congr 1
  funext a S
  rw [wS_toS]
  congr 1
  funext a S
  rw [wS_toS]
  congr 1
  funext a S
  rw [wS_toS]
/-! expressions -/
theorem wE_V {i : Nat} {x : VV} (h : σ[i]? = some (some x)) : wE (mV i σ S) Q = Q x S := by
  unfold mV
  rw [h]
  rfl
theorem wE_C {x : VV} : wE (mC x σ S) Q = Q x S := (rfl)
theorem wE_nil {Q : List VV → Sto → Prop} : wE (mNil σ S) Q = Q [] S := (rfl)
theorem wE_cons {a : EM} {r : AM} {Q : List VV → Sto → Prop} : wE (mCons a r σ S) Q = wE (a σ S) fun x S => wE (r σ S) fun xs S => Q (x :: xs) S := by
  unfold mCons
  rw [wE_bind]
  congr 1
  funext x S
  rw [wE_bind]
  rfl
theorem wE_tup {a : AM} : wE (mTup a σ S) Q = wE (a σ S) fun xs S => if xs.length ≤ 100000 then Q (.tup xs) S else False := by
  unfold mTup
  rw [wE_bind]
  congr 1
  funext x S
  exact wE_if
theorem wE_lst {a : AM} : wE (mLst a σ S) Q = wE (a σ S) fun xs S => if xs.length ≤ 100000 then Q (.ref S.length) (S ++ [.lst xs]) else False := by
  unfold mLst
  rw [wE_bind]
  congr 1
  funext x S
  exact wE_if
theorem wE_op {g : VV → VV → Sto → Res VV} {a b : EM} : wE (mOp g a b σ S) Q = wE (a σ S) fun x S => wE (b σ S) fun y S => wE (g x y S) Q := by
  unfold mOp
  rw [wE_bind]
  congr 1
  funext x S
  exact wE_bind
theorem wE_un {g : VV → Sto → Res VV} {a : EM} : wE (mUn g a σ S) Q = wE (a σ S) fun x S => wE (g x S) Q := wE_bind
theorem wE_cb {g : List VV → Sto → Res VV} {a : AM} : wE (mCB g a σ S) Q = wE (a σ S) fun x S => wE (g x S) Q := wE_bind
theorem wE_isi {u : String} {a : EM} : wE (mIsi u a σ S) Q = wE (a σ S) fun x S => wE (gIsi u x S) Q := wE_bind
theorem wE_isiT {us : List String} {a : EM} : wE (mIsiT us a σ S) Q = wE (a σ S) fun x S => wE (gIsiT us x S) Q := wE_bind
theorem wE_call {m : FM} {a : AM} : wE (mCall m a σ S) Q = wE (a σ S) fun x S => wE (m x S) Q := wE_bind
theorem wE_g1 {g : VV → Sto → Res VV} {x : VV} : wE (g1 g [x] S) Q = wE (g x S) Q := (rfl)
theorem wE_g2 {g : VV → VV → Sto → Res VV} {x y : VV} : wE (g2 g [x, y] S) Q = wE (g x y S) Q := (rfl)
def isB (x : VV) (Q : Bool → Prop) : Prop := match x with
  | .bl b => Q b
  | _ => False
theorem isB_bl {b : Bool} {Q : Bool → Prop} : isB (.bl b) Q = Q b := (rfl)
theorem wE_tst {a : EM} {Q : Bool → Sto → Prop} : wE (mTst a σ S) Q = wE (a σ S) fun x S => isB x fun b => Q b S := by
  unfold mTst
  rw [wE_bind]
  congr 1
  funext x S
  cases x <;> rfl
theorem wE_not {a : TM} {Q : Bool → Sto → Prop} : wE (mNot a σ S) Q = wE (a σ S) fun b S => Q (!b) S := wE_bind
theorem wE_and {a b : TM} {Q : Bool → Sto → Prop} : wE (mAnd a b σ S) Q = wE (a σ S) fun c S => if c = true then wE (b σ S) Q else Q false S := by
  unfold mAnd
  rw [wE_bind]
  congr 1
  funext x S
  exact wE_if
theorem wE_or {a b : TM} {Q : Bool → Sto → Prop} : wE (mOr a b σ S) Q = wE (a σ S) fun c S => if c = true then Q true S else wE (b σ S) Q := by
  unfold mOr
  rw [wE_bind]
  congr 1
  funext x S
  exact wE_if
theorem wE_andV {a b : EM} : wE (mAndV a b σ S) Q = wE (a σ S) fun x S => isB x fun c => if c = true then wE (b σ S) Q else Q (.bl false) S := by
  unfold mAndV
  rw [wE_bind]
  congr 1
  funext x S
  cases x with
  | bl c => exact wE_if
  | _ => rfl
theorem wE_orV {a b : EM} : wE (mOrV a b σ S) Q = wE (a σ S) fun x S => isB x fun c => if c = true then Q (.bl true) S else wE (b σ S) Q := by
  unfold mOrV
  rw [wE_bind]
  congr 1
  funext x S
  cases x with
  | bl c => exact wE_if
  | _ => rfl
theorem wE_notV {a : EM} : wE (mNotV a σ S) Q = wE (a σ S) fun x S => isB x fun c => Q (.bl (!c)) S := by
  unfold mNotV
  rw [wE_bind]
  congr 1
  funext x S
  cases x <;> rfl
theorem wE_ifE {t : TM} {a b : EM} : wE (mIf t a b σ S) Q = wE (t σ S) fun c S => if c = true then wE (a σ S) Q else wE (b σ S) Q := by
  unfold mIf
  rw [wE_bind]
  congr 1
  funext x S
  exact wE_if
def isI2 (x y : VV) (Q : Int → Int → Prop) : Prop := match x, y with
  | .int i, .int j => Q i j
  | _, _ => False
theorem isI2_int {i j : Int} {Q : Int → Int → Prop} : isI2 (.int i) (.int j) Q = Q i j := (rfl)
theorem wE_int {f : Int → Int → VV} {i j : Int} : wE (gInt f (.int i) (.int j) S) Q = Q (f i j) S := (rfl)
theorem wE_intC {C : Int → Int → Bool} {f : Int → Int → VV} {i j : Int} (h : C i j = true) : wE (gIntC C f (.int i) (.int j) S) Q = Q (f i j) S := by
  show wE (if C i j = true then _ else _) Q = _
  rw [if_pos h]
  rfl
theorem wE_addI {i j : Int} : wE (gAdd (.int i) (.int j) S) Q = Q (.int (i + j)) S := (rfl)
theorem wE_mulI {i j : Int} (h : cMul i j = true) : wE (gMul (.int i) (.int j) S) Q = Q (.int (i * j)) S := by
  show wE (if cMul i j = true then _ else _) Q = _
  rw [if_pos h]
  rfl
theorem wE_is {neg : Bool} {x : VV} : wE (gIs neg x .non S) Q = Q (.bl (if neg = true then !isNonV x else isNonV x)) S := by
  cases neg <;> rfl
theorem wE_mt {T : String} {g : VV → List VV → Sto → Res VV} {o : EM} {a : AM} : wE (mMt T g o a σ S) Q = wE (o σ S) fun x S => if tyB T S x = true then wE (a σ S) fun xs S => wE (g x xs S) Q else False := by
  unfold mMt
  rw [wE_bind]
  congr 1
  funext x S
  rw [wE_if, wE_bind]
  rfl
theorem wE_mt0 {T : String} {g : VV → List VV → Sto → Res VV} {o : EM} : wE (mMt0 T g o σ S) Q = wE (o σ S) fun x S => if tyB T S x = true then wE (g x [] S) Q else False := by
  unfold mMt0
  rw [wE_bind]
  congr 1
  funext x S
  exact wE_if
theorem wE_part {a : EM} {Q : Option Int → Sto → Prop} : wE (mPart a σ S) Q = wE (a σ S) fun x S => isI2 x (.int 0) fun i _ => Q (some i) S := by
  unfold mPart
  rw [wE_bind]
  congr 1
  funext x S
  cases x <;> rfl
theorem wE_noP {Q : Option Int → Sto → Prop} : wE (mNoP σ S) Q = Q none S := (rfl)
theorem wE_sl {a : EM} {l h : OM} : wE (mSl a l h σ S) Q = wE (a σ S) fun x S => wE (l σ S) fun lo S => wE (h σ S) fun hi S => wE (gSl x lo hi S) Q := by
  unfold mSl
  rw [wE_bind]
  congr 1
  funext x S
  rw [wE_bind]
  congr 1
  funext x S
  exact wE_bind
def chQ (p q : Int → Int → Bool) (c : EM) (σ : Sg) (Q : VV → Sto → Prop) (x y : VV) (S : Sto) : Prop := match x, y with
  | .int i, .int j => if p i j = true then wE (c σ S) fun z S => isI2 (.int j) z fun j k => Q (.bl (q j k)) S else Q (.bl false) S
  | _, _ => False
theorem wE_fn {np n : Nat} {b : SM} {args : List VV} (h : args.length = np) : wE (fnM np n b args S) Q = wS (b (startM n args) S) { nx := fun _ S => Q .non S, rt := Q } := by
  unfold fnM
  rw [if_pos h]
  exact wE_fin
end
end Sx
end
/-! Sy2: loops and blocks, frames. -/
noncomputable section
namespace Sx
open PySem L2
section
variable {α β : Type} {P : Po} {Q : VV → Sto → Prop} {σ : Sg} {S : Sto}
theorem wE_chain {p q : Int → Int → Bool} {a b c : EM} : wE (mChain p q a b c σ S) Q = wE (a σ S) fun x S => wE (b σ S) fun y S => isI2 x y fun i j => if p i j = true then wE (c σ S) fun z S => isI2 z (.int 0) fun k _ => Q (.bl (q j k)) S else Q (.bl false) S := by
  unfold mChain
  rw [wE_bind]
  congr 1
  funext x S
  rw [wE_bind]
  congr 1
  funext y S
  cases x with
  | int i =>
    cases y with
    | int j =>
      show wE (if p i j = true then _ else _) Q = if p i j = true then _ else _
      rw [wE_if]
      split
      · rw [wE_bind]
        congr 1
        funext z S
        cases z <;> rfl
      · rfl
    | _ => rfl
  | _ => rfl
theorem wS_for {m : IM} {g : GM} {b : SM} : wS (mFor m g b σ S) P = wE (m σ S) fun src S => wS (forL src.ok g b src.items σ S) P := by
  unfold mFor
  cases m σ S <;> rfl
theorem wE_src {g : Sto → List VV → Option Src} {a : AM} {Q : Src → Sto → Prop} : wE (mSrc g a σ S) Q = wE (a σ S) fun xs S => wE (optI (g S xs) S) Q := wE_bind
theorem wE_seqI {a : EM} {Q : Src → Sto → Prop} : wE (mSeqI a σ S) Q = wE (a σ S) fun x S => wE (optI (srcOf S x) S) Q := by
  unfold mSeqI
  rw [wE_bind]
  rfl
theorem wE_optI {s : Src} {Q : Src → Sto → Prop} : wE (optI (some s) S) Q = Q s S := (rfl)
theorem forL_inv {ok : Sto → Prop} {g : GM} {b : SM} {items : List VV} (I : Nat → Sg → Sto → Prop) (h0 : I 0 σ S) (hok : ∀ i σ S, I i σ S → ok S)
    (step : ∀ i x σ S, items[i]? = some x → I i σ S → wS (g x σ S) { nx := fun σ S => wS (b σ S) { nx := I (i + 1), ct := I (i + 1), bk := P.nx, rt := P.rt } })
    (fin : ∀ σ S, I items.length σ S → P.nx σ S) : wS (forL ok g b items σ S) P := by
  suffices h : ∀ (k i : Nat) (σ : Sg) (S : Sto), i + k = items.length → I i σ S → wS (forL ok g b (items.drop i) σ S) P by
    have := h items.length 0 σ S (Nat.zero_add _) h0
    rwa [List.drop_zero] at this
  intro k
  induction k with
  | zero =>
    intro i σ S hi hI
    have hl : i = items.length := hi
    rw [List.drop_eq_nil_of_le (by omega)]
    unfold forL
    rw [if_pos (hok i σ S hI)]
    exact fin σ S (hl ▸ hI)
  | succ k ih =>
    intro i σ S hi hI
    have hlt : i < items.length := by omega
    rw [List.drop_eq_getElem_cons hlt]
    unfold forL
    rw [if_pos (hok i σ S hI), wS_turn, wS_andThen, wS_nxo]
    have hx : items[i]? = some items[i] := List.getElem?_eq_getElem hlt
    refine wS_mono (step i _ σ S hx hI) (fun σ S h => ?_) (fun _ _ z => z) (fun _ _ z => z) (fun _ _ z => z)
    refine wS_mono h (fun σ S h => ?_) (fun _ _ z => z) (fun _ _ z => z) (fun σ S h => ?_)
    · exact ih (i + 1) σ S (by omega) h
    · exact ih (i + 1) σ S (by omega) h
theorem while_inv {t : TM} {b : SM} (I : Nat → Sg → Sto → Prop)
    (step : ∀ k σ S, I k σ S → wE (t σ S) fun c S => if c = true then 0 < k ∧ wS (b σ S) { nx := I (k - 1), ct := I (k - 1), bk := P.nx, rt := P.rt } else P.nx σ S) :
    ∀ (n k : Nat) (σ : Sg) (S : Sto), k < n → I k σ S → wS (mWhile t b n σ S) P
  | 0, k, _, _, h, _ => absurd h (Nat.not_lt_zero _)
  | n + 1, k, σ, S, h, hI => by
    show wS ((t σ S).toT σ fun c S1 => if c = true then (b σ S1).turn (mWhile t b n) else .nx σ S1) P
    rw [wS_toT]
    refine wE_mono (step k σ S hI) fun c S1 hc => ?_
    rw [wS_if]
    split
    · rename_i e
      rw [if_pos e] at hc
      rw [wS_turn]
      refine wS_mono hc.2 (fun σ S h1 => ?_) (fun _ _ z => z) (fun _ _ z => z) (fun σ S h1 => ?_)
      · exact while_inv I step n (k - 1) σ S (by omega) h1
      · exact while_inv I step n (k - 1) σ S (by omega) h1
    · rename_i e
      rw [if_neg e] at hc
      exact hc
def wG (r : SR) (Q : Sg → Sto → Prop) : Prop := wS r { nx := Q }
theorem go_w {r : SR} {k : Sg → Sto → Res VV} : wE (r.go k) Q = wG r fun σ S => wE (k σ S) Q := by cases r <;> rfl
theorem bindF_w {r : Res α} {k : α → Sto → Res VV} : wE (r.bindF k) Q = wE r fun a S => wE (k a S) Q := by cases r <;> rfl
theorem lcL_inv {ok : Sto → Prop} {g : GM} {t : TM} {e : EM} {D : Nat} {items : List VV} (I : Nat → Sto → Prop) (h0 : I 0 S) (hok : ∀ i S, I i S → ok S)
    (step : ∀ i x S, items[i]? = some x → I i S → wG (g x σ S) fun σ2 S2 => wE (t σ2 S2) fun c S3 => if c = true then wE (e σ2 S3) fun y S4 => ∃ acc, S4[D]? = some (.lst acc) ∧ acc.length < 100000 ∧ I (i + 1) (S4.set D (.lst (acc ++ [y]))) else I (i + 1) S3)
    (fin : ∀ S, I items.length S → Q (.ref D) S) : wE (lcL ok g t e σ D items S) Q := by
  suffices h : ∀ (k i : Nat) (S : Sto), i + k = items.length → I i S → wE (lcL ok g t e σ D (items.drop i) S) Q by
    have := h items.length 0 S (Nat.zero_add _) h0
    rwa [List.drop_zero] at this
  intro k
  induction k with
  | zero =>
    intro i S hi hI
    have hl : i = items.length := hi
    rw [List.drop_eq_nil_of_le (by omega)]
    unfold lcL
    rw [if_pos (hok i S hI)]
    exact fin S (hl ▸ hI)
  | succ k ih =>
    intro i S hi hI
    have hlt : i < items.length := by omega
    rw [List.drop_eq_getElem_cons hlt]
    unfold lcL
    rw [if_pos (hok i S hI), go_w]
    have hx : items[i]? = some items[i] := List.getElem?_eq_getElem hlt
    refine wS_mono (step i _ S hx hI) (fun σ2 S2 h => ?_) (fun _ _ z => z) (fun _ _ z => z) (fun _ _ z => z)
    dsimp only at h ⊢
    rw [bindF_w]
    refine wE_mono h fun c S3 h3 => ?_
    rw [wE_if]
    split
    · rename_i ec
      rw [if_pos ec] at h3
      rw [bindF_w]
      refine wE_mono h3 fun y S4 ⟨acc, h5, h6, h7⟩ => ?_
      have : appS S4 D y = some (S4.set D (.lst (acc ++ [y]))) := by
        unfold appS
        rw [h5]
        show (if acc.length < 100000 then _ else _) = _
        rw [if_pos h6]
      rw [this]
      exact ih (i + 1) _ (by omega) h7
    · rename_i ec
      rw [if_neg ec] at h3
      exact ih (i + 1) _ (by omega) h3
theorem wE_lc {m : IM} {g : GM} {t : TM} {e : EM} {own : List Nat} : wE (mLc m g t e own σ S) Q = wE (m σ S) fun src S => wE (lcL src.ok g t e (wipeM σ own) S.length src.items (S ++ [.lst []])) Q := wE_bind
theorem wE_yes {Q : Bool → Sto → Prop} : wE (mYes σ S) Q = Q true S := (rfl)
theorem get_last {S : Sto} {o : OO} : (S ++ [o])[S.length]? = some o := by simp
theorem set_last {S : Sto} {o o' : OO} : (S ++ [o]).set S.length o' = S ++ [o'] := by simp
/-- a block whose items lay nothing -/
theorem lc_flat {ok : Sto → Prop} {items : List VV} {g : GM} {t : TM} {e : EM} {f : VV → VV} (hl : items.length ≤ 100000) (hok : ∀ acc, ok (S ++ [.lst acc]))
    (step : ∀ x acc, x ∈ items → wG (g x σ (S ++ [.lst acc])) fun σ2 S2 => S2 = S ++ [.lst acc] ∧ wE (t σ2 S2) fun c S3 => c = true ∧ S3 = S2 ∧ wE (e σ2 S3) fun y S4 => y = f x ∧ S4 = S3)
    (h : Q (.ref S.length) (S ++ [.lst (items.map f)])) : wE (lcL ok g t e σ S.length items (S ++ [.lst []])) Q := by
  refine lcL_inv (fun i S' => S' = S ++ [.lst ((items.take i).map f)]) rfl (fun i S' e => ?_) (fun i x S' hx e => ?_) fun S' e => ?_
  · rw [e]; exact hok _
  · subst e
    obtain ⟨hi, hxe⟩ := List.getElem?_eq_some_iff.mp hx
    refine wS_mono (step x _ (List.mem_of_getElem? hx)) (fun σ2 S2 ⟨e2, h2⟩ => wE_mono h2 fun c S3 ⟨e3, e4, h3⟩ => ?_) (fun _ _ z => z) (fun _ _ z => z) (fun _ _ z => z)
    rw [if_pos e3]
    refine wE_mono h3 fun y S4 ⟨e5, e6⟩ => ?_
    subst e6 e4 e2 e5
    refine ⟨_, get_last, ?_, ?_⟩
    · rw [List.length_map, List.length_take]; omega
    · rw [set_last, List.take_add_one, List.map_append, hx]
      rfl
  · rw [e, List.take_length]
    exact h
/-! ### what stays -/
/-- the store may change at M and grow -/
def Fr (M : Nat → Prop) (S S' : Sto) : Prop := S.length ≤ S'.length ∧ ∀ n, n < S.length → ¬ M n → S'[n]? = S[n]?
abbrev No : Nat → Prop := fun _ => False
theorem Fr.refl {M : Nat → Prop} (S : Sto) : Fr M S S := ⟨Nat.le_refl _, fun _ _ _ => rfl⟩
theorem Fr.trans {M : Nat → Prop} {S S1 S2 : Sto} (a : Fr M S S1) (b : Fr M S1 S2) : Fr M S S2 := ⟨Nat.le_trans a.1 b.1, fun n h m => (b.2 n (Nat.lt_of_lt_of_le h a.1) m).trans (a.2 n h m)⟩
theorem Fr.wk {M M' : Nat → Prop} {S S' : Sto} (a : Fr M S S') (h : ∀ n, n < S.length → M n → M' n) : Fr M' S S' := ⟨a.1, fun n hn m => a.2 n hn fun z => m (h n hn z)⟩
theorem Fr.app {M : Nat → Prop} {S T : Sto} : Fr M S (S ++ T) := ⟨by simp, fun n h _ => List.getElem?_append_left h⟩
theorem Fr.set {M : Nat → Prop} {S : Sto} {n : Nat} {o : OO} (h : M n) : Fr M S (S.set n o) := ⟨by simp, fun m hm z => List.getElem?_set_ne fun e : n = m => z (e ▸ h)⟩
theorem Fr.at_ {M : Nat → Prop} {S S' : Sto} {n : Nat} {o : OO} (a : Fr M S S') (h : S[n]? = some o) (m : ¬ M n) : S'[n]? = some o := (a.2 n (List.getElem?_eq_some_iff.mp h).1 m).trans h
/-- what is changed was not there -/
theorem Fr.new {M : Nat → Prop} {S S1 S2 : Sto} (a : Fr M S S1) (b : Fr (fun n => S.length ≤ n ∨ M n) S1 S2) : Fr M S S2 :=
  ⟨Nat.le_trans a.1 b.1, fun n h m => (b.2 n (Nat.lt_of_lt_of_le h a.1) fun z => z.elim (fun z => absurd h (Nat.not_lt_of_le z)) m).trans (a.2 n h m)⟩
theorem lt_of_at {S : Sto} {n : Nat} {o : OO} (h : S[n]? = some o) : n < S.length := (List.getElem?_eq_some_iff.mp h).1
theorem set_at {S : Sto} {n : Nat} {o o' : OO} (h : S[n]? = some o') : (S.set n o)[n]? = some o := List.getElem?_set_self (lt_of_at h)
end
end Sx
end
/-! Sy3: lists by places, the tactic wp. -/
noncomputable section
namespace Sx
open PySem L2
section
variable {Q : VV → Sto → Prop} {S : Sto} {P : Po} {σ : Sg}
theorem wE_V0 {x : VV} {r : Sg} : wE (mV 0 (some x :: r) S) Q = Q x S := (rfl)
theorem wE_V1 {i : Nat} {o : Option VV} {r : Sg} : wE (mV (i + 1) (o :: r) S) Q = wE (mV i r S) Q := (rfl)
theorem wE_gt {i j : Int} : wE (gGt (.int i) (.int j) S) Q = Q (.bl (decide (j < i))) S := (rfl)
theorem wE_optR {x : VV} : wE (optR (some x) S) Q = Q x S := (rfl)
theorem wS_optS {T : Sto} : wS (optS (some T) σ) P = P.nx σ T := (rfl)
theorem wE_fdiv {i j : Int} (h : j ≠ 0) (h2 : j.natAbs < 1073741824) : wE (gFdiv (.int i) (.int j) S) Q = Q (.int (i.fdiv j)) S := wE_intC (by unfold cFdiv; simp [h, h2])
theorem wE_mod {i j : Int} (h : j ≠ 0) : wE (gMod (.int i) (.int j) S) Q = Q (.int (i.fmod j)) S := wE_intC (by unfold cMod; simp [h])
theorem wE_pow {i j : Int} (h : 0 ≤ j) (h1 : j ≤ 1000000) (h2 : i.natAbs < 2 ^ 64) : wE (gPow (.int i) (.int j) S) Q = Q (.int (i ^ j.toNat)) S := wE_intC (by unfold cPow; simp [h, h1]; exact h2)
/-- x[y] for lists -/
def wIx (xs : List VV) (y : VV) (Q : VV → Prop) : Prop := match ixL xs y with
  | some x => Q x
  | none => False
theorem wIx0 {x : VV} {r : List VV} {Q : VV → Prop} : wIx (x :: r) (.int 0) Q = Q x := by unfold wIx ixL atI ixN; simp
theorem wIx_nat {xs : List VV} {i : Int} {x : VV} {Q : VV → Prop} (h0 : 0 ≤ i) (h : xs[i.toNat]? = some x) : wIx xs (.int i) Q = Q x := by
  have hl := (List.getElem?_eq_some_iff.mp h).1
  have e : atI xs i = some x := by
    unfold atI ixN
    rw [if_pos h0, if_pos (by omega)]
    exact h
  unfold wIx ixL
  dsimp only
  rw [e]
theorem wIx1 {x y : VV} {r : List VV} {Q : VV → Prop} : wIx (x :: y :: r) (.int 1) Q = Q y := wIx_nat (by decide) rfl
theorem wIx2 {x y z : VV} {r : List VV} {Q : VV → Prop} : wIx (x :: y :: z :: r) (.int 2) Q = Q z := wIx_nat (by decide) rfl
theorem wIx3 {x y z t : VV} {r : List VV} {Q : VV → Prop} : wIx (x :: y :: z :: t :: r) (.int 3) Q = Q t := wIx_nat (by decide) rfl
def ixW (o : Option OO) (n : Nat) (y : VV) (S : Sto) (Q : VV → Sto → Prop) : Prop := match o with
  | some (.lst xs) => wIx xs y fun x => Q x S
  | _ => wE (gIxR n y S) Q
theorem wE_ix {n : Nat} {y : VV} : wE (gIx (.ref n) y S) Q = ixW (S[n]?) n y S Q := by
  show wE (gIxR n y S) Q = _
  unfold ixW
  split
  · rename_i xs h
    unfold gIxR wIx
    rw [h]
    dsimp only
    cases ixL xs y <;> rfl
  · rfl
theorem ixW_lst {xs : List VV} {n : Nat} {y : VV} : ixW (some (.lst xs)) n y S Q = wIx xs y fun x => Q x S := (rfl)
theorem wE_ixT {xs : List VV} {y : VV} : wE (gIx (.tup xs) y S) Q = wIx xs y fun x => Q x S := by
  show wE (optR (ixL xs y) S) Q = _
  unfold wIx
  cases ixL xs y <;> rfl
/-- x[y] = v for lists -/
def wSt (xs : List VV) (y v : VV) (Q : List VV → Prop) : Prop := match ixOf xs y with
  | some j => Q (xs.set j v)
  | none => False
theorem wSt_nat {xs : List VV} {i : Int} {v : VV} {Q : List VV → Prop} (h0 : 0 ≤ i) (h : i < xs.length) : wSt xs (.int i) v Q = Q (xs.set i.toNat v) := by
  unfold wSt ixOf ixN
  dsimp only
  rw [if_pos h0, if_pos h]
theorem wSt0 {x v : VV} {r : List VV} {Q : List VV → Prop} : wSt (x :: r) (.int 0) v Q = Q (v :: r) := wSt_nat (by decide) (by simp)
theorem wSt1 {x y v : VV} {r : List VV} {Q : List VV → Prop} : wSt (x :: y :: r) (.int 1) v Q = Q (x :: v :: r) := wSt_nat (by decide) (by simp; omega)
theorem wSt2 {x y z v : VV} {r : List VV} {Q : List VV → Prop} : wSt (x :: y :: z :: r) (.int 2) v Q = Q (x :: y :: v :: r) := wSt_nat (by decide) (by simp; omega)
theorem wSt3 {x y z t v : VV} {r : List VV} {Q : List VV → Prop} : wSt (x :: y :: z :: t :: r) (.int 3) v Q = Q (x :: y :: z :: v :: r) := wSt_nat (by decide) (by simp; omega)
def stW (o : Option OO) (n : Nat) (y v : VV) (S : Sto) (σ : Sg) (P : Po) : Prop := match o with
  | some (.lst xs) => wSt xs y v fun ys => P.nx σ (S.set n (.lst ys))
  | _ => wS (optS (setR n y v S) σ) P
theorem wS_st {n : Nat} {y v : VV} : wS (optS (setS (.ref n) y v S) σ) P = stW (S[n]?) n y v S σ P := by
  show wS (optS (setR n y v S) σ) P = _
  unfold stW
  split
  · rename_i xs h
    unfold setR wSt
    rw [h]
    dsimp only
    cases ixOf xs y <;> rfl
  · rfl
theorem stW_lst {xs : List VV} {n : Nat} {y v : VV} : stW (some (.lst xs)) n y v S σ P = wSt xs y v fun ys => P.nx σ (S.set n (.lst ys)) := (rfl)
/-- the store of x[y] op= -/
def wGe (xs : List VV) (y : VV) (Q : VV → Prop) : Prop := match y with
  | .int i => InR 0 i 1000000 ∧ ∃ x, xs[i.toNat]? = some x ∧ Q x
  | _ => False
theorem wGe1 {x y : VV} {r : List VV} {Q : VV → Prop} : wGe (x :: y :: r) (.int 1) Q = Q y := by
  refine propext ⟨fun ⟨_, z, h1, h2⟩ => ?_, fun h => ⟨⟨by decide, by decide⟩, y, rfl, h⟩⟩
  cases h1
  exact h2
def gtW (o : Option OO) (n : Nat) (y : VV) (S : Sto) (Q : VV → Sto → Prop) : Prop := match o with
  | some (.lst xs) => wGe xs y fun x => Q x S
  | _ => wE (gGetR n y S) Q
theorem wE_get {n : Nat} {y : VV} : wE (gGet (.ref n) y S) Q = gtW (S[n]?) n y S Q := by
  show wE (gGetR n y S) Q = _
  unfold gtW
  split
  · rename_i xs h
    unfold gGetR
    rw [h]
    cases y with
    | int i =>
      show wE (if InR 0 i 1000000 then optR xs[i.toNat]? S else .fail) Q = (InR 0 i 1000000 ∧ ∃ x, xs[i.toNat]? = some x ∧ Q x S)
      by_cases c : InR 0 i 1000000
      · rw [if_pos c]
        cases e : xs[i.toNat]? with
        | none => exact propext ⟨fun h => h.elim, fun ⟨_, x, h, _⟩ => nomatch h⟩
        | some x => exact propext ⟨fun h => ⟨c, x, rfl, h⟩, fun ⟨_, x', h, k⟩ => by cases h; exact k⟩
      · rw [if_neg c]
        exact propext ⟨fun h => h.elim, fun ⟨a, _⟩ => c a⟩
    | _ => rfl
  · rfl
theorem gtW_lst {xs : List VV} {n : Nat} {y : VV} : gtW (some (.lst xs)) n y S Q = wGe xs y fun x => Q x S := (rfl)
theorem wE_ge {i j : Int} : wE (gGe (.int i) (.int j) S) Q = Q (.bl (decide (j ≤ i))) S := (rfl)
theorem wE_lenL {n : Nat} {xs : List VV} (h : S[n]? = some (.lst xs)) : wE (gLen (.ref n) S) Q = Q (.int (xs.length : Nat)) S := by
  show wE (optR (((S[n]?).bind lenO).map fun n => .int (n : Nat)) S) Q = _
  rw [h]
  rfl
end
end Sx
end
/-! Sy4: built-ins and methods at places, blocks that lay lists. -/
noncomputable section
namespace Sx
open PySem L2
section
variable {Q : VV → Sto → Prop} {S : Sto} {P : Po} {σ : Sg} {n : Nat} {xs : List VV}
theorem lstAt_ref (h : S[n]? = some (.lst xs)) : lstAt S (.ref n) = some xs := by
  unfold lstAt
  dsimp only
  rw [h]
theorem seqAt_ref (h : S[n]? = some (.lst xs)) : seqAt S (.ref n) = some xs := lstAt_ref h
theorem srcOf_ref (h : S[n]? = some (.lst xs)) : srcOf S (.ref n) = some ⟨xs, fun S => S[n]? = some (.lst xs)⟩ := by
  unfold srcOf
  dsimp only
  rw [h]
theorem lstSrc_ref (h : S[n]? = some (.lst xs)) : lstSrc S (.ref n) = some ⟨xs, fun S => S[n]? = some (.lst xs)⟩ := by
  unfold lstSrc
  dsimp only
  rw [h]
theorem wE_list (h : S[n]? = some (.lst xs)) : wE (gList (.ref n) S) Q = Q (.ref S.length) (S ++ [.lst xs]) := by
  unfold gList
  rw [seqAt_ref h]
  rfl
theorem wE_sorted (h : S[n]? = some (.lst xs)) (c : canSort S xs) : wE (gSorted (.ref n) S) Q = Q (.ref S.length) (S ++ [.lst (xs.mergeSort (PySem.W.dataLe false (datD S)))]) := by
  unfold gSorted optL
  rw [lstAt_ref h]
  dsimp only
  rw [if_pos c]
  rfl
theorem wE_allB {bs : List Bool} (h : S[n]? = some (.lst (bs.map VV.bl))) : wE (gAll (.ref n) S) Q = Q (.bl (bs.all id)) S := by
  have e : bls (bs.map VV.bl) = some bs := by
    clear h
    induction bs with
    | nil => rfl
    | cons b r ih =>
      show (bls (r.map VV.bl)).map (b :: ·) = _
      rw [ih]
      rfl
  unfold gAll
  rw [lstAt_ref h]
  show wE (optR ((bls (bs.map VV.bl)).map _) S) Q = _
  rw [e]
  rfl
theorem tyB_ref (h : S[n]? = some (.lst xs)) : tyB "list" S (.ref n) = true := by
  unfold tyB
  dsimp only
  rw [h]
  rfl
theorem wE_lm {lm : List VV → List VV → Option (VV × List VV)} {args ys : List VV} {r : VV} (h : S[n]? = some (.lst xs)) (e : lm xs args = some (r, ys)) : wE (gLm lm (.ref n) args S) Q = Q r (S.set n (.lst ys)) := by
  unfold gLm lmR
  dsimp only
  rw [h]
  show wE (optP ((lm xs args).map _)) Q = _
  rw [e]
  rfl
theorem wE_append {y : VV} (h : S[n]? = some (.lst xs)) (hl : xs.length < 100000) : wE (gLm lmAppend (.ref n) [y] S) Q = Q .non (S.set n (.lst (xs ++ [y]))) := wE_lm h (by unfold lmAppend; simp [hl])
theorem wE_insert {y : VV} {i : Int} (h : S[n]? = some (.lst xs)) (hl : xs.length < 100000) (h0 : 0 ≤ i) (h1 : i < 1000000) : wE (gLm lmInsert (.ref n) [.int i, y] S) Q = Q .non (S.set n (.lst (xs.take i.toNat ++ [y] ++ xs.drop i.toNat))) := wE_lm h (by unfold lmInsert; dsimp only; rw [if_pos ⟨hl, h0, (by omega : i ≤ 1000000)⟩])
theorem allL_refs {S : Sto} : ∀ {ns : List Nat} {ls : List (List VV)}, (ns.length = ls.length) → (∀ (i n : Nat) (l : List VV), ns[i]? = some n → ls[i]? = some l → S[n]? = some (.lst l)) → allL S (ns.map VV.ref) = some ls
  | [], [], _, _ => rfl
  | [], _ :: _, h, _ => by simp at h
  | _ :: _, [], h, _ => by simp at h
  | n :: ns, l :: ls, h, k => by
    have h0 := k 0 n l rfl rfl
    have ih := allL_refs (S := S) (ns := ns) (ls := ls) (by simpa using h) fun i m l' a b => k (i + 1) m l' (by simpa using a) (by simpa using b)
    show ((S[n]?).bind lstI).bind (fun l => (allL S (ns.map VV.ref)).map (l :: ·)) = _
    rw [h0, ih]
    rfl
theorem wE_sumL {m : Nat} {ns : List Nat} {ls : List (List VV)} {acc : List VV} (h : S[n]? = some (.lst (ns.map VV.ref))) (hm : S[m]? = some (.lst acc)) (hl : ns.length = ls.length) (ha : ∀ (i n : Nat) (l : List VV), ns[i]? = some n → ls[i]? = some l → S[n]? = some (.lst l))
    (c1 : ns.length ≤ 900) (c2 : acc.length ≤ 1000) (c3 : ∀ l ∈ ls, l.length ≤ 1000) (c4 : (acc ++ ls.flatten).length ≤ 100000) (c5 : ns ≠ []) : wE (gSumL (.ref n) (.ref m) S) Q = Q (.ref S.length) (S ++ [.lst (acc ++ ls.flatten)]) := by
  unfold gSumL
  rw [lstAt_ref h]
  have e : refL S (.ref m) = some acc := by
    unfold refL
    dsimp only
    rw [hm]
    rfl
  rw [e]
  show wE (match allL S (ns.map VV.ref) with
    | some ls => sumR (ns.map VV.ref) acc ls (.ref m) S
    | none => .fail) Q = _
  rw [allL_refs hl ha]
  dsimp only
  unfold sumR
  have hne : ns.length ≠ 0 := fun z => c5 (List.length_eq_zero_iff.mp z)
  rw [if_pos ⟨by rw [List.length_map]; exact c1, c2, List.all_eq_true.mpr fun l hl => decide_eq_true (c3 l hl), c4⟩, if_neg (by rw [List.length_map]; exact hne)]
  rfl
theorem wE_addL {m : Nat} {ys : List VV} (h : S[n]? = some (.lst xs)) (h' : S[m]? = some (.lst ys)) (hl : xs.length + ys.length ≤ 100000) : wE (gAdd (.ref n) (.ref m) S) Q = Q (.ref S.length) (S ++ [.lst (xs ++ ys)]) := by
  unfold gAdd
  dsimp only
  rw [h, h']
  dsimp only
  rw [if_pos hl]
  rfl
theorem wE_mulL {k : Int} (h : S[n]? = some (.lst xs)) (h0 : -1000 ≤ k) (h1 : k ≤ 1000) (hl : xs.length ≤ 1000) : wE (gMul (.ref n) (.int k) S) Q = Q (.ref S.length) (S ++ [.lst (List.replicate k.toNat xs).flatten]) := by
  unfold gMul
  dsimp only
  rw [h]
  dsimp only
  rw [if_pos ⟨⟨h0, h1⟩, hl⟩]
  rfl
theorem rng1_nat {k : Nat} (h : k ≤ 1000000) : gRng1 S [.int (k : Int)] = some ⟨(List.range k).map fun i => VV.int (i : Nat), fun _ => True⟩ := by
  unfold gRng1
  dsimp only
  rw [if_pos ⟨by omega, by omega⟩]
  congr 2
  unfold intsF
  refine List.map_congr_left fun i _ => ?_
  rw [Int.zero_add]
theorem rng2_nat {i k : Nat} (h : k ≤ 1000000) (hi : i ≤ 1000000) : gRng2 S [.int (i : Int), .int (k : Int)] = some ⟨(List.range (k - i)).map fun j => VV.int ((i + j : Nat) : Int), fun _ => True⟩ := by
  unfold gRng2
  dsimp only
  rw [if_pos ⟨⟨by omega, by omega⟩, ⟨by omega, by omega⟩⟩]
  congr 2
  unfold intsF
  have e : ((k : Int) - (i : Int)).toNat = k - i := by omega
  rw [e]
  refine List.map_congr_left fun j _ => ?_
  congr 1
end
/-- the store of a block whose items lay one list each, after some of them -/
def laidL (S : Sto) (ls : List (List VV)) : Sto := S ++ (.lst ((List.range ls.length).map fun j => VV.ref (S.length + 1 + j)) :: ls.map .lst)
theorem laidL_len {S : Sto} {ls : List (List VV)} : (laidL S ls).length = S.length + 1 + ls.length := by unfold laidL; simp; omega
theorem laidL_old {S : Sto} {ls : List (List VV)} {n : Nat} (h : n < S.length) : (laidL S ls)[n]? = S[n]? := List.getElem?_append_left h
theorem laidL_D {S : Sto} {ls : List (List VV)} : (laidL S ls)[S.length]? = some (.lst ((List.range ls.length).map fun j => VV.ref (S.length + 1 + j))) := by
  unfold laidL
  rw [List.getElem?_append_right (Nat.le_refl _), Nat.sub_self]
  rfl
theorem laidL_at {S : Sto} {ls : List (List VV)} {i : Nat} {l : List VV} (h : ls[i]? = some l) : (laidL S ls)[S.length + 1 + i]? = some (.lst l) := by
  unfold laidL
  rw [List.getElem?_append_right (by omega), show S.length + 1 + i - S.length = i + 1 by omega, List.getElem?_cons_succ, List.getElem?_map, h]
  rfl
theorem laidL_fr {M : Nat → Prop} {S : Sto} {ls : List (List VV)} : Fr M S (laidL S ls) := Fr.app
theorem laidL_next {S : Sto} {ls : List (List VV)} {l : List VV} :
    (laidL S ls ++ [OO.lst l]).set S.length (OO.lst (((List.range ls.length).map fun j => VV.ref (S.length + 1 + j)) ++ [VV.ref (laidL S ls).length])) = laidL S (ls ++ [l]) := by
  rw [laidL_len]
  unfold laidL
  rw [List.append_assoc, List.set_append_right _ _ (Nat.le_refl _), Nat.sub_self, List.cons_append, List.set_cons_zero, List.length_append, List.map_append]
  simp [List.range_succ]
/-- a block whose items lay one list each -/
theorem lc_lists {Q : VV → Sto → Prop} {S : Sto} {ok : Sto → Prop} {items : List VV} {g : GM} {t : TM} {e : EM} {σ : Sg} {f : VV → List VV} (hl : items.length ≤ 100000) (hok : ∀ ls, ok (laidL S ls))
    (step : ∀ x ls, x ∈ items → wG (g x σ (laidL S ls)) fun σ2 S2 => S2 = laidL S ls ∧ wE (t σ2 S2) fun c S3 => c = true ∧ S3 = S2 ∧ wE (e σ2 S3) fun y S4 => y = .ref S3.length ∧ S4 = S3 ++ [.lst (f x)])
    (h : Q (.ref S.length) (laidL S (items.map f))) : wE (lcL ok g t e σ S.length items (S ++ [.lst []])) Q := by
  refine lcL_inv (fun i S' => S' = laidL S ((items.take i).map f)) ?_ (fun i S' e => ?_) (fun i x S' hx e => ?_) fun S' e => ?_
  · rfl
  · rw [e]; exact hok _
  · subst e
    obtain ⟨hi, hxe⟩ := List.getElem?_eq_some_iff.mp hx
    refine wS_mono (step x _ (List.mem_of_getElem? hx)) (fun σ2 S2 ⟨e2, h2⟩ => wE_mono h2 fun c S3 ⟨e3, e4, h3⟩ => ?_) (fun _ _ z => z) (fun _ _ z => z) (fun _ _ z => z)
    rw [if_pos e3]
    refine wE_mono h3 fun y S4 ⟨e5, e6⟩ => ?_
    subst e6 e4 e2 e5
    refine ⟨(List.range ((items.take i).map f).length).map fun j => VV.ref (S.length + 1 + j), ?_, ?_, ?_⟩
    · rw [List.getElem?_append_left (by rw [laidL_len]; omega)]
      exact laidL_D
    · rw [List.length_map, List.length_range, List.length_map, List.length_take]; omega
    · rw [laidL_next, List.take_add_one, List.map_append, hx]
      rfl
  · rw [e, List.take_length]
    exact h
end Sx
end
/-! Sx13: truth of any value; x or y, x and y, not x by truth. -/
noncomputable section
namespace Sx
open PySem PySem.Spec
open PyProof.Rows L2
def truO : OO → Option Bool
  | .lst xs => some !xs.isEmpty
  | .dK kvs => some !kvs.isEmpty
  | _ => none
def truB (S : Sto) : VV → Option Bool
  | .non => some false
  | .bl b => some b
  | .int i => some (i != 0)
  | .str x => if x.length ≤ 100000 then some ((x.length : Int) != 0) else none
  | .tup xs => some !xs.isEmpty
  | .rol xs => some !xs.isEmpty
  | .ref n => (S[n]?).bind truO
def optB {α : Type} (o : Option Bool) (k : Bool → Res α) : Res α := match o with
  | some b => k b
  | none => .fail
def mTru (a : EM) : TM := fun σ S => (a σ S).bind fun x S1 => optB (truB S1 x) fun b => .ok b S1
def mOrT (a b : EM) : EM := fun σ S => (a σ S).bind fun x S1 => optB (truB S1 x) fun c => if c = true then .ok x S1 else b σ S1
def mAndT (a b : EM) : EM := fun σ S => (a σ S).bind fun x S1 => optB (truB S1 x) fun c => if c = true then b σ S1 else .ok x S1
def mNotT (a : EM) : EM := fun σ S => (a σ S).bind fun x S1 => optB (truB S1 x) fun c => .ok (.bl !c) S1
section
variable {X : Cx} {L : Lay} {W : WX}
theorem RVs.isE {ι : List Addr} {H : Hp} : ∀ {xs : List VV} {vs : List V}, RVs L ι H xs vs → xs.isEmpty = vs.isEmpty
  | _, _, .nil => rfl
  | _, _, .cons _ _ => rfl
theorem paired_isE {α β : Type} {r : α → β → Prop} : ∀ {xs : List α} {ys : List β}, Paired r xs ys → xs.isEmpty = ys.isEmpty
  | _, _, .nil => rfl
  | _, _, .cons _ _ => rfl
theorem truB_ok {ι : List Addr} {S : Sto} {H : Hp} {x : VV} {v : V} {k : Bool} (hK : L.K = X.K) (rp : Rep L ι S H) (rv : RV L ι H x v) (e : truB S x = some k) : TruV X.K v H k := by
  cases rv with
  | non => cases e; exact rfl
  | bl b => cases e; exact rfl
  | int i => cases e; exact rfl
  | str x =>
    unfold truB at e
    dsimp only at e
    split at e
    · rename_i h
      cases e
      exact ⟨sz_of h, rfl⟩
    · cases e
  | tup h r =>
    cases e
    exact .inr (.inl ⟨_, SqT.of h, by rw [r.isE]⟩)
  | rol h r =>
    cases e
    refine .inl ⟨_, ?_, by rw [r.isE]⟩
    rcases h with ⟨o, h⟩ | h
    · exact .inl (.inr ⟨o, h⟩)
    · exact hK ▸ h H
  | @ref n a h =>
    have e1 : (S[n]?).bind truO = some k := e
    obtain ⟨ob, e2, e3⟩ := Option.bind_eq_some_iff.mp e1
    obtain ⟨u, h1, h2⟩ := rp.get h e2
    cases ob with
    | lst xs => cases e3; obtain ⟨vs, rfl, r⟩ := h2; exact .inl ⟨vs, SqL.of h1, by rw [r.isE]⟩
    | dK xs => cases e3; obtain ⟨vs, rfl, r⟩ := h2; exact .inr (.inr ⟨vs, h1, by rw [paired_isE r]⟩)
    | _ => cases e3
theorem optB_out {ι : List Addr} {H : Hp} {o : Option Bool} {k : Bool → Res VV} {Q : VK} {E : XK} (h : OutE L ι H (optB o k) Q E) : ∃ b, o = some b ∧ OutE L ι H (k b) Q E := by
  cases o with
  | none => exact h.elim
  | some b => exact ⟨b, rfl, h⟩
theorem optB_outT {ι : List Addr} {H : Hp} {o : Option Bool} {k : Bool → Res Bool} {Q : Bool → Hp → Prop} {E : XK} (h : OutT L ι H (optB o k) Q E) : ∃ b, o = some b ∧ OutT L ι H (k b) Q E := by
  cases o with
  | none => exact h.elim
  | some b => exact ⟨b, rfl, h⟩
theorem mt_tru {e : Expr} {a : EM} (hK : L.K = X.K) (h : ME X L W e a) (he : ∀ whole, isTrue e X.env whole = (do let v ← whole; standAt e.pos; holding [v] (truthy v)) := by intro _; rfl) : MT X L W e (mTru a) :=
  PT.wk (pt_truth h he) fun τ H Q ⟨ι, S, σ, rp, rs, o⟩ => stepET rp rs o fun x S1 ι1 H1 v ex r1 s1 rv o1 => by
    obtain ⟨b, e1, o2⟩ := optB_outT o1
    exact ⟨b, truB_ok hK r1 rv e1, o2 ι1 H1 (Ext.refl _ _) r1⟩
theorem me_orT {e f : Expr} {rest : List Expr} {pos : Pos} {a b : EM} (hK : L.K = X.K) (h : ME X L W e a) (k : ME X L W (.BoolOp .Or (f :: rest) pos) b) : ME X L W (.BoolOp .Or (e :: f :: rest) pos) (mOrT a b) :=
  PE.wk (pe_orT h k) fun τ H Q ⟨ι, S, σ, rp, rs, o⟩ => stepE rp rs o fun x S1 ι1 H1 v ex r1 s1 rv o1 => by
    obtain ⟨c, e1, o2⟩ := optB_out o1
    refine ⟨c, truB_ok hK r1 rv e1, ?_⟩
    cases c with
    | true => exact o2 ι1 H1 _ (Ext.refl _ _) r1 rv
    | false => exact ⟨ι1, S1, σ, r1, s1, o2⟩
theorem me_andT {e f : Expr} {rest : List Expr} {pos : Pos} {a b : EM} (hK : L.K = X.K) (h : ME X L W e a) (k : ME X L W (.BoolOp .And (f :: rest) pos) b) : ME X L W (.BoolOp .And (e :: f :: rest) pos) (mAndT a b) :=
  PE.wk (pe_andT h k) fun τ H Q ⟨ι, S, σ, rp, rs, o⟩ => stepE rp rs o fun x S1 ι1 H1 v ex r1 s1 rv o1 => by
    obtain ⟨c, e1, o2⟩ := optB_out o1
    refine ⟨c, truB_ok hK r1 rv e1, ?_⟩
    cases c with
    | true => exact ⟨ι1, S1, σ, r1, s1, o2⟩
    | false => exact o2 ι1 H1 _ (Ext.refl _ _) r1 rv
theorem me_notT {e : Expr} {pos : Pos} {a : EM} (hK : L.K = X.K) (h : ME X L W e a) : ME X L W (.UnaryOp .Not e pos) (mNotT a) :=
  PE.wk (pe_notT h) fun τ H Q ⟨ι, S, σ, rp, rs, o⟩ => stepE rp rs o fun x S1 ι1 H1 v ex r1 s1 rv o1 => by
    obtain ⟨c, e1, o2⟩ := optB_out o1
    exact ⟨c, truB_ok hK r1 rv e1, o2 ι1 H1 _ (Ext.refl _ _) r1 (.bl _)⟩
end
/-! what they do -/
section
variable {σ : Sg} {S : Sto}
def isT (S : Sto) (x : VV) (Q : Bool → Prop) : Prop := match truB S x with
  | some b => Q b
  | none => False
theorem isT_non {Q : Bool → Prop} : isT S .non Q = Q false := (rfl)
theorem isT_bl {b : Bool} {Q : Bool → Prop} : isT S (.bl b) Q = Q b := (rfl)
theorem isT_int {i : Int} {Q : Bool → Prop} : isT S (.int i) Q = Q (i != 0) := (rfl)
theorem isT_tup {xs : List VV} {Q : Bool → Prop} : isT S (.tup xs) Q = Q !xs.isEmpty := (rfl)
theorem isT_lst {n : Nat} {xs : List VV} {Q : Bool → Prop} (h : S[n]? = some (.lst xs)) : isT S (.ref n) Q = Q !xs.isEmpty := by
  unfold isT truB
  dsimp only
  rw [h]
  rfl
theorem isT_dK {n : Nat} {xs : List (Key × VV)} {Q : Bool → Prop} (h : S[n]? = some (.dK xs)) : isT S (.ref n) Q = Q !xs.isEmpty := by
  unfold isT truB
  dsimp only
  rw [h]
  rfl
theorem wE_optB {α : Type} {x : VV} {k : Bool → Res α} {Q : α → Sto → Prop} : wE (optB (truB S x) k) Q = isT S x fun b => wE (k b) Q := by
  unfold isT
  cases truB S x <;> rfl
theorem wE_tru {a : EM} {Q : Bool → Sto → Prop} : wE (mTru a σ S) Q = wE (a σ S) fun x S => isT S x fun b => Q b S := by
  unfold mTru
  rw [wE_bind]
  congr 1
  funext x S
  exact wE_optB
theorem wE_orT {a b : EM} {Q : VV → Sto → Prop} : wE (mOrT a b σ S) Q = wE (a σ S) fun x S => isT S x fun c => if c = true then Q x S else wE (b σ S) Q := by
  unfold mOrT
  rw [wE_bind]
  congr 1
  funext x S
  rw [wE_optB]
  congr 1
  funext c
  exact wE_if
theorem wE_andT {a b : EM} {Q : VV → Sto → Prop} : wE (mAndT a b σ S) Q = wE (a σ S) fun x S => isT S x fun c => if c = true then wE (b σ S) Q else Q x S := by
  unfold mAndT
  rw [wE_bind]
  congr 1
  funext x S
  rw [wE_optB]
  congr 1
  funext c
  exact wE_if
theorem wE_notT {a : EM} {Q : VV → Sto → Prop} : wE (mNotT a σ S) Q = wE (a σ S) fun x S => isT S x fun c => Q (.bl !c) S := by
  unfold mNotT
  rw [wE_bind]
  congr 1
  funext x S
  exact wE_optB
end
end Sx
end
section
/-! SxB: where the built-in names lead. -/
namespace Sx
open PySem PySem.Spec
open PyProof.Rows L2
theorem bo_len : bootBuiltins "len" = some (.builtin "len") := by kernel_rfl
theorem bo_all : bootBuiltins "all" = some (.builtin "all") := by kernel_rfl
theorem bo_any : bootBuiltins "any" = some (.builtin "any") := by kernel_rfl
theorem bo_sorted : bootBuiltins "sorted" = some (.builtin "sorted") := by kernel_rfl
theorem bo_abs : bootBuiltins "abs" = some (.builtin "abs") := by kernel_rfl
theorem bo_min : bootBuiltins "min" = some (.builtin "min") := by kernel_rfl
theorem bo_max : bootBuiltins "max" = some (.builtin "max") := by kernel_rfl
theorem bo_sum : bootBuiltins "sum" = some (.builtin "sum") := by kernel_rfl
theorem bo_isinstance : bootBuiltins "isinstance" = some (.builtin "isinstance") := by kernel_rfl
theorem bo_ord : bootBuiltins "ord" = some (.builtin "ord") := by kernel_rfl
theorem bo_chr : bootBuiltins "chr" = some (.builtin "chr") := by kernel_rfl
theorem bo_repr : bootBuiltins "repr" = some (.builtin "repr") := by kernel_rfl
theorem bo_divmod : bootBuiltins "divmod" = some (.builtin "divmod") := by kernel_rfl
theorem bo_next : bootBuiltins "next" = some (.builtin "next") := by kernel_rfl
theorem bo_hasattr : bootBuiltins "hasattr" = some (.builtin "hasattr") := by kernel_rfl
theorem bo_list : bootBuiltins "list" = some (.type "list") := by kernel_rfl
theorem bo_tuple : bootBuiltins "tuple" = some (.type "tuple") := by kernel_rfl
theorem bo_int : bootBuiltins "int" = some (.type "int") := by kernel_rfl
theorem bo_str : bootBuiltins "str" = some (.type "str") := by kernel_rfl
theorem bo_bool : bootBuiltins "bool" = some (.type "bool") := by kernel_rfl
theorem bo_dict : bootBuiltins "dict" = some (.type "dict") := by kernel_rfl
theorem bo_set : bootBuiltins "set" = some (.type "set") := by kernel_rfl
theorem bo_range : bootBuiltins "range" = some (.type "range") := by kernel_rfl
theorem bo_zip : bootBuiltins "zip" = some (.type "zip") := by kernel_rfl
theorem bo_enumerate : bootBuiltins "enumerate" = some (.type "enumerate") := by kernel_rfl
theorem bo_reversed : bootBuiltins "reversed" = some (.type "reversed") := by kernel_rfl
theorem bo_float : bootBuiltins "float" = some (.type "float") := by kernel_rfl
theorem bo_type : bootBuiltins "type" = some (.type "type") := by kernel_rfl
theorem bo_bytes : bootBuiltins "bytes" = some (.type "bytes") := by kernel_rfl
theorem bo_object : bootBuiltins "object" = some (.type "object") := by kernel_rfl
theorem bo_frozenset : bootBuiltins "frozenset" = some (.type "frozenset") := by kernel_rfl
theorem bo_ValueError : bootBuiltins "ValueError" = some (.type "ValueError") := by kernel_rfl
theorem bo_KeyError : bootBuiltins "KeyError" = some (.type "KeyError") := by kernel_rfl
theorem bo_IndexError : bootBuiltins "IndexError" = some (.type "IndexError") := by kernel_rfl
theorem bo_Exception : bootBuiltins "Exception" = some (.type "Exception") := by kernel_rfl
theorem bo_map : bootBuiltins "map" = some (.type "map") := by kernel_rfl
end Sx
end
/-! Sx14: refusals: their classes, their making, raising. -/
noncomputable section
namespace Sx
open PySem PySem.Spec
open PyProof.Rows L2
/-! ### what the written part says, by tests -/
def clsAtB (K : PySem.W.Frag) (C : Addr) : Bool := match K.lookup C with
  | some ⟨.type "type", _, .cls cd, sl⟩ => (match cd.mro, sl.toList with
    | .ref C' :: bm, [_, _, _, _, some (.builtin n), _] => decide (C' = C) && (decide (n = "ValueError.__new__") && (!cd.hasDel && (cd.hasDict && PySem.HandSPX.refsVE bm)))
    | _, _ => false)
  | _ => false
def oexB (K : PySem.W.Frag) (C : Addr) : Bool := clsAtB K C && (decide (PySem.W.findIn K (.ref C) "__setattr__" = some (some (.builtin "object.__setattr__"))) && (decide (PySem.W.subIn K (.ref C) (.type "BaseException") = some true) && (decide (PySem.W.typeIn K (.ref C) = some (.type "type")) && PySem.W.keepIn K (.ref C))))
theorem and2 {a b : Bool} (h : (a && b) = true) : a = true ∧ b = true := Bool.and_eq_true_iff.mp h
theorem clsAtB_ok {K : PySem.W.Frag} {C : Addr} (h : clsAtB K C = true) : ∃ nm q N bs bm sn sub ab col dd k0 k1 k2 k3 k5, K.lookup C = some (excClassObj nm q C N bs bm true sn sub ab col dd k0 k1 k2 k3 k5 "ValueError.__new__") ∧ PySem.HandSPX.refsVE bm = true := by
  unfold clsAtB at h
  split at h
  · rename_i dd cd sl ho
    split at h
    · rename_i C' bm k0 k1 k2 k3 n k5 hm hs
      obtain ⟨e1, h⟩ := and2 h
      obtain ⟨e2, h⟩ := and2 h
      obtain ⟨e3, h⟩ := and2 h
      obtain ⟨e4, e5⟩ := and2 h
      have e1 := of_decide_eq_true e1
      have e2 := of_decide_eq_true e2
      obtain ⟨nm, bs, mro, ns, qn, hd, sn, sub, ab, col, dl⟩ := cd
      dsimp only at hm e3 e4
      have e3' : dl = false := by simpa using e3
      subst hm e1 e2 e3' e4
      obtain ⟨l⟩ := sl
      dsimp only at hs
      subst hs
      exact ⟨nm, qn, ns, bs, bm, sn, sub, ab, col, dd, k0, k1, k2, k3, k5, ho, e5⟩
    · cases h
  · cases h
theorem oexB_ok {K : PySem.W.Frag} {C : Addr} (h : oexB K C = true) : OexC K C := by
  obtain ⟨h1, h⟩ := and2 h
  obtain ⟨h2, h⟩ := and2 h
  obtain ⟨h3, h⟩ := and2 h
  obtain ⟨h4, h5⟩ := and2 h
  exact ⟨clsAtB_ok h1, of_decide_eq_true h2, of_decide_eq_true h3, of_decide_eq_true h4, h5⟩
/-- C.m read off the class: the def at f -/
structure CFn (K : PySem.W.Frag) (C f : Addr) (m : Str) : Prop where
  ga : PySem.W.specialIn K (.ref C) "__getattribute__" = some (some (.builtin "type.__getattribute__"))
  ty : PySem.W.typeIn K (.ref C) = some (.type "type")
  rd : PySem.W.readsIn K C (.type "type") = true
  fd : PySem.W.findCls K (.ref C) (.type "type") m = some (.val (.ref f))
  kf : PySem.W.keepIn K (.ref f) = true
def cfnB (K : PySem.W.Frag) (C f : Addr) (m : Str) : Bool := decide (PySem.W.specialIn K (.ref C) "__getattribute__" = some (some (.builtin "type.__getattribute__"))) && (decide (PySem.W.typeIn K (.ref C) = some (.type "type")) && (PySem.W.readsIn K C (.type "type") && ((match PySem.W.findCls K (.ref C) (.type "type") m with
    | some (.val (.ref g)) => decide (g = f)
    | _ => false) && PySem.W.keepIn K (.ref f))))
theorem cfnB_ok {K : PySem.W.Frag} {C f : Addr} {m : Str} (h : cfnB K C f m = true) : CFn K C f m := by
  obtain ⟨h1, h⟩ := and2 h
  obtain ⟨h2, h⟩ := and2 h
  obtain ⟨h3, h⟩ := and2 h
  obtain ⟨h4, h5⟩ := and2 h
  refine ⟨of_decide_eq_true h1, of_decide_eq_true h2, h3, ?_, h5⟩
  split at h4
  · rename_i g e
    rw [e, of_decide_eq_true h4]
  · cases h4
/-! ### C.m(e, ..) of an own class's def -/
section
variable {X : Cx} {CX : CXT} {k : Nat} {f C : Addr} {fd : FuncData} {ps : List Str} {sp : Sp} {E : L2.St → XK} {x m : Str} {p1 p2 pos : Pos} {e : Expr} {es : List Expr} {t : TA}
theorem pe_cfn {pl : Sem Bool} (T : CFn X.K C f m) (F : FnOk X.prog X.w X.K X.mg X.base CX k f fd ps sp) (hr : Room k X.A) (hg : Gl X x) (hm : X.mg x = some (.ref C)) (hb : Binds X.K fd ps []) (hx : ∀ σ, PassesAt CX X σ (E σ)) (ha : PA X (e :: es) t)
    (hdb : (x == ("__debug__" : Str)) = false := by decide) (he : starEach (e :: es) X.env = (false, eval e X.env) :: starEach es X.env := by rfl) (hpl : (backTo pos (starEach es X.env)).any (·.1) = false := by rfl)
    (hc : eval (.Call (.Attribute (.Name x p1) m p2) (e :: es) [] pos) X.env = (do
      let c ← eval (.Name x p1) X.env
      standAt p2.atName
      let (g, l) ← holding [c] (getMethod c m pl)
      callWith pos g l (backTo pos (starEach (e :: es) X.env)) (backToKw pos (keywordEach [] X.env))) := by rfl) :
    PE X (.Call (.Attribute (.Name x p1) m p2) (e :: es) [] pos) (tCallS sp E t) := ⟨fun pins s τ H Q I h => by
  refine PySem.W.methodCall_KW (ld_glob I hg hm ?_ hdb) hc
  obtain ⟨mm, fr⟩ := I.fr
  refine PySem.W.method_of_cls fr I.ok.mod.kin T.ga (PySem.W.cls_val fr I.ok.mod.kin T.ty T.rd T.fd rfl ?_)
  refine PySem.W.callWith_K (h₀ := X.base) I.ok.mod.kin T.kf (thn (ha.run pos pins _ τ H _ (I.tok _) h) fun us s1 ⟨vs, H1, I1, r, q⟩ => ⟨I1.kIn, ?_⟩) he hpl
  exact run_fnS F hr hb (hx τ) I1 r q⟩
end
/-! ### what an own refusal's __init__ leaves -/
structure XDone (H H' : Hp) (a d C : Addr) (fs : List (Str × V)) : Prop where
  dn : H d = none
  ne : d ≠ a
  oa : H' a = some (exo a C (some d))
  od : H' d = some (exd d fs)
  rest : ∀ b, b ≠ a → b ≠ d → H' b = H b
def spX (K : PySem.W.Frag) (g : List V → Option (List (Str × V))) : Sp := fun vs H Q _ => ∃ (a C : Addr) (ws : List V) (fs : List (Str × V)), vs = .ref a :: ws ∧ g ws = some fs ∧ OexC K C ∧ (∀ p ∈ fs, PySem.W.findIn K (.ref C) p.1 = some none) ∧ H a = some (exo a C none) ∧
  ∀ H' d, XDone H H' a d C fs → Q .non H'
def gX0 : List V → Option (List (Str × V))
  | [w] => some [("word", w)]
  | _ => none
def gXA (word : Str) (fs : List Str) (ws : List V) : Option (List (Str × V)) := if fs.length = ws.length then some ((fs.zip ws).reverse ++ [(("word" : Str), V.str word)]) else none
theorem XDone.more {H H' : Hp} {a d C : Addr} {fs : List (Str × V)} {p : Str × V} (x : XDone H H' a d C fs) : XDone H (upd H' d (exd d (p :: fs))) a d C (p :: fs) :=
  ⟨x.dn, x.ne, by rw [upd_ne (Ne.symm x.ne)]; exact x.oa, upd_same, fun b h1 h2 => by rw [upd_ne h2]; exact x.rest b h1 h2⟩
theorem spX_len {K : PySem.W.Frag} {word : Str} {ys : List Str} {vs : List V} {H : Hp} {Q : VK} {E : XK} (h : spX K (gXA word ys) vs H Q E) : vs.length = ys.length + 1 := by
  obtain ⟨a, C, ws, fs, rfl, e, _⟩ := h
  unfold gXA at e
  split at e
  · rename_i hl
    rw [List.length_cons, ← hl]
  · cases e
theorem spX0_len {K : PySem.W.Frag} {vs : List V} {H : Hp} {Q : VK} {E : XK} (h : spX K gX0 vs H Q E) : vs.length = 2 := by
  obtain ⟨a, C, ws, fs, rfl, e, _⟩ := h
  match ws, e with
  | [w], _ => rfl
theorem spX0_open {K : PySem.W.Frag} {vs : List V} {H : Hp} {Q : VK} {E : XK} (h : spX K gX0 vs H Q E) : ∃ (a C : Addr) (w : V), vs = [.ref a, w] ∧ OexC K C ∧ PySem.W.findIn K (.ref C) "word" = some none ∧ H a = some (exo a C none) ∧ ∀ H' d, XDone H H' a d C [("word", w)] → Q .non H' := by
  obtain ⟨a, C, ws, fs, rfl, e, T, hno, ha, q⟩ := h
  match ws, e with
  | [w], e => cases e; exact ⟨a, C, w, rfl, T, hno _ List.mem_cons_self, ha, q⟩
theorem spXA0 {K : PySem.W.Frag} {word : Str} {vs : List V} {H : Hp} {Q : VK} {E : XK} (h : spX K (gXA word []) vs H Q E) : ∃ (a C : Addr), vs = [.ref a] ∧ OexC K C ∧ PySem.W.findIn K (.ref C) "word" = some none ∧ H a = some (exo a C none) ∧ ∀ H' d, XDone H H' a d C [("word", .str word)] → Q .non H' := by
  obtain ⟨a, C, ws, fs, rfl, e, T, hno, ha, q⟩ := h
  match ws, e with
  | [], e => cases e; exact ⟨a, C, rfl, T, hno _ List.mem_cons_self, ha, q⟩
  | _ :: _, e => unfold gXA at e; rw [if_neg (by simp)] at e; cases e
theorem spXA1 {K : PySem.W.Frag} {word y : Str} {vs : List V} {H : Hp} {Q : VK} {E : XK} (h : spX K (gXA word [y]) vs H Q E) : ∃ (a C : Addr) (u : V), vs = [.ref a, u] ∧ OexC K C ∧ PySem.W.findIn K (.ref C) "word" = some none ∧ PySem.W.findIn K (.ref C) y = some none ∧ H a = some (exo a C none) ∧
    ∀ H' d, XDone H H' a d C [(y, u), ("word", .str word)] → Q .non H' := by
  obtain ⟨a, C, ws, fs, rfl, e, T, hno, ha, q⟩ := h
  match ws, e with
  | [], e => unfold gXA at e; rw [if_neg (by simp)] at e; cases e
  | _ :: _ :: _, e => unfold gXA at e; rw [if_neg (by simp)] at e; cases e
  | [u], e => cases e; exact ⟨a, C, u, rfl, T, hno _ (List.mem_cons_of_mem _ List.mem_cons_self), hno _ List.mem_cons_self, ha, q⟩
theorem spXA2 {K : PySem.W.Frag} {word y z : Str} {vs : List V} {H : Hp} {Q : VK} {E : XK} (h : spX K (gXA word [y, z]) vs H Q E) : ∃ (a C : Addr) (u v : V), vs = [.ref a, u, v] ∧ OexC K C ∧ PySem.W.findIn K (.ref C) "word" = some none ∧ PySem.W.findIn K (.ref C) y = some none ∧ PySem.W.findIn K (.ref C) z = some none ∧ H a = some (exo a C none) ∧
    ∀ H' d, XDone H H' a d C [(z, v), (y, u), ("word", .str word)] → Q .non H' := by
  obtain ⟨a, C, ws, fs, rfl, e, T, hno, ha, q⟩ := h
  match ws, e with
  | [], e => unfold gXA at e; rw [if_neg (by simp)] at e; cases e
  | [_], e => unfold gXA at e; rw [if_neg (by simp)] at e; cases e
  | _ :: _ :: _ :: _, e => unfold gXA at e; rw [if_neg (by simp)] at e; cases e
  | [u, v], e => cases e; exact ⟨a, C, u, v, rfl, T, hno _ (List.mem_cons_of_mem _ (List.mem_cons_of_mem _ List.mem_cons_self)), hno _ (List.mem_cons_of_mem _ List.mem_cons_self), hno _ List.mem_cons_self, ha, q⟩
/-- .. a lot: the list that is handed in, anew -/
def spXL (K : PySem.W.Frag) (word y : Str) : Sp := fun vs H Q _ => ∃ (a C q : Addr) (us : List V), vs = [.ref a, .ref q] ∧ OexC K C ∧ PySem.W.findIn K (.ref C) "word" = some none ∧ PySem.W.findIn K (.ref C) y = some none ∧ H a = some (exo a C none) ∧ SqL K H q us ∧ q ≠ a ∧
  ∀ H' d p, p ≠ a → H p = none → XDone (upd H p (.lst us)) H' a d C [(y, .ref p), ("word", .str word)] → Q .non H'
end Sx
end
/-! Sx15: raise X(..). -/
noncomputable section
namespace Sx
open PySem PySem.Spec
open PyProof.Rows L2
section
variable {X : Cx} {CX : CXT} {C fI : Addr} {k : Nat} {fd : FuncData} {ps : List Str} {sp : Sp}
/-- X() for a refusal whose __init__ takes nothing more -/
theorem pmk_x0 {x : Str} {p pos : Pos} (T : OexC X.K C) (iC : PySem.W.findIn X.K (.ref C) "__init__" = some (some (.ref fI))) (tI : PySem.W.typeIn X.K (.ref fI) = some (.type "function"))
    (F1 : FnOk X.prog X.w X.K X.mg X.base CX k fI fd ps sp) (hr : Room (k + 1) X.A) (hb : Binds X.K fd ps []) (hx : Passes CX X (fun _ _ _ => False)) (hg : Gl X x) (hm : X.mg x = some (.ref C)) (hdb : (x == ("__debug__" : Str)) = false := by decide) :
    PMk X (.Call (.Name x p) [] [] pos) (tMkO C sp [] tNil) := by
  intro pins s0 τ H0 Q I0 goal
  obtain ⟨nm, qn, ns, bs, bm, sn, sub, ab, col, dd, k0, k1, k2, k3, k5, isC, refs⟩ := T.cls
  refine wpAny_Call_Name_kw (ld_glob I0 hg hm ?_ hdb)
  refine PySem.W.callWith_K0 I0.kIn T.kC ?_
  obtain ⟨hp, gn, dr, tk, os⟩ := s0
  obtain ⟨_, ask⟩ := goal
  have le1 : hp.objs.size ≤ hp.objs.size + 1 := Nat.le_succ _
  have fresh : H0 (hp.objs.size + 1) = none := I0.hok.fresh le1
  have prom := ask _ fresh
  have stays : ∀ b o, hp.get? b = some o → ((hp.push (PySem.W.kdv_tup [])).push (PySem.HandSPX.excO C hp.objs.size)).get? b = some o := fun b o e => Heap.get?_push_of_some _ (Heap.get?_push_of_some _ e)
  have lies : ((hp.push (PySem.W.kdv_tup [])).push (PySem.HandSPX.excO C hp.objs.size)).get? (hp.objs.size + 1) = some (PySem.HandSPX.excO C hp.objs.size) := by heap_get
  have I2 := I0.laid (t' := tk) (a := hp.objs.size + 1) (o := exo (hp.objs.size + 1) C none) (h' := (hp.push (PySem.W.kdv_tup [])).push (PySem.HandSPX.excO C hp.objs.size)) stays le1 (exo_ok lies)
  have rel : Vals [V.ref (hp.objs.size + 1)] [Value.ref (hp.objs.size + 1)] := .cons rfl .nil
  have few : ([Value.ref (hp.objs.size + 1)] ++ []).length = ps.length := (F1.len _ _ _ _ prom)
  have run := F1.run _ X.stack _ _ ⟨[Value.ref (hp.objs.size + 1)], []⟩ [Value.ref (hp.objs.size + 1)] _ _ (fun _ _ _ => False) (hr.make C [] []) (I2.env0.make C [] []) (hb _ [Value.ref (hp.objs.size + 1)] I2.kIn few) rel prom
  refine wpAny_call (PySem.HandSPX.call_own F.excBase_ValueError (fun Y => PySem.HandSPX.refsVE_contains Y bm refs) (I0.kIn _ _ isC) (PySem.W.looks_findIn I0.kIn iC) (fun me => PySem.W.bind_fn I0.kIn me tI) (Nat.zero_le _) (codeAny_mono run fun r s' done => ?_))
  match r, done with
  | .error er, done => exact hx pins τ _ _ er s' I2 done
  | .ok (.ret u), done =>
    obtain ⟨v, H2, os2, bare2, un2, hok2, rv, ev, d, fs, ea, ed, hd1, q2⟩ := done
    subst ev
    obtain ⟨h2, g2, d2, t2, os'⟩ := s'
    exact ⟨rv, mk_end (raises_own T.exC T.tyC) I0 le1 stays un2 hok2 os2 bare2 ea ed hd1 q2⟩
  | .ok .next, done => exact done.elim
  | .ok .brk, done => exact done.elim
  | .ok .cont, done => exact done.elim
end
/-! ### the mirror -/
def Res.toSL (σ : Sg) (r : Res (List VV)) (k : List VV → Sto → SR) : SR := match r with
  | .ok a S => k a S
  | .exc n S => .exc n σ S
  | .fail => .fail
abbrev wordS : Str := "word"
/-- raise X(..): class c, its word, its things -/
def mRaise (c : Nat) (word : Str) (a : AM) : SM := fun σ S => (a σ S).toSL σ fun xs S1 => .exc S1.length σ (S1 ++ [.xd c (.str word :: xs)])
structure XDf (P : Program) (w : World) (K : PySem.W.Frag) (mg : Str → Option Value) (base : Heap) (L : Lay) (x : Str) (c k : Nat) (word : Str) (fs : List Str) : Prop where
  ex : ∃ fI fd ps, OexC K (L.C c) ∧ PySem.W.findIn K (.ref (L.C c)) "__init__" = some (some (.ref fI)) ∧ PySem.W.typeIn K (.ref fI) = some (.type "function") ∧ FnOk P w K mg base (L2.CX P w) k fI fd ps (spX K (gXA word fs)) ∧ Binds K fd ps [] ∧ ps.length = fs.length + 1
  no : ∀ f ∈ wordS :: fs, PySem.W.findIn K (.ref (L.C c)) f = some none
  att : L.att c = wordS :: fs
  nd : (wordS :: fs).Nodup
  gl : mg x = some (.ref (L.C c))
theorem lookup_mem {fs : List (Str × V)} (nd : (fs.map (·.1)).Nodup) {f : Str} {v : V} (h : (f, v) ∈ fs) : fs.lookup f = some v := by
  induction fs with
  | nil => cases h
  | cons p r ih =>
    rw [List.map_cons, List.nodup_cons] at nd
    obtain ⟨g, u⟩ := p
    by_cases c : f = g
    · subst c
      rcases List.mem_cons.mp h with e | e
      · cases e
        simp
      · exact absurd (List.mem_map.mpr ⟨_, e, rfl⟩) nd.1
    · rcases List.mem_cons.mp h with e | e
      · exact absurd (congrArg Prod.fst e) c
      · rw [List.lookup_cons, beq_false_of_ne c]
        exact ih nd.2 e
theorem gXA_some {word : Str} {fs : List Str} {ws : List V} (h : fs.length = ws.length) : gXA word fs ws = some ((fs.zip ws).reverse ++ [(wordS, V.str word)]) := if_pos h
theorem zip_keys {fs : List Str} {ws : List V} (h : fs.length = ws.length) : (fs.zip ws).map (·.1) = fs := by
  induction fs generalizing ws with
  | nil => rfl
  | cons f r ih =>
    cases ws with
    | nil => simp at h
    | cons w ws => rw [List.zip_cons_cons, List.map_cons, ih (by simpa using h)]
theorem gXA_look {L : Lay} {ι : List Addr} {H : Hp} {word : Str} {fs : List Str} {xs : List VV} {ws : List V} (h : fs.length = ws.length) (nd : (wordS :: fs).Nodup) (r : RVs L ι H xs ws) (i : Nat) (x : VV) (f : Str)
    (e1 : (VV.str word :: xs)[i]? = some x) (e2 : (wordS :: fs)[i]? = some f) : ∃ v, ((fs.zip ws).reverse ++ [(wordS, V.str word)]).lookup f = some v ∧ RV L ι H x v := by
  have hk : (((fs.zip ws).reverse ++ [(wordS, V.str word)]).map (·.1)).Nodup := by
    rw [List.map_append, List.map_reverse, zip_keys h]
    rw [List.nodup_cons] at nd
    rw [List.nodup_append]
    refine ⟨by simpa [List.Nodup, List.pairwise_reverse, ne_comm] using nd.2, by simp, fun a ha b hb z => ?_⟩
    simp only [List.map_cons, List.map_nil, List.mem_singleton] at hb
    subst hb
    exact nd.1 (by rw [← z]; exact List.mem_reverse.mp ha)
  cases i with
  | zero =>
    simp only [List.getElem?_cons_zero, Option.some.injEq] at e1 e2
    subst e1 e2
    exact ⟨_, lookup_mem hk (List.mem_append_right _ (List.mem_singleton_self _)), .str _⟩
  | succ i =>
    rw [List.getElem?_cons_succ] at e1 e2
    obtain ⟨v, h1, h2⟩ := r.get e1
    refine ⟨v, lookup_mem hk (List.mem_append_left _ (List.mem_reverse.mpr (List.mem_iff_getElem?.mpr ⟨i, ?_⟩))), h2⟩
    rw [List.getElem?_zip_eq_some]
    exact ⟨e2, h1⟩
/-- the heap behind the making of a refusal -/
theorem xdone_heap {H H' : Hp} {a d C : Addr} {fs : List (Str × V)} (ha : H a = none) (x : XDone (upd H a (exo a C none)) H' a d C fs) : H d = none ∧ upd (del H' a) d (.xd fs) = upd H d (.xd fs) := by
  have hd : H d = none := by
    have := x.dn
    rwa [upd_ne x.ne] at this
  refine ⟨hd, funext fun b => ?_⟩
  by_cases h1 : b = d
  · subst h1
    rw [upd_same, upd_same]
  · rw [upd_ne h1, upd_ne h1]
    by_cases h2 : b = a
    · subst h2
      rw [del_same, ha]
    · rw [del_ne h2, x.rest b h2 h1, upd_ne h2]
section
variable {X : Cx} {L : Lay} {W : WX}
theorem stepAS {a : AM} {k : List VV → Sto → SR} {τ : L2.St} {H : Hp} {D : Ends} {R : List V → Hp → Prop} {ι : List Addr} {S : Sto} {σ : Sg} (rp : Rep L ι S H) (rs : RS L ι H σ τ) (o : OutS L W ι H ((a σ S).toSL σ k) D)
    (h : ∀ x S1 ι1 H1 v, Ext ι H ι1 H1 → Rep L ι1 S1 H1 → RS L ι1 H1 σ τ → RVs L ι1 H1 x v → OutS L W ι1 H1 (k x S1) D → R v H1) : rdA L W a τ H R := by
  refine bindA rp rs ?_
  cases e1 : a σ S with
  | ok x S1 =>
    rw [e1] at o
    exact fun ι1 H1 v ex r1 s1 rv => h x S1 ι1 H1 v ex r1 s1 rv (OutS.mono ex o)
  | exc n S1 =>
    rw [e1] at o
    exact fun ι1 H1 c d ex r1 x1 => o ι1 H1 τ c d ex r1 (rs.mono ex) x1
  | fail => rw [e1] at o; exact o.elim
/-- the things' number is right -/
def lenA (n : Nat) (a : AM) : Prop := ∀ σ S xs S', a σ S = .ok xs S' → xs.length = n
theorem lenA_nil : lenA 0 mNil := fun _ _ _ _ e => by cases e; rfl
theorem lenA_cons {n : Nat} {e : EM} {a : AM} (h : lenA n a) : lenA (n + 1) (mCons e a) := fun σ S xs S' q => by
  unfold mCons at q
  cases e1 : e σ S with
  | ok x S1 =>
    rw [e1] at q
    have q1 : (a σ S1).bind (fun xs S2 => .ok (x :: xs) S2) = .ok xs S' := q
    cases e2 : a σ S1 with
    | ok ys S2 =>
      rw [e2] at q1
      cases q1
      rw [List.length_cons, h σ S1 ys _ e2]
    | exc _ _ => rw [e2] at q1; cases q1
    | fail => rw [e2] at q1; cases q1
  | exc _ _ => rw [e1] at q; cases q
  | fail => rw [e1] at q; cases q
theorem raise_rd {c : Nat} {word : Str} {fs : List Str} {x : Str} {k : Nat} {ι : List Addr} {S : Sto} {H : Hp} {xs : List VV} {vs : List V} {τ : L2.St} {σ : Sg} {D : Ends} (hK : L.K = X.K) (T : XDf X.prog X.w X.K X.mg X.base L x c k word fs) (hl : xs.length = fs.length) (hl2 : fs.length ≤ 900)
    (rp : Rep L ι S H) (rs : RS L ι H σ τ) (rv : RVs L ι H xs vs) (o : OutS L W ι H (.exc S.length σ (S ++ [.xd c (.str word :: xs)])) D) (a : Addr) (ha : H a = none) (hC : OexC X.K (L.C c)) :
    spX X.K (gXA word fs) (.ref a :: vs) (upd H a (exo a (L.C c) none)) (fun v H2 => v = .non ∧ ∃ (d : Addr) (fs : List (Str × V)), H2 a = some (exo a (L.C c) (some d)) ∧ H2 d = some (exd d fs) ∧ H d = none ∧ W (.ref (L.C c)) (some d) τ (upd (del H2 a) d (.xd fs))) (fun _ _ _ => False) := by
  have hlv : fs.length = vs.length := by rw [← rv.length, hl]
  refine ⟨a, L.C c, vs, _, rfl, gXA_some hlv, hC, fun p hp => ?_, upd_same, fun H' d xd => ?_⟩
  · refine T.no _ ?_
    rcases List.mem_append.mp hp with h | h
    · refine List.mem_cons_of_mem _ ?_
      have this : p.1 ∈ (fs.zip vs).map (·.1) := List.mem_map.mpr ⟨p, List.mem_reverse.mp h, rfl⟩
      rw [zip_keys hlv] at this
      exact this
    · rw [List.mem_singleton] at h
      subst h
      exact List.mem_cons_self (a := wordS) (l := fs)
  · obtain ⟨hd, he⟩ := xdone_heap ha xd
    refine ⟨rfl, d, _, xd.oa, xd.od, hd, ?_⟩
    rw [he]
    have ex : Ext ι H (ι ++ [d]) (upd H d (.xd ((fs.zip vs).reverse ++ [(wordS, V.str word)]))) := Rep.newExt hd
    refine o _ _ τ _ _ ex (rp.new hd ⟨_, rfl, fun i y f e1 e2 => ?_⟩) (rs.mono ex) ⟨c, .str word :: xs, d, get_last, rfl, rfl, ?_⟩
    · rw [T.att] at e2
      exact gXA_look hlv T.nd (rv.mono ex) i y f e1 e2
    · rw [List.getElem?_append_right (by rw [rp.len]; exact Nat.le_refl _), rp.len]
      simp
theorem ms_raise0 {c k j : Nat} {word : Str} {x : Str} {p pos pos' : Pos} (hK : L.K = X.K) (hc : X.calm = true) (T : XDf X.prog X.w X.K X.mg X.base L x c k word []) (hr : Room j X.A) (tk : Takes X W) (hkj : k + 1 ≤ j := by decide) (hg : Gl X x := by rfl) (hdb : (x == ("__debug__" : Str)) = false := by decide) :
    MS X L W (.Raise (some (.Call (.Name x p) [] [] pos)) none pos') (mRaise c word mNil) := by
  obtain ⟨fI, fd, ps, hC, iC, tI, F1, hb, hps⟩ := T.ex
  refine PS.wk (ps_raise hc tk (pmk_x0 hC iC tI F1 (hr.mono hkj) hb (fun pins σ H s e s' I h => passAt takes0 σ pins H s e s' I h) hg T.gl hdb)) fun D τ H ⟨ι, S, σ, rp, rs, o⟩ => ?_
  exact ⟨by simp, fun a ha => raise_rd hK T rfl (by simp) rp rs .nil o a ha hC⟩
theorem ms_raise {c k j n : Nat} {word : Str} {fs : List Str} {x : Str} {p pos pos' : Pos} {e : Expr} {es : List Expr} {a : AM} (hK : L.K = X.K) (hc : X.calm = true) (T : XDf X.prog X.w X.K X.mg X.base L x c k word fs) (hr : Room j X.A) (tk : Takes X W) (ha : MA X L W (e :: es) a) (hn : lenA n a) (hl : fs.length = n := by rfl) (hl2 : n ≤ 900 := by decide)
    (hkj : k + 1 ≤ j := by decide) (hg : Gl X x := by rfl) (hdb : (x == ("__debug__" : Str)) = false := by decide) (he : starEach (e :: es) X.env = (false, eval e X.env) :: starEach es X.env := by rfl) (hpl : (backTo pos (starEach es X.env)).any (·.1) = false := by rfl) :
    MS X L W (.Raise (some (.Call (.Name x p) (e :: es) [] pos)) none pos') (mRaise c word a) := by
  obtain ⟨fI, fd, ps, hC, iC, tI, F1, hb, hps⟩ := T.ex
  refine PS.wk (ps_raise hc tk (pmk_oex hC iC tI F1 (hr.mono hkj) hb .nil (fun pins σ H s e s' I h => passAt takes0 σ pins H s e s' I h) hg T.gl ha hdb he hpl)) fun D τ H ⟨ι, S, σ, rp, rs, o⟩ => ?_
  have key : rdA L W a τ H fun vs H1 => ∃ ι1 S1 xs, Rep L ι1 S1 H1 ∧ RS L ι1 H1 σ τ ∧ RVs L ι1 H1 xs vs ∧ xs.length = n ∧ OutS L W ι1 H1 (.exc S1.length σ (S1 ++ [.xd c (.str word :: xs)])) D := by
    refine ⟨ι, S, σ, rp, rs, ?_⟩
    have o1 : OutS L W ι H ((a σ S).toSL σ fun xs S1 => .exc S1.length σ (S1 ++ [.xd c (.str word :: xs)])) D := o
    cases e1 : a σ S with
    | ok xs S1 =>
      rw [e1] at o1
      exact fun ι1 H1 vs ex r1 rv => ⟨ι1, S1, xs, r1, rs.mono ex, rv, hn _ _ _ _ e1, OutS.mono ex o1⟩
    | exc m S1 =>
      rw [e1] at o1
      exact fun ι1 H1 c d ex r1 x1 => o1 ι1 H1 τ c d ex r1 (rs.mono ex) x1
    | fail => rw [e1] at o1; exact o1.elim
  obtain ⟨ι0, S0, σ0, r0, s0, o0⟩ := key
  refine ⟨ι0, S0, σ0, r0, s0, ?_⟩
  cases e1 : a σ0 S0 with
  | ok xs S1 =>
    rw [e1] at o0
    intro ι1 H1 vs ex r1 rv
    obtain ⟨ι2, S2, ys, q1, q2, q3, q4, q5⟩ := o0 ι1 H1 vs ex r1 rv
    refine ⟨by rw [← q3.length, q4]; omega, fun b hb' => ?_⟩
    rw [List.append_nil]
    exact raise_rd hK T (by omega) (by omega) q1 q2 q3 q5 b hb' hC
  | exc m S1 => rw [e1] at o0; exact o0
  | fail => rw [e1] at o0; exact o0
/-- raise X(lot): the lot is copied -/
def mRaiseL (c : Nat) (word : Str) (e : EM) : SM := fun σ S => (e σ S).toS σ fun x S1 => match refL S1 x with
  | some ys => .exc (S1.length + 1) σ (S1 ++ [.lst ys, .xd c [.str word, .ref S1.length]])
  | none => .fail
structure XDl (P : Program) (w : World) (K : PySem.W.Frag) (mg : Str → Option Value) (base : Heap) (L : Lay) (x : Str) (c k : Nat) (word y : Str) : Prop where
  ex : ∃ fI fd ps, OexC K (L.C c) ∧ PySem.W.findIn K (.ref (L.C c)) "__init__" = some (some (.ref fI)) ∧ PySem.W.typeIn K (.ref fI) = some (.type "function") ∧ FnOk P w K mg base (L2.CX P w) k fI fd ps (spXL K word y) ∧ Binds K fd ps []
  no : ∀ f ∈ wordS :: [y], PySem.W.findIn K (.ref (L.C c)) f = some none
  att : L.att c = wordS :: [y]
  nd : (wordS :: [y]).Nodup
  gl : mg x = some (.ref (L.C c))
theorem ms_raiseL {c k j : Nat} {word y : Str} {x : Str} {p pos pos' : Pos} {e : Expr} {a : EM} (hc : X.calm = true) (T : XDl X.prog X.w X.K X.mg X.base L x c k word y) (hr : Room j X.A) (tk : Takes X W) (ha : ME X L W e a)
    (hkj : k + 1 ≤ j := by decide) (hg : Gl X x := by rfl) (hdb : (x == ("__debug__" : Str)) = false := by decide) (he : starEach [e] X.env = (false, eval e X.env) :: starEach [] X.env := by rfl) (hpl : (backTo pos (starEach [] X.env)).any (·.1) = false := by rfl) :
    MS X L W (.Raise (some (.Call (.Name x p) [e] [] pos)) none pos') (mRaiseL c word a) := by
  obtain ⟨fI, fd, ps, hC, iC, tI, F1, hb⟩ := T.ex
  refine PS.wk (ps_raise hc tk (pmk_oex hC iC tI F1 (hr.mono hkj) hb .nil (fun pins σ H s e s' I h => passAt takes0 σ pins H s e s' I h) hg T.gl (pa_cons ha pa_nil he) hdb he hpl)) fun D τ H ⟨ι, S, σ, rp, rs, o⟩ => ?_
  refine stepS (k := fun x S1 => match refL S1 x with
    | some ys => .exc (S1.length + 1) σ (S1 ++ [.lst ys, .xd c [.str word, .ref S1.length]])
    | none => .fail) (D := D) rp rs o fun z S1 ι1 H1 v ex r1 s1 rv o1 => ⟨by simp, fun a' hn => ?_⟩
  cases z with
  | ref n =>
    have e0 : refL S1 (.ref n) = (S1[n]?).bind lstI := rfl
    cases e1 : S1[n]? with
    | none => rw [e0, e1] at o1; exact o1.elim
    | some ob =>
      cases ob with
      | lst ys =>
        rw [e0, e1] at o1
        obtain ⟨q, us, rfl, hq, h3, h4⟩ := r1.lst rv e1
        have hqa : q ≠ a' := fun z => by rw [z, hn] at h3; cases h3
        refine ⟨a', L.C c, q, us, rfl, hC, T.no _ List.mem_cons_self, T.no _ (List.mem_cons_of_mem _ List.mem_cons_self), upd_same, SqL.of (by rw [upd_ne hqa]; exact h3), hqa, fun H' d p' hpa hp xd => ?_⟩
        rw [upd_ne hpa] at hp
        have hdn := xd.dn
        have hpd : d ≠ p' := fun z => by rw [z, upd_same] at hdn; cases hdn
        rw [upd_ne hpd, upd_ne xd.ne] at hdn
        have hh : upd (del H' a') d (.xd [(y, .ref p'), ("word", .str word)]) = upd (upd H1 p' (.lst us)) d (.xd [(y, .ref p'), ("word", .str word)]) := funext fun b => by
          by_cases h1 : b = d
          · subst h1
            rw [upd_same, upd_same]
          · rw [upd_ne h1, upd_ne h1]
            by_cases h2 : b = a'
            · subst h2
              rw [del_same, upd_ne (Ne.symm hpa), hn]
            · rw [del_ne h2, xd.rest b h2 h1]
              by_cases h5 : b = p'
              · subst h5
                rw [upd_same, upd_same]
              · rw [upd_ne h5, upd_ne h5, upd_ne h2]
        refine ⟨rfl, d, _, xd.oa, xd.od, hdn, ?_⟩
        rw [hh]
        have x1 : Ext ι1 H1 (ι1 ++ [p']) (upd H1 p' (.lst us)) := Rep.newExt hp
        have rp1 := r1.new hp (o := .lst ys) (u := .lst us) ⟨us, rfl, h4.mono x1⟩
        have hd1 : upd H1 p' (.lst us) d = none := by rw [upd_ne hpd]; exact hdn
        have x2 : Ext (ι1 ++ [p']) (upd H1 p' (.lst us)) (ι1 ++ [p'] ++ [d]) (upd (upd H1 p' (.lst us)) d (.xd [(y, .ref p'), ("word", .str word)])) := Rep.newExt hd1
        have rp2 := rp1.new hd1 (o := .xd c [.str word, .ref S1.length]) (u := .xd [(y, .ref p'), ("word", .str word)]) ⟨_, rfl, fun i u f e1 e2 => by
          rw [T.att] at e2
          have hyw : wordS ≠ y := by
            have := T.nd
            rw [List.nodup_cons] at this
            exact fun z => this.1 (by rw [z]; exact List.mem_singleton_self _)
          match i with
          | 0 =>
            cases e1
            cases e2
            refine ⟨.str word, ?_, .str _⟩
            rw [List.lookup_cons, beq_false_of_ne hyw, List.lookup_cons, beq_self_eq_true]
          | 1 =>
            cases e1
            cases e2
            exact ⟨.ref p', by rw [List.lookup_cons, beq_self_eq_true], (r1.newRef (H' := upd H1 p' (.lst us))).mono x2⟩
          | i + 2 => cases e1⟩
        have o2 : OutS L W ι1 H1 (.exc (S1.length + 1) σ (S1 ++ [.lst ys, .xd c [.str word, .ref S1.length]])) D := o1
        rw [show S1 ++ [OO.lst ys, .xd c [.str word, .ref S1.length]] = S1 ++ [.lst ys] ++ [.xd c [.str word, .ref S1.length]] from by simp] at o2
        refine o2 _ _ τ _ _ (x1.trans x2) rp2 (s1.mono (x1.trans x2)) ⟨c, [.str word, .ref S1.length], d, ?_, rfl, rfl, ?_⟩
        · have := get_last (S := S1 ++ [OO.lst ys]) (o := .xd c [.str word, .ref S1.length])
          rwa [List.length_append] at this
        · have hl : (ι1 ++ [p']).length = S1.length + 1 := by rw [List.length_append, r1.len]; rfl
          rw [← hl, List.getElem?_append_right (Nat.le_refl _), Nat.sub_self]
          rfl
      | _ => rw [e0, e1] at o1; exact o1.elim
  | _ => exact o1.elim
end
end Sx
end
/-! Sx16: several except clauses, each with or without a name. -/
noncomputable section
namespace Sx
open PySem PySem.Spec
open PyProof.Rows L2
/-- a clause: the class it names, the slot of its name, its suite -/
abbrev Cla : Type := Value × Option Nat × (Addr → Value → Option Addr → TS)
/-- behind a suite the name is gone -/
def gone1 (D : Ends) (i : Nat) : Ends := { nx := fun τ H => D.nx (τ.set i none) H, rt := D.rt, bk := fun τ H => D.bk (τ.set i none) H, ct := fun τ H => D.ct (τ.set i none) H }
def suiteIn (ts : TS) (D : Ends) (o : Option Nat) (a : Addr) (τ : L2.St) (H : Hp) : Prop := match o with
  | none => ts D τ H
  | some i => ts (gone1 D i) (τ.set i (some (.ref a))) H
def wMix (K : PySem.W.Frag) (Wout : WX) (D : Ends) : List Cla → WX
  | [] => Wout
  | q :: r => fun cls d τ H => ∃ b, PySem.W.exmOne K cls q.1 = some b ∧ (b = true → ∀ a, H a = none → suiteIn (q.2.2 a cls d) D q.2.1 a τ H) ∧ (b = false → wMix K Wout D r cls d τ H)
/-- the name of a clause is a local of the def -/
def NameOk (X : Cx) (n : Option Str) (i : Option Nat) : Prop := match n, i with
  | none, none => True
  | some n, some i => X.N[i]? = some n ∧ X.env.kindOf n = some .local
  | _, _ => False
inductive ClaOk (X : Cx) : List ExceptHandler → List Cla → Prop
  | nil : ClaOk X [] []
  | cons {x : Str} {c : Value} {n : Option Str} {i : Option Nat} {ts : Addr → Value → Option Addr → TS} {b : Stmt} {bs : List Stmt} {q1 q2 : Pos} {hs : List ExceptHandler} {l : List Cla} (nm : Names X x c) (lc : NameOk X n i)
      (su : ∀ (a : Addr) (oe : Obj) (cls : Value) (d : Option Addr) (pn : List (Addr × Obj)), Zc cls d oe → (∃ vs, oe.data = .fields vs) → PSs (X.suite a ((a, oe) :: pn)) (b :: bs) (ts a cls d)) (rest : ClaOk X hs l) :
      ClaOk X (.ExceptHandler (some (.Name x q1)) n (b :: bs) q2 :: hs) ((c, i, ts) :: l)
section
variable {X : Cx} {body : List Stmt} {h1 : ExceptHandler} {hs : List ExceptHandler} {l : List Cla} {pos : Pos} {tb : WX → TS} {Wout : WX}
theorem ps_try_mix (st : X.stack = X.env :: X.outer) (fr : X.env.frame = some X.env.locals) (nd : X.N.Nodup) (tk : Takes X Wout)
    (hb : ∀ (W : WX) (pn : List (Addr × Obj)) (xe : Value → Shared → Prop), Takes (X.tr pn xe) W → PassesOwn (model X.prog X.w) X.A X.env xe → PSs (X.tr pn xe) body (tb W))
    (hh : ClaOk X (h1 :: hs) l) : PS X (.Try body (h1 :: hs) [] [] pos) (fun D τ H => tb (wMix X.K Wout D l) D τ H) := ⟨fun pins s0 τ0 H0 D I0 goal => by
  have ok := I0.ok
  have frs_ : X.A.frames = some (X.env :: X.outer) := ok.frames.trans (congrArg some st)
  refine wpAny_Try_except (wpAny_mono ((hb (wMix X.K Wout D l) (X.pn ++ pins) (fun e sa => wpAny (model X.prog X.w) X.A (noteFrame e X.env) (fun _ sb => wpAny (model X.prog X.w) X.A (setFlight e none) (fun _ sc =>
    wpAny (model X.prog X.w) X.A (handleBy e X.env (h1 :: hs)) (SP X pins D) X.xe sc) X.xe sb) X.xe sa) (fun u s' fly => ?land) PassesOwn.looking).run [] s0 τ0 H0 D (I0.toTry _) goal) (fun fl sE fine => ?thru) fun _ _ z => z)
  case land =>
    obtain ⟨a, B, sI, _, τ, H, cls, d, rfl, Iy, nb, up, sky, na, eqo, bare, want⟩ := fly
    have I : Inv X pins τ H sI := Iy.ofTry ok
    show wpAny (model X.prog X.w) X.A (noteFrame (.ref a) X.env) _ _ _
    refine Sky.land Zc.steady frs_ fr (st ▸ sky) fun hA flA upA => ?_
    have IA : Inv X pins τ H { s' with heap := hA } := I.landed nb flA.1 (up.trans upA) eqo bare
    obtain ⟨oA, vA, atA, zA, dA⟩ := flA.there
    have away : a ∉ frs (X.env :: X.outer) := fun hm => by
      obtain ⟨_, o', e', no⟩ := flA.2.2.1.mem hm
      rw [atA] at e'
      cases e'
      exact no _ dA
    have aL : a ≠ X.env.locals := fun z => away (List.mem_filterMap.mpr ⟨X.env, List.mem_cons_self, fr.trans (congrArg some z.symm)⟩)
    have aF : a ∉ X.fs := fun hm => by
      obtain ⟨e, he, q⟩ := List.mem_filterMap.mp hm
      exact away (List.mem_filterMap.mpr ⟨e, List.mem_cons_of_mem _ he, q⟩)
    have IS := IA.suite atA dA na aL aF
    have all : ∀ {hs' : List ExceptHandler} {l' : List Cla}, ClaOk X hs' l' → wMix X.K Wout D l' cls d τ H → wpAny (model X.prog X.w) X.A (handleBy (.ref a) X.env hs') (SP X pins D) X.xe { s' with heap := hA } := by
      intro hs' l' ok'
      induction ok' with
      | nil =>
        intro out
        refine wpAny_handleBy_nil ?_
        obtain ⟨_, _, _, oe, vs, T, _, _, he, hz, hd, hv, _⟩ := id flA
        have last : wpAny (model X.prog X.w) X.A (setFlight (.ref a) X.env.frame) (fun _ sz => wpAny (model X.prog X.w) X.A (throw (.ref a) : Sem Flow) (SP X pins D) X.xe sz) X.xe { s' with heap := hA } := by
          rw [fr]
          refine HandSPX.setFlight_upZ flA fun hZ held upZ => wpAny_throw (tk _ _ ⟨a, B, sI, pins, τ, H, cls, d, rfl, I, nb, (up.trans upA).trans upZ, .inr (.inr ?_), na, eqo, bare, out⟩)
          rw [st]
          exact held
        unfold PySem.passOn
        refine wpAny_bind (wpAny_field he hd hv ?_)
        rw [if_neg (show ¬ (Value.ref T == Value.none) = true from Bool.noConfusion)]
        first
        | exact wpAny_bind (wpAny_pure (wpAny_bind last))
        | exact wpAny_bind last
      | @cons x c n i ts b bs q1 q2 hs2 l2 nm lc su rest ih =>
        rintro ⟨bb, isb, yes, no⟩
        refine wpAny_handleBy_cons (codeAny_handlers_test ?_) (fun q => by cases q)
        have kind : PySem.W.Looks (model X.prog X.w) hA (typeOf (.ref a)) cls := fun A' Q' E' s2 k q => wpAny_typeOf_ref (k _ _ atA) (zA.1.symm ▸ q)
        have cl := PySem.W.exm_one (M := model X.prog X.w) IA.kIn kind isb
        have named : ∀ {Q' E' : Value → Shared → Prop}, Q' c { s' with heap := hA } → wpAny (model X.prog X.w) (X.A.mark (some (.ref a))) (eval (.Name x q1) X.env) Q' E' { s' with heap := hA } := fun q => by
          rcases nm with ⟨g1, g2, g3 | ⟨g3, g4, g5⟩⟩
          · exact ld_glob (X := X.suite a ((a, oA) :: (X.pn ++ pins))) IS g1 g3 q g2
          · exact ld_blt (X := X.suite a ((a, oA) :: (X.pn ++ pins))) IS g1 g3 g4 q g5 g2
        refine named (cl.here ?_)
        cases bb with
        | false => exact ih (no rfl)
        | true =>
          have go := yes rfl a na
          match n, i, lc, go with
          | none, none, _, go =>
            refine codeAny_handlers_suite (HandSPX.lands_againZ flA fun hB flB upB => ?_)
            have IB : Inv X pins τ H { s' with heap := hB } := I.landed nb flB.1 ((up.trans upA).trans upB) eqo bare
            obtain ⟨oB, vB, atB, zB, dB⟩ := flB.there
            refine wpAny_mono ((su a oB cls d (X.pn ++ pins) zB ⟨_, dB⟩).run [] _ _ H _ (IB.suite atB dB na aL aF) go) (fun fl sf fine => ?_) fun _ _ z => z.elim
            match fl, fine with
            | .next, ⟨τ6, H6, I6, q⟩ => exact ⟨_, _, I6.unsuite ok, q⟩
            | .brk, ⟨τ6, H6, I6, q⟩ => exact ⟨_, _, I6.unsuite ok, q⟩
            | .cont, ⟨τ6, H6, I6, q⟩ => exact ⟨_, _, I6.unsuite ok, q⟩
            | .ret u, ⟨v6, τ6, H6, I6, r6, q⟩ => exact ⟨_, _, _, I6.unsuite ok, r6, q⟩
          | some n, some i, lc, go =>
            refine codeAny_handlers_suite_as (HandSPX.lands_againZ flA fun hB flB upB => ?_)
            have IB : Inv X pins τ H { s' with heap := hB } := I.landed nb flB.1 ((up.trans upA).trans upB) eqo bare
            obtain ⟨oB, vB, atB, zB, dB⟩ := flB.there
            refine store_ok (X := X.suite a ((a, oB) :: (X.pn ++ pins))) (v := .ref a) (IB.suite atB dB na aL aF) nd lc.1 (.inl lc.2) rfl (fun sN IN => ?_) (.inr lc.2)
            refine wpAny_mono ((su a oB cls d (X.pn ++ pins) zB ⟨_, dB⟩).run [] sN _ H _ IN go) (fun fl sf fine => ?_) fun _ _ z => z.elim
            have off : ∀ {τ6 : L2.St} {H6 : Hp} {Q6 : Shared → Prop}, Inv (X.suite a ((a, oB) :: (X.pn ++ pins))) [] τ6 H6 sf → (∀ s7, Inv X pins (τ6.set i none) H6 s7 → Q6 s7) →
                wpAny (model X.prog X.w) X.A (do bindName X.env n .none; unbindBehindTheSuite X.env n q2) (fun _ s7 => Q6 s7) X.xe sf := fun I6 hq => gone_ok (I6.unsuite ok) nd lc.1 lc.2 hq
            match fl, fine with
            | .next, ⟨τ6, H6, I6, q⟩ => exact off I6 fun s7 I7 => ⟨_, _, I7, q⟩
            | .brk, ⟨τ6, H6, I6, q⟩ => exact off I6 fun s7 I7 => ⟨_, _, I7, q⟩
            | .cont, ⟨τ6, H6, I6, q⟩ => exact off I6 fun s7 I7 => ⟨_, _, I7, q⟩
            | .ret u, ⟨v6, τ6, H6, I6, r6, q⟩ => exact off I6 fun s7 I7 => ⟨_, _, _, I7, r6, q⟩
    exact all hh want
  case thru =>
    match fl, fine with
    | .next, ⟨τ6, H6, I6, q⟩ => exact wpAny_execs_nil ⟨τ6, H6, I6.ofTry ok, q⟩
    | .brk, ⟨τ6, H6, I6, q⟩ => exact ⟨τ6, H6, I6.ofTry ok, q⟩
    | .cont, ⟨τ6, H6, I6, q⟩ => exact ⟨τ6, H6, I6.ofTry ok, q⟩
    | .ret u, ⟨v6, τ6, H6, I6, r6, q⟩ => exact ⟨v6, τ6, H6, I6.ofTry ok, r6, q⟩⟩
end
end Sx
end
/-! Sx17: the mirror of try. -/
noncomputable section
namespace Sx
open PySem PySem.Spec
open PyProof.Rows L2
/-- which classes there are, each with those above it (itself too) -/
abbrev ExTab := List (Nat × List Nat)
def exIs (T : ExTab) (c h : Nat) : Option Bool := (T.lookup c).map fun l => l.contains h
def wipe1 (o : Option Nat) (σ : Sg) : Sg := match o with
  | none => σ
  | some i => σ.set i none
def SR.gone (o : Option Nat) (r : SR) : SR := match r with
  | .nx σ S => .nx (wipe1 o σ) S
  | .bk σ S => .bk (wipe1 o σ) S
  | .ct σ S => .ct (wipe1 o σ) S
  | .rt v S => .rt v S
  | _ => .fail
def fits (o : Option Nat) (σ : Sg) : Bool := match o with
  | none => true
  | some i => decide (i < σ.length)
abbrev MCla := Nat × Option Nat × (Nat → SM)
def clsAt (S : Sto) (n : Nat) : Option Nat := match S[n]? with
  | some (.xd c _) => some c
  | _ => none
def mHs (T : ExTab) : List MCla → Nat → Sg → Sto → SR
  | [], n, σ, S => .exc n σ S
  | q :: r, n, σ, S => match (clsAt S n).bind fun c => exIs T c q.1 with
    | some true => if fits q.2.1 σ = true then (q.2.2 n (wipe1 q.2.1 σ) S).gone q.2.1 else .fail
    | some false => mHs T r n σ S
    | none => .fail
def mTry (T : ExTab) (hs : List MCla) (b : SM) : SM := fun σ S => match b σ S with
  | .exc n σ1 S1 => mHs T hs n σ1 S1
  | r => r
structure ExT (K : PySem.W.Frag) (L : Lay) (T : ExTab) (hs : List Nat) : Prop where
  exm : ∀ c h b, exIs T c h = some b → h ∈ hs → PySem.W.exmOne K (.ref (L.C c)) (.ref (L.C h)) = some b
  xf : ∀ c h b, exIs T c h = some b → XfC K (L.C c)
  no : ∀ c h b, exIs T c h = some b → ∀ f ∈ L.att c, PySem.W.findIn K (.ref (L.C c)) f = some none
def exTB (K : PySem.W.Frag) (L : Lay) (T : ExTab) (hs : List Nat) : Bool := T.all fun p => (hs.all fun h => decide (PySem.W.exmOne K (.ref (L.C p.1)) (.ref (L.C h)) = some (p.2.contains h))) && (xfB K (L.C p.1) && (L.att p.1).all fun f => decide (PySem.W.findIn K (.ref (L.C p.1)) f = some none))
theorem exIs_mem {T : ExTab} {c h : Nat} {b : Bool} (e : exIs T c h = some b) : ∃ p ∈ T, p.1 = c ∧ p.2.contains h = b := by
  induction T with
  | nil => cases e
  | cons p r ih =>
    obtain ⟨k, l⟩ := p
    unfold exIs at e
    rw [List.lookup_cons] at e
    by_cases q : c = k
    · subst q
      rw [beq_self_eq_true] at e
      exact ⟨_, List.mem_cons_self, rfl, Option.some.inj e⟩
    · rw [beq_false_of_ne q] at e
      obtain ⟨p, h1, h2⟩ := ih e
      exact ⟨p, List.mem_cons_of_mem _ h1, h2⟩
theorem exTB_ok {K : PySem.W.Frag} {L : Lay} {T : ExTab} {hs : List Nat} (h : exTB K L T hs = true) : ExT K L T hs := by
  have key : ∀ p ∈ T, (∀ h ∈ hs, PySem.W.exmOne K (.ref (L.C p.1)) (.ref (L.C h)) = some (p.2.contains h)) ∧ XfC K (L.C p.1) ∧ ∀ f ∈ L.att p.1, PySem.W.findIn K (.ref (L.C p.1)) f = some none := fun p hp => by
    have := List.all_eq_true.mp h p hp
    obtain ⟨h1, h2⟩ := and2 this
    obtain ⟨h2, h3⟩ := and2 h2
    exact ⟨fun x hx => of_decide_eq_true (List.all_eq_true.mp h1 x hx), xfB_ok h2, fun f hf => of_decide_eq_true (List.all_eq_true.mp h3 f hf)⟩
  refine ⟨fun c h b e hh => ?_, fun c h b e => ?_, fun c h b e => ?_⟩
  · obtain ⟨p, h1, rfl, rfl⟩ := exIs_mem e
    exact (key p h1).1 h hh
  · obtain ⟨p, h1, rfl, _⟩ := exIs_mem e
    exact (key p h1).2.1
  · obtain ⟨p, h1, rfl, _⟩ := exIs_mem e
    exact (key p h1).2.2
/-- what a suite knows: at n the refusal of class c, caught at a -/
def rdSx (L : Lay) (T : ExTab) (h : Nat) (o : Option Nat) (sm : Nat → SM) (a : Addr) (cls : Value) (d : Option Addr) : TS := fun D τ H => ∃ (ι : List Addr) (S : Sto) (σ : Sg) (n c : Nat) (fs : List VV) (dd : Addr), Rep L ι S H ∧ RS L ι H σ τ ∧ S[n]? = some (.xd c fs) ∧ cls = .ref (L.C c) ∧ d = some dd ∧ ι[n]? = some dd ∧
  exIs T c h = some true ∧ (∀ i, o = some i → τ[i]? = some (some (.ref a))) ∧ OutS L WF ι H (sm n σ S) D
section
variable {X : Cx} {L : Lay} {W : WX} {T : ExTab}
inductive MHs (X : Cx) (L : Lay) (T : ExTab) : List ExceptHandler → List MCla → Prop
  | nil : MHs X L T [] []
  | cons {x : Str} {h : Nat} {n : Option Str} {o : Option Nat} {sm : Nat → SM} {b : Stmt} {bs : List Stmt} {q1 q2 : Pos} {hs : List ExceptHandler} {l : List MCla} (nm : Names X x (.ref (L.C h))) (lc : NameOk X n o) (ex : ∀ c b, exIs T c h = some b → PySem.W.exmOne X.K (.ref (L.C c)) (.ref (L.C h)) = some b)
      (su : ∀ (a : Addr) (oe : Obj) (cls : Value) (d : Option Addr) (pn : List (Addr × Obj)), Zc cls d oe → (∃ vs, oe.data = .fields vs) → PSs (X.suite a ((a, oe) :: pn)) (b :: bs) (rdSx L T h o sm a cls d)) (rest : MHs X L T hs l) :
      MHs X L T (.ExceptHandler (some (.Name x q1)) n (b :: bs) q2 :: hs) ((h, o, sm) :: l)
theorem RS.bothNone {ι : List Addr} {H : Hp} {σ : Sg} {τ : L2.St} (i : Nat) (r : RS L ι H σ τ) : RS L ι H (σ.set i none) (τ.set i none) := r.gone i
theorem gone_out {ι : List Addr} {H : Hp} {r : SR} {D : Ends} {o : Option Nat} (h : OutS L W ι H (r.gone o) D) : OutS L WF ι H r (match o with
    | none => D
    | some i => gone1 D i) := by
  cases o with
  | none =>
    cases r with
    | nx σ S => exact h
    | rt v S => exact h
    | bk σ S => exact h
    | ct σ S => exact h
    | exc n σ S => exact h.elim
    | fail => exact h.elim
  | some i =>
    cases r with
    | nx σ S => exact fun ι1 H1 τ ex r1 s1 => h ι1 H1 _ ex r1 (s1.bothNone i)
    | rt v S => exact h
    | bk σ S => exact fun ι1 H1 τ ex r1 s1 => h ι1 H1 _ ex r1 (s1.bothNone i)
    | ct σ S => exact fun ι1 H1 τ ex r1 s1 => h ι1 H1 _ ex r1 (s1.bothNone i)
    | exc n σ S => exact h.elim
    | fail => exact h.elim
theorem mHs_ok {hs : List ExceptHandler} {l : List MCla} (m : MHs X L T hs l) : ∃ k : List Cla, ClaOk X hs k ∧ ∀ {ι : List Addr} {S : Sto} {σ : Sg} {τ : L2.St} {H : Hp} {n : Nat} {cls : Value} {d : Option Addr} {D : Ends}, Rep L ι S H → RS L ι H σ τ → XR L ι S n cls d → OutS L W ι H (mHs T l n σ S) D → wMix X.K W D k cls d τ H := by
  induction m with
  | nil => exact ⟨[], .nil, fun {ι S σ τ H n cls d D} rp rs x o => o ι H τ cls d (Ext.refl _ _) rp rs x⟩
  | @cons x h nn oo sm b bs q1 q2 hs l nm lc ex su rest ih =>
    obtain ⟨k, k1, k2⟩ := ih
    refine ⟨_, .cons nm lc su k1, fun {ι S σ τ H n cls d D} rp rs x o => ?_⟩
    obtain ⟨c, fs, dd, e1, e2, e3, e4⟩ := x
    have ec : clsAt S n = some c := by unfold clsAt; rw [e1]
    have o1 : OutS L W ι H (match exIs T c h with
      | some true => if fits oo σ = true then (sm n (wipe1 oo σ) S).gone oo else .fail
      | some false => mHs T l n σ S
      | none => .fail) D := by
      have := o
      unfold mHs at this
      rw [ec] at this
      exact this
    cases e5 : exIs T c h with
    | none => rw [e5] at o1; exact o1.elim
    | some bb =>
      rw [e5] at o1
      refine ⟨bb, by rw [e2]; exact ex c bb e5, fun hb a na => ?_, fun hb => ?_⟩
      · subst hb
        dsimp only at o1
        by_cases hf : fits oo σ = true
        · rw [if_pos hf] at o1
          cases oo with
          | none => exact ⟨ι, S, σ, n, c, fs, dd, rp, rs, e1, e2, e3, e4, e5, (fun i z => by cases z), gone_out o1⟩
          | some i =>
            have hi : i < σ.length := of_decide_eq_true hf
            refine ⟨ι, S, σ.set i none, n, c, fs, dd, rp, rs.gone i, e1, e2, e3, e4, e5, fun j z => ?_, gone_out o1⟩
            cases z
            exact List.getElem?_set_self (by rw [← rs.len]; exact hi)
        · rw [if_neg hf] at o1
          exact o1.elim
      · subst hb
        exact k2 rp rs ⟨c, fs, dd, e1, e2, e3, e4⟩ o1
theorem ms_try {body : List Stmt} {h1 : ExceptHandler} {hs : List ExceptHandler} {l : List MCla} {pos : Pos} {b : SM} (st : X.stack = X.env :: X.outer) (fr : X.env.frame = some X.env.locals) (nd : X.N.Nodup) (tk : Takes X W)
    (hb : ∀ (W : WX) (pn : List (Addr × Obj)) (xe : Value → Shared → Prop), Takes (X.tr pn xe) W → PassesOwn (model X.prog X.w) X.A X.env xe → MSs (X.tr pn xe) L W body b) (hh : MHs X L T (h1 :: hs) l) :
    MS X L W (.Try body (h1 :: hs) [] [] pos) (mTry T l b) := by
  obtain ⟨k, k1, k2⟩ := mHs_ok (W := W) hh
  refine PS.wk (ps_try_mix (tb := fun W => rdS L W b) st fr nd tk hb k1) fun D τ H ⟨ι, S, σ, rp, rs, o⟩ => ⟨ι, S, σ, rp, rs, ?_⟩
  have o1 : OutS L W ι H (match b σ S with
    | .exc n σ1 S1 => mHs T l n σ1 S1
    | r => r) D := o
  cases e : b σ S with
  | nx σ S => rw [e] at o1; exact o1
  | rt v S => rw [e] at o1; exact o1
  | bk σ S => rw [e] at o1; exact o1
  | ct σ S => rw [e] at o1; exact o1
  | exc n σ1 S1 =>
    rw [e] at o1
    exact fun ι1 H1 τ1 cls d ex r1 s1 x1 => k2 r1 s1 x1 (OutS.mono ex o1)
  | fail => rw [e] at o1; exact o1.elim
/-! ### suites -/
theorem su_plain {h : Nat} {o : Option Nat} {m : SM} {s : List Stmt} {a : Addr} {oe : Obj} {cls : Value} {d : Option Addr} {pn : List (Addr × Obj)} (hm : MSs (X.suite a ((a, oe) :: pn)) L WF s m) : PSs (X.suite a ((a, oe) :: pn)) s (rdSx L T h o (fun _ => m) a cls d) :=
  PSs.wk hm fun D τ H ⟨ι, S, σ, n, c, fs, dd, rp, rs, _, _, _, _, _, _, o⟩ => ⟨ι, S, σ, rp, rs, o⟩
inductive XP where
  | str (x : Str)
  | non
  | fld (j : Nat)
def xpV (fs : List VV) : XP → Option VV
  | .str x => some (.str x)
  | .non => some .non
  | .fld j => fs[j]?
def xdAt (S : Sto) (n : Nat) : Option (List VV) := match S[n]? with
  | some (.xd _ fs) => some fs
  | _ => none
def optRt (o : Option VV) (S : Sto) : SR := match o with
  | some v => .rt v S
  | none => .fail
def mXRet (p : XP) (n : Nat) : SM := fun _ S => optRt ((xdAt S n).bind fun fs => xpV fs p) S
def mXRetT (ps : List XP) (n : Nat) : SM := fun _ S => optRt ((xdAt S n).bind fun fs => (ps.mapM (xpV fs)).map .tup) S
/-- one part of what a suite returns -/
def PartOk (X : Cx) (L : Lay) (T : ExTab) (h i : Nat) (e : Expr) (p : XP) : Prop := ∀ (a : Addr) (oe : Obj) (cls : Value) (d : Option Addr) (pn : List (Addr × Obj)), Zc cls d oe → (∃ vs, oe.data = .fields vs) → ∀ (c : Nat), cls = .ref (L.C c) → exIs T c h = some true →
  PE (X.suite a ((a, oe) :: pn)) e fun τ H Q => ∃ (ι : List Addr) (S : Sto) (n : Nat) (fs : List VV) (dd : Addr) (x : VV), Rep L ι S H ∧ S[n]? = some (.xd c fs) ∧ d = some dd ∧ ι[n]? = some dd ∧ τ[i]? = some (some (.ref a)) ∧ xpV fs p = some x ∧ ∀ v, RV L ι H x v → Q v H
theorem part_str {h i : Nat} {x : Str} {j : Nat} {pos : Pos} : PartOk X L T h i (.Constant (.str x) j pos) (.str x) := fun a oe cls d pn _ _ c _ _ => PE.wk pe_str fun τ H Q ⟨_, _, _, _, _, _, _, _, _, _, _, e, q⟩ => by
  cases e
  exact q _ (.str x)
theorem part_non {h i : Nat} {j : Nat} {pos : Pos} : PartOk X L T h i (.Constant .none j pos) .non := fun a oe cls d pn _ _ c _ _ => PE.wk pe_non fun τ H Q ⟨_, _, _, _, _, _, _, _, _, _, _, e, q⟩ => by
  cases e
  exact q _ .non
theorem part_fld {hs : List Nat} {h i j : Nat} {x f : Str} {pos q : Pos} (E : ExT X.K L T hs) (hf : ∀ c, exIs T c h = some true → (L.att c)[j]? = some f) (hN : X.N[i]? = some x := by rfl)
    (hv : Vis X.env.scope x := by first | exact Or.inl rfl | exact Or.inr (Or.inl rfl) | exact Or.inr (Or.inr rfl)) (hd : (x == ("__debug__" : Str)) = false := by decide) (hcd : (x == ("__classdict__" : Str)) = false := by decide)
    (hb : attributeBase (.Name x q) f X.env (eval (.Name x q) X.env) = eval (.Name x q) X.env := by rfl) : PartOk X L T h i (.Attribute (.Name x q) f pos) (.fld j) := fun a oe cls d pn hz hw c hc ht =>
  PE.wk (pe_xf (C := L.C c) (n := f) (E.xf c h _ ht) (E.no c h _ ht f (List.mem_of_getElem? (hf c ht))) hz hw (pe_var (X := X.suite a ((a, oe) :: pn)) (i := i) hN hv hd hcd) hb) fun τ H Q ⟨ι, S, n, fs, dd, y, rp, e1, e2, e3, e4, e5, k⟩ => by
    obtain ⟨a', u, h1, h2, h3⟩ := rp.at_ n _ e1
    rw [e3] at h1
    cases h1
    obtain ⟨fs', rfl, h4⟩ := h3
    obtain ⟨v, h5, h6⟩ := h4 j y f e5 (hf c ht)
    exact ⟨.ref a, e4, rfl, hc, dd, fs', v, e2, h2, h5, k v h6⟩
theorem su_ret {h i : Nat} {e : Expr} {p : XP} {pos : Pos} {a : Addr} {oe : Obj} {cls : Value} {d : Option Addr} {pn : List (Addr × Obj)} (hz : Zc cls d oe) (hw : ∃ vs, oe.data = .fields vs) (hp : PartOk X L T h i e p) : PSs (X.suite a ((a, oe) :: pn)) [.Return (some e) pos] (rdSx L T h (some i) (mXRet p) a cls d) :=
  ⟨fun pins s τ H D I ⟨ι, S, σ, n, c, fs, dd, rp, rs, e1, e2, e3, e4, e5, e6, o⟩ => (pss_one (ps_ret (hp a oe cls d pn hz hw c e2 e5))).run pins s τ H D I (by
    have o1 : OutS L WF ι H (optRt ((xdAt S n).bind fun fs => xpV fs p) S) D := o
    have e7 : xdAt S n = some fs := by unfold xdAt; rw [e1]
    rw [e7] at o1
    have o2 : OutS L WF ι H (optRt (xpV fs p) S) D := o1
    cases e8 : xpV fs p with
    | none => rw [e8] at o2; exact o2.elim
    | some x =>
      rw [e8] at o2
      exact ⟨ι, S, n, fs, dd, x, rp, e1, e3, e4, e6 i rfl, e8, fun v rv => o2 ι H v (Ext.refl _ _) rp rv⟩)⟩
inductive PartsOk (X : Cx) (L : Lay) (T : ExTab) (h i : Nat) : List Expr → List XP → Prop
  | nil : PartsOk X L T h i [] []
  | cons {e : Expr} {es : List Expr} {p : XP} {ps : List XP} (hp : PartOk X L T h i e p) (r : PartsOk X L T h i es ps) (hs : ∀ a oe pn, starEach (e :: es) (X.suite a ((a, oe) :: pn)).env = (false, eval e (X.suite a ((a, oe) :: pn)).env) :: starEach es (X.suite a ((a, oe) :: pn)).env := by intro _ _ _; rfl) : PartsOk X L T h i (e :: es) (p :: ps)
theorem parts_pa {h i : Nat} {es : List Expr} {ps : List XP} (m : PartsOk X L T h i es ps) {a : Addr} {oe : Obj} {cls : Value} {d : Option Addr} {pn : List (Addr × Obj)} (hz : Zc cls d oe) (hw : ∃ vs, oe.data = .fields vs) {c : Nat} (hc : cls = .ref (L.C c)) (ht : exIs T c h = some true) :
    PA (X.suite a ((a, oe) :: pn)) es fun τ H Q => ∃ (ι : List Addr) (S : Sto) (n : Nat) (fs : List VV) (dd : Addr) (xs : List VV), Rep L ι S H ∧ S[n]? = some (.xd c fs) ∧ d = some dd ∧ ι[n]? = some dd ∧ τ[i]? = some (some (.ref a)) ∧ ps.mapM (xpV fs) = some xs ∧ ∀ vs, RVs L ι H xs vs → Q vs H := by
  induction m with
  | nil =>
    refine PA.wk pa_nil fun τ H Q ⟨_, _, _, _, _, _, _, _, _, _, _, e, q⟩ => ?_
    rw [List.mapM_nil] at e
    cases e
    exact q _ .nil
  | @cons e es p ps hp r hs ih =>
    refine PA.wk (pa_cons (hp a oe cls d pn hz hw c hc ht) ih (hs a oe pn)) fun τ H Q ⟨ι, S, n, fs, dd, xs, rp, e1, e2, e3, e4, e5, q⟩ => ?_
    rw [List.mapM_cons] at e5
    cases q1 : xpV fs p with
    | none => rw [q1] at e5; cases e5
    | some x =>
      cases q2 : ps.mapM (xpV fs) with
      | none => rw [q1, q2] at e5; cases e5
      | some ys =>
        rw [q1, q2] at e5
        cases e5
        exact ⟨ι, S, n, fs, dd, x, rp, e1, e2, e3, e4, q1, fun v rv => ⟨ι, S, n, fs, dd, ys, rp, e1, e2, e3, e4, q2, fun vs rvs => q _ (.cons rv rvs)⟩⟩
theorem xps_len {fs : List VV} : ∀ {ps : List XP} {xs : List VV}, ps.mapM (xpV fs) = some xs → xs.length = ps.length
  | [], _, e => by rw [List.mapM_nil] at e; cases e; rfl
  | p :: ps, _, e => by
    rw [List.mapM_cons] at e
    cases q1 : xpV fs p with
    | none => rw [q1] at e; cases e
    | some x =>
      cases q2 : ps.mapM (xpV fs) with
      | none => rw [q1, q2] at e; cases e
      | some ys =>
        rw [q1, q2] at e
        cases e
        rw [List.length_cons, List.length_cons, xps_len q2]
theorem su_retT {h i : Nat} {es : List Expr} {ps : List XP} {k : Nat} {tp pos : Pos} {a : Addr} {oe : Obj} {cls : Value} {d : Option Addr} {pn : List (Addr × Obj)} (hz : Zc cls d oe) (hw : ∃ vs, oe.data = .fields vs) (hp : PartsOk X L T h i es ps) (hl : ps.length ≤ 1000 := by decide) : PSs (X.suite a ((a, oe) :: pn)) [.Return (some (.Tuple es k tp)) pos] (rdSx L T h (some i) (mXRetT ps) a cls d) :=
  ⟨fun pins s τ H D I ⟨ι, S, σ, n, c, fs, dd, rp, rs, e1, e2, e3, e4, e5, e6, o⟩ => (pss_one (ps_ret (pe_tup (parts_pa hp hz hw e2 e5)))).run pins s τ H D I (by
    have o1 : OutS L WF ι H (optRt ((xdAt S n).bind fun fs => (ps.mapM (xpV fs)).map .tup) S) D := o
    have e7 : xdAt S n = some fs := by unfold xdAt; rw [e1]
    rw [e7] at o1
    have o2 : OutS L WF ι H (optRt ((ps.mapM (xpV fs)).map .tup) S) D := o1
    cases e8 : ps.mapM (xpV fs) with
    | none => rw [e8] at o2; exact o2.elim
    | some xs =>
      rw [e8] at o2
      have o3 : OutS L WF ι H (.rt (.tup xs) S) D := o2
      refine ⟨ι, S, n, fs, dd, xs, rp, e1, e3, e4, e6 i rfl, e8, fun vs rvs => ⟨?_, fun p hp => ?_⟩⟩
      · rw [← rvs.length, xps_len e8]
        exact Nat.le_trans hl (by decide)
      · have ex : Ext ι H ι (upd H p (.tup vs)) := ⟨List.prefix_rfl, Keep.new hp⟩
        exact o3 ι _ _ ex (rp.other hp) (.tup upd_same (rvs.mono ex)))⟩
end
end Sx
end
section
/-! Sx18: a hook with any tests of the written part; the facts of refusals by such tests. -/
namespace Sx
open PySem PySem.Spec
open PyProof.Rows L2
abbrev Fb := PySem.W.Frag → Bool
def obsB (fb : List Fb) (fa : List He.Fa) (fn : List He.DefD) (K : PySem.W.Frag) : He.AlD := ((fb.all fun t => t K) && (He.obsD fa fn K).1, (He.obsD fa fn K).2)
def SaysB (fb : List Fb) (fa : List He.Fa) (fn : List He.DefD) (K : PySem.W.Frag) : Prop := obsB fb fa fn K = He.valD fn
def obsBG (n : Nat) (fb : List Fb) (fa : List He.Fa) (fn : List He.DefD) (g : Addr → Option Obj) : He.AlD := obsB fb fa fn (He.frG g (cStatics :: He.asD g n))
def hookB (n : Nat) (fb : List Fb) (fa : List He.Fa) (fn : List He.DefD) : PySem.W.Hook where
  α := He.AlD
  obs := fun s => obsBG n fb fa fn s.heap.get?
  val := fun _ => He.valD fn
  says := fun _ h => ∃ K : PySem.W.Frag, K.In h ∧ SaysB fb fa fn K
  of := fun _ _ e => ⟨_, He.frG_in, e⟩
  keeps := fun _ _ _ ⟨K, hK, c⟩ k => ⟨K, PySem.W.Frag.In.keeps hK k, c⟩
theorem obsBG_eq {n : Nat} {fb : List Fb} {fa : List He.Fa} {fn : List He.DefD} {g : Addr → Option Obj} {s : Shared} (h : ∀ a, g a = s.heap.get? a) : obsBG n fb fa fn g = (hookB n fb fa fn).obs s := by
  have e : g = s.heap.get? := funext h
  rw [e] <;> rfl
theorem SaysB.d {fb : List Fb} {fa : List He.Fa} {fn : List He.DefD} {K : PySem.W.Frag} (c : SaysB fb fa fn K) : He.SaysD fa fn K := by
  have h1 := (and2 (congrArg (fun z : He.AlD => z.1) c : ((fb.all fun t => t K) && (He.obsD fa fn K).1) = true)).2
  have h2 := congrArg (fun z : He.AlD => z.2) (show obsB fb fa fn K = He.valD fn from c)
  exact Prod.ext h1 h2
theorem SaysB.b {fb : List Fb} {fa : List He.Fa} {fn : List He.DefD} {K : PySem.W.Frag} (c : SaysB fb fa fn K) (i : Nat) {t : Fb} (h : fb[i]? = some t := by rfl) : t K = true := by
  have h1 := (and2 (congrArg (fun z : He.AlD => z.1) c : ((fb.all fun t => t K) && (He.obsD fa fn K).1) = true)).1
  exact List.all_eq_true.mp h1 t (List.mem_of_getElem? h)
/-- the class x is a refusal with an __init__ of its own; it has no attribute of these names -/
def xdB (x : Str) (fs : List Str) : Fb := fun K => oexB K (He.ga K x) && (decide (PySem.W.findIn K (.ref (He.ga K x)) "__init__" = some (some (.ref (He.fAd K (x, some "__init__"))))) && (decide (PySem.W.typeIn K (.ref (He.fAd K (x, some "__init__"))) = some (.type "function")) && fs.all fun f => decide (PySem.W.findIn K (.ref (He.ga K x)) f = some none)))
theorem xdB_ok {x : Str} {fs : List Str} {K : PySem.W.Frag} (h : xdB x fs K = true) : OexC K (He.ga K x) ∧ PySem.W.findIn K (.ref (He.ga K x)) "__init__" = some (some (.ref (He.fAd K (x, some "__init__")))) ∧ PySem.W.typeIn K (.ref (He.fAd K (x, some "__init__"))) = some (.type "function") ∧ ∀ f ∈ fs, PySem.W.findIn K (.ref (He.ga K x)) f = some none := by
  obtain ⟨h1, h⟩ := and2 h
  obtain ⟨h2, h⟩ := and2 h
  obtain ⟨h3, h4⟩ := and2 h
  exact ⟨oexB_ok h1, of_decide_eq_true h2, of_decide_eq_true h3, fun f hf => of_decide_eq_true (List.all_eq_true.mp h4 f hf)⟩
def cfB (x m : Str) : Fb := fun K => cfnB K (He.ga K x) (He.fAd K (x, some m)) m
theorem cfB_ok {x m : Str} {K : PySem.W.Frag} (h : cfB x m K = true) : CFn K (He.ga K x) (He.fAd K (x, some m)) m := cfnB_ok h
def veB : Fb := fun K => match PySem.W.findCls K (.type "ValueError") (.type "type") "__init__" with
  | some (.val (.builtin n)) => decide (n = "ValueError.__init__")
  | _ => false
theorem veB_ok {K : PySem.W.Frag} (h : veB K = true) : PySem.W.findCls K (.type "ValueError") (.type "type") "__init__" = some (.val (.builtin "ValueError.__init__")) := by
  unfold veB at h
  split at h
  · rename_i n e
    rw [e, of_decide_eq_true h]
  · cases h
theorem exAll {T : ExTab} {h : Nat} {P : Nat → Prop} (q : ∀ p ∈ T, p.2.contains h = true → P p.1) : ∀ c, exIs T c h = some true → P c := fun c e => by
  obtain ⟨p, h1, rfl, h2⟩ := exIs_mem e
  exact q p h1 h2
/-- a check of a finite table -/
def attB (at_ : Nat → List Str) (T : ExTab) (h j : Nat) (f : Str) : Bool := T.all fun p => !p.2.contains h || decide ((at_ p.1)[j]? = some f)
theorem attB_ok {at_ : Nat → List Str} {T : ExTab} {h j : Nat} {f : Str} (q : attB at_ T h j f = true) : ∀ c, exIs T c h = some true → (at_ c)[j]? = some f := exAll fun p hp hc => by
  have := List.all_eq_true.mp q p hp
  rw [hc] at this
  exact of_decide_eq_true (by simpa using this)
theorem xdone_seq {K : PySem.W.Frag} {H H' : Hp} {a d C q : Addr} {fs : List (Str × V)} {us : List V} (x : XDone H H' a d C fs) (h : SqL K H q us) (hqa : q ≠ a) : SqL K H' q us := by
  have keep : ∀ o, H q = some o → H' q = some o := fun o e => by
    have hd : q ≠ d := fun z => by
      have := x.dn
      rw [← z, e] at this
      cases this
    rw [x.rest q hqa hd]
    exact e
  rcases h with (h | ⟨o, h⟩) | h
  · exact .inl (.inl (keep _ h))
  · exact .inl (.inr ⟨o, keep _ h⟩)
  · exact .inr h
theorem xdone_lot {H H' : Hp} {a d C l : Addr} {fs : List (Str × V)} {us : List V} {p : Str × V} (x : XDone H H' a d C fs) (hl : H' l = none) : l ≠ a ∧ H l = none ∧ upd H' l (.lst us) a = some (exo a C (some d)) ∧ upd H' l (.lst us) d = some (exd d fs) ∧
    XDone (upd H l (.lst us)) (upd (upd H' l (.lst us)) d (exd d (p :: fs))) a d C (p :: fs) := by
  have la : l ≠ a := fun z => by rw [z, x.oa] at hl; cases hl
  have ld : l ≠ d := fun z => by rw [z, x.od] at hl; cases hl
  have hH : H l = none := by rw [← x.rest l la ld]; exact hl
  refine ⟨la, hH, by rw [upd_ne (Ne.symm la)]; exact x.oa, by rw [upd_ne (Ne.symm ld)]; exact x.od, ?_, x.ne, ?_, upd_same, fun b h1 h2 => ?_⟩
  · rw [upd_ne (Ne.symm ld)]
    exact x.dn
  · rw [upd_ne (Ne.symm x.ne), upd_ne (Ne.symm la)]
    exact x.oa
  · rw [upd_ne h2]
    by_cases c : b = l
    · subst c
      rw [upd_same, upd_same]
    · rw [upd_ne c, upd_ne c]
      exact x.rest b h1 h2
end Sx
end
/-! the mirrors that laws share, printed by mir.py -/
noncomputable section
namespace Sx.Cm
open PySem L2
def m__law_box : FM := fnM 1 1 <|
    mRet (mLst (mCons (mCB (g1 gList) (mCons (mSl (mV 0) (mNoP) (mPart (mC (.int 63)))) (mNil))) (mCons (mC (.int 0)) (mCons (mC (.int 0)) (mCons (mC (.int 29)) (mNil))))))
def m__law_pairs : FM := fnM 1 3 <|
    mRet (mCB (g2 gSumL) (mCons (mLc (mSrc gRng1 (mCons (mV 0) (mNil))) (gmName 1) (mYes) (mLc (mSrc gRng2 (mCons (mOp gAdd (mV 1) (mC (.int 1))) (mCons (mV 0) (mNil)))) (gmName 2) (mYes) (mTup (mCons (mV 1) (mCons (mV 2) (mNil)))) [2]) [1]) (mCons (mLst (mNil)) (mNil))))
def m__law_take : FM := fnM 2 5 <|
    mSeq (mIfS (mTst (mOp gGt (mOp gIx (mV 0) (mC (.int 2))) (mC (.int 0)))) (mSeq (mAsg (mOp gIx (mV 0) (mC (.int 2))) (gmName 4))
    (mSeq (mAsg (mOp gFdiv (mV 4) (mV 1)) (gmSub (mV 0) (mC (.int 2))))
    (mRet (mOp gMod (mV 4) (mV 1))))) (mNext))
    (mSeq (mAsg (mC (.int 0)) (gmName 2))
    (mSeq (mIfS (mTst (mOp gLt (mOp gIx (mV 0) (mC (.int 1))) (mCB (g1 gLen) (mCons (mOp gIx (mV 0) (mC (.int 0))) (mNil))))) (mSeq (mAsg (mOp gIx (mOp gIx (mV 0) (mC (.int 0))) (mOp gIx (mV 0) (mC (.int 1)))) (gmName 2))
    (mAugI gIAdd (mV 0) (mC (.int 1)) (mC (.int 1)))) (mNext))
    (mSeq (mIfS (mTst (mOp gGe (mV 2) (mOp gPow (mC (.int 10)) (mC (.int 18))))) (mSeq (mAsg (mOp gFdiv (mV 2) (mV 1)) (gmSub (mV 0) (mC (.int 2))))
    (mRet (mOp gMod (mV 2) (mV 1)))) (mNext))
    (mSeq (mAsg (mOp gIx (mV 0) (mC (.int 3))) (gmName 3))
    (mSeq (mAsg (mOp gMod (mOp gAdd (mOp gAdd (mOp gAdd (mOp gPow (mV 3) (mC (.int 3))) (mOp gMul (mC (.int 69621)) (mV 3))) (mOp gMul (mC (.int 48271)) (mOp gMod (mV 2) (mC (.int 2147483549))))) (mC (.int 13))) (mC (.int 2147483549))) (gmSub (mV 0) (mC (.int 3))))
    (mRet (mOp gMod (mOp gFdiv (mOp gIx (mV 0) (mC (.int 3))) (mC (.int 64))) (mV 1))))))))
def m__law_some_ties : FM := fnM 3 6 <|
    mSeq (mAsg (mLst (mNil)) (gmName 3))
    (mSeq (mFor (mSeqI (mCall m__law_pairs (mCons (mV 1) (mNil)))) (gmTup 2 (gmCons (gmName 4) (gmCons (gmName 5) (gmNil)))) (mIfS (mAnd (mTst (mOp gLt (mCB (g1 gLen) (mCons (mV 3) (mNil))) (mC (.int 14)))) (mTst (mOp gLt (mCall m__law_take (mCons (mV 0) (mCons (mC (.int 8)) (mNil)))) (mV 2)))) (mDrop (mMt "list" (gLm lmAppend) (mV 3) (mCons (mTup (mCons (mV 4) (mCons (mV 5) (mCons (mOp gAdd (mC (.int 1)) (mCall m__law_take (mCons (mV 0) (mCons (mOp gIx (mLst (mCons (mC (.int 2)) (mCons (mC (.int 9)) (mNil)))) (mCall m__law_take (mCons (mV 0) (mCons (mC (.int 2)) (mNil))))) (mNil))))) (mNil))))) (mNil)))) (mNext)))
    (mRet (mV 3)))
def m__law_far : FM := fnM 3 9 <|
    mSeq (mAsg (mOp gMul (mLst (mCons (mC .non) (mNil))) (mV 0)) (gmName 3))
    (mSeq (mAsg (mC (.int 0)) (gmSub (mV 3) (mV 2)))
    (mSeq (mAsg (mOp gAdd (mV 1) (mLc (mSeqI (mV 1)) (gmTup 3 (gmCons (gmName 6) (gmCons (gmName 7) (gmCons (gmName 8) (gmNil))))) (mYes) (mTup (mCons (mV 7) (mCons (mV 6) (mCons (mV 8) (mNil))))) [6, 7, 8])) (gmName 4))
    (mSeq (mFor (mSrc gRng1 (mCons (mV 0) (mNil))) (gmName 5) (mFor (mSeqI (mV 4)) (gmTup 3 (gmCons (gmName 6) (gmCons (gmName 7) (gmCons (gmName 8) (gmNil))))) (mIfS (mAnd (mTst (mOp (gIs true) (mOp gIx (mV 3) (mV 7)) (mC .non))) (mOr (mTst (mOp (gIs false) (mOp gIx (mV 3) (mV 6)) (mC .non))) (mTst (mOp gLt (mOp gAdd (mOp gIx (mV 3) (mV 7)) (mV 8)) (mOp gIx (mV 3) (mV 6)))))) (mAsg (mOp gAdd (mOp gIx (mV 3) (mV 7)) (mV 8)) (gmSub (mV 3) (mV 6))) (mNext))))
    (mRet (mV 3)))))
def m_looked_house : FM := fnM 2 2 <|
    mIfS (mNot (mTst (mChain (fun i j => decide (i ≤ j)) (fun i j => decide (i < j)) (mC (.int 0)) (mV 1) (mV 0)))) (mRaise 12 "nohouse" (mCons (mV 1) (mNil))) (mNext)
def m_far_holds : FM := fnM 4 9 <|
    mSeq (mDrop (mCall m_looked_house (mCons (mV 0) (mCons (mV 2) (mNil)))))
    (mSeq (mIfS (mOr (mTst (mOp (gEq true) (mCB (g1 gLen) (mCons (mV 3) (mNil))) (mV 0))) (mTst (mOp (gEq true) (mOp gIx (mV 3) (mV 2)) (mC (.int 0))))) (mRet (mC (.bl false))) (mNext))
    (mSeq (mAsg (mLc (mSrc gRng1 (mCons (mV 0) (mNil))) (gmName 8) (mYes) (mOp (gEq false) (mV 8) (mV 2)) [8]) (gmName 4))
    (mSeq (mFor (mSeqI (mV 1)) (gmTup 3 (gmCons (gmName 5) (gmCons (gmName 6) (gmCons (gmName 7) (gmNil))))) (mSeq (mIfS (mTst (mOp (gEq true) (mOp (gIs false) (mOp gIx (mV 3) (mV 5)) (mC .non)) (mOp (gIs false) (mOp gIx (mV 3) (mV 6)) (mC .non)))) (mRet (mC (.bl false))) (mNext))
    (mIfS (mTst (mOp (gIs true) (mOp gIx (mV 3) (mV 5)) (mC .non))) (mSeq (mIfS (mTst (mOp gGt (mCB (g1 gAbs) (mCons (mOp gSub (mOp gIx (mV 3) (mV 5)) (mOp gIx (mV 3) (mV 6))) (mNil))) (mV 7))) (mRet (mC (.bl false))) (mNext))
    (mSeq (mIfS (mTst (mOp (gEq false) (mOp gSub (mOp gIx (mV 3) (mV 5)) (mOp gIx (mV 3) (mV 6))) (mV 7))) (mAsg (mC (.bl true)) (gmSub (mV 4) (mV 5))) (mNext))
    (mIfS (mTst (mOp (gEq false) (mOp gSub (mOp gIx (mV 3) (mV 6)) (mOp gIx (mV 3) (mV 5))) (mV 7))) (mAsg (mC (.bl true)) (gmSub (mV 4) (mV 6))) (mNext)))) (mNext))))
    (mRet (mCB (g1 gAll) (mCons (mLc (mSrc gRng1 (mCons (mV 0) (mNil))) (gmName 8) (mYes) (mOrV (mOp (gIs false) (mOp gIx (mV 3) (mV 8)) (mC .non)) (mOp gIx (mV 4) (mV 8))) [8]) (mNil)))))))
def m__law_same : Nat → FM
  | 0 => fun _ _ => .fail
  | n + 1 => fnM 2 4 <|
    mSeq (mIfS (mTst (mIsiT ["list", "tuple"] (mV 1))) (mSeq (mIfS (mOr (mTst (mOp (gEq true) (mIsi "list" (mV 0)) (mIsi "list" (mV 1)))) (mTst (mOp (gEq true) (mIsi "tuple" (mV 0)) (mIsi "tuple" (mV 1))))) (mRet (mC (.bl false))) (mNext))
    (mRet (mAndV (mOp (gEq false) (mCB (g1 gLen) (mCons (mV 0) (mNil))) (mCB (g1 gLen) (mCons (mV 1) (mNil)))) (mCB (g1 gAll) (mCons (mLc (mSrc gZip (mCons (mV 0) (mCons (mV 1) (mNil)))) (gmTup 2 (gmCons (gmName 2) (gmCons (gmName 3) (gmNil)))) (mYes) (mCall (m__law_same n) (mCons (mV 2) (mCons (mV 3) (mNil)))) [2, 3]) (mNil)))))) (mNext))
    (mSeq (mIfS (mOr (mTst (mOp (gEq true) (mOp (gIs false) (mV 0) (mC .non)) (mOp (gIs false) (mV 1) (mC .non)))) (mTst (mOp (gEq true) (mIsi "bool" (mV 0)) (mIsi "bool" (mV 1))))) (mRet (mC (.bl false))) (mNext))
    (mSeq (mIfS (mTst (mOp (gEq true) (mIsi "int" (mV 0)) (mIsi "int" (mV 1)))) (mRet (mC (.bl false))) (mNext))
    (mRet (mAndV (mOp (gEq false) (mIsi "str" (mV 0)) (mIsi "str" (mV 1))) (mOp (gEq false) (mV 0) (mV 1))))))
def m__law_wild : FM := fnM 1 1 <|
    mRet (mOp gIx (mLst (mCons (mUn gNeg (mC (.int 1))) (mCons (mC (.int 8)) (mCons (mC (.int 9)) (mCons (mOp gPow (mC (.int 10)) (mC (.int 20))) (mCons (mUn gNeg (mOp gPow (mC (.int 10)) (mC (.int 30)))) (mNil))))))) (mCall m__law_take (mCons (mV 0) (mCons (mC (.int 5)) (mNil)))))
def m__law_shuffled : FM := fnM 2 4 <|
    mSeq (mAsg (mLst (mNil)) (gmName 2))
    (mSeq (mFor (mSeqI (mV 1)) (gmName 3) (mDrop (mMt "list" (gLm lmInsert) (mV 2) (mCons (mCall m__law_take (mCons (mV 0) (mCons (mOp gAdd (mCB (g1 gLen) (mCons (mV 2) (mNil))) (mC (.int 1))) (mNil)))) (mCons (mV 3) (mNil))))))
    (mRet (mV 2)))
def m__law_next : FM := fnM 4 9 <|
    mSeq (mAsg (mCall m__law_far (mCons (mV 0) (mCons (mV 1) (mCons (mV 3) (mNil))))) (gmName 4))
    (mSeq (mAsg (mOp gAdd (mLc (mSeqI (mV 1)) (gmTup 3 (gmCons (gmName 8) (gmCons (gmName 6) (gmCons (gmName 7) (gmNil))))) (mTst (mOp (gEq false) (mV 8) (mV 2))) (mTup (mCons (mV 6) (mCons (mV 7) (mNil)))) [8, 6, 7]) (mLc (mSeqI (mV 1)) (gmTup 3 (gmCons (gmName 8) (gmCons (gmName 6) (gmCons (gmName 7) (gmNil))))) (mTst (mOp (gEq false) (mV 6) (mV 2))) (mTup (mCons (mV 8) (mCons (mV 7) (mNil)))) [8, 6, 7])) (gmName 5))
    (mSeq (mAsg (mLc (mSeqI (mV 5)) (gmTup 2 (gmCons (gmName 6) (gmCons (gmName 7) (gmNil)))) (mAnd (mTst (mOp (gIs true) (mOp gIx (mV 4) (mV 6)) (mC .non))) (mTst (mOp (gEq false) (mOp gIx (mV 4) (mV 2)) (mOp gAdd (mOp gIx (mV 4) (mV 6)) (mV 7))))) (mV 6) [6, 7]) (gmName 5))
    (mRet (mMinD (mV 5) (mC .non)))))
def m__law_least : FM := fnM 4 7 <|
    mSeq (mAsg (mCall m__law_far (mCons (mV 0) (mCons (mV 1) (mCons (mV 3) (mNil))))) (gmName 4))
    (mSeq (mIfS (mTst (mOp (gIs false) (mOp gIx (mV 4) (mV 2)) (mC .non))) (mRet (mC .non)) (mNext))
    (mSeq (mAsg (mLst (mCons (mV 2) (mNil))) (gmName 5))
    (mSeq (mFor (mSrc gRng1 (mCons (mV 0) (mNil))) (gmName 6) (mIfS (mTst (mOp (gEq true) (mOp gIx (mV 5) (mUn gNeg (mC (.int 1)))) (mV 3))) (mDrop (mMt "list" (gLm lmAppend) (mV 5) (mCons (mCall m__law_next (mCons (mV 0) (mCons (mV 1) (mCons (mOp gIx (mV 5) (mUn gNeg (mC (.int 1)))) (mCons (mV 3) (mNil)))))) (mNil)))) (mNext)))
    (mRet (mTup (mCons (mOp gIx (mV 4) (mV 2)) (mCons (mCB (g1 gTuple) (mCons (mV 5) (mNil))) (mNil))))))))
def m_beside : FM := fnM 2 8 <|
    mSeq (mAsg (mLc (mSrc gRng1 (mCons (mV 0) (mNil))) (gmName 6) (mYes) (mLst (mNil)) [6]) (gmName 2))
    (mSeq (mFor (mSeqI (mV 1)) (gmTup 3 (gmCons (gmName 3) (gmCons (gmName 4) (gmCons (gmName 5) (gmNil))))) (mSeq (mDrop (mMt "list" (gLm lmAppend) (mOp gIx (mV 2) (mV 3)) (mCons (mTup (mCons (mV 4) (mCons (mV 5) (mNil)))) (mNil))))
    (mDrop (mMt "list" (gLm lmAppend) (mOp gIx (mV 2) (mV 4)) (mCons (mTup (mCons (mV 3) (mCons (mV 5) (mNil)))) (mNil))))))
    (mRet (mLc (mSeqI (mV 2)) (gmName 7) (mYes) (mCB (g1 gSorted) (mCons (mV 7) (mNil))) [7])))
def m_far : FM := fnM 3 9 <|
    mSeq (mDrop (mCall m_looked_house (mCons (mV 0) (mCons (mV 2) (mNil)))))
    (mSeq (mAsg (mCall m_beside (mCons (mV 0) (mCons (mV 1) (mNil)))) (gmName 3))
    (mSeq (mAsg (mLc (mSrc gRng1 (mCons (mV 0) (mNil))) (gmName 6) (mYes) (mC .non) [6]) (gmName 4))
    (mSeq (mAsg (mC (.int 0)) (gmSub (mV 4) (mV 2)))
    (mSeq (mAsg (mC (.bl true)) (gmName 5))
    (mSeq (mWhile (mTst (mV 5)) (mSeq (mAsg (mC (.bl false)) (gmName 5))
    (mFor (mSrc gRng1 (mCons (mV 0) (mNil))) (gmName 6) (mFor (mSeqI (mOp gIx (mV 3) (mV 6))) (gmTup 2 (gmCons (gmName 7) (gmCons (gmName 8) (gmNil)))) (mIfS (mAnd (mTst (mOp (gIs true) (mOp gIx (mV 4) (mV 7)) (mC .non))) (mOr (mTst (mOp (gIs false) (mOp gIx (mV 4) (mV 6)) (mC .non))) (mTst (mOp gLt (mOp gAdd (mOp gIx (mV 4) (mV 7)) (mV 8)) (mOp gIx (mV 4) (mV 6)))))) (mSeq (mAsg (mOp gAdd (mOp gIx (mV 4) (mV 7)) (mV 8)) (gmSub (mV 4) (mV 6)))
    (mAsg (mC (.bl true)) (gmName 5))) (mNext))))) 1000)
    (mRet (mV 4)))))))
def m_nexts : FM := fnM 3 10 <|
    mSeq (mAsg (mCall m_far (mCons (mV 0) (mCons (mV 1) (mCons (mV 2) (mNil))))) (gmName 3))
    (mSeq (mAsg (mCall m_beside (mCons (mV 0) (mCons (mV 1) (mNil)))) (gmName 4))
    (mSeq (mAsg (mLst (mNil)) (gmName 5))
    (mSeq (mFor (mSrc gRng1 (mCons (mV 0) (mNil))) (gmName 6) (mSeq (mAsg (mLc (mSeqI (mOp gIx (mV 4) (mV 6))) (gmTup 2 (gmCons (gmName 8) (gmCons (gmName 9) (gmNil)))) (mAnd (mTst (mOp (gEq true) (mV 6) (mV 2))) (mAnd (mTst (mOp (gIs true) (mOp gIx (mV 3) (mV 6)) (mC .non))) (mTst (mOp (gEq false) (mOp gAdd (mOp gIx (mV 3) (mV 8)) (mV 9)) (mOp gIx (mV 3) (mV 6)))))) (mV 8) [8, 9]) (gmName 7))
    (mDrop (mMt "list" (gLm lmAppend) (mV 5) (mCons (mIf (mTst (mOp gGt (mCB (g1 gLen) (mCons (mV 7) (mNil))) (mC (.int 0)))) (mOp gIx (mV 7) (mC (.int 0))) (mC .non)) (mNil))))))
    (mRet (mV 5)))))
def m_reached : FM := fnM 3 5 <|
    mSeq (mAsg (mCall m_far (mCons (mV 0) (mCons (mV 1) (mCons (mV 2) (mNil))))) (gmName 3))
    (mRet (mLc (mSrc gRng1 (mCons (mV 0) (mNil))) (gmName 4) (mTst (mOp (gIs true) (mOp gIx (mV 3) (mV 4)) (mC .non))) (mV 4) [4]))
def m_least_way : FM := fnM 4 7 <|
    mSeq (mDrop (mCall m_looked_house (mCons (mV 0) (mCons (mV 2) (mNil)))))
    (mSeq (mDrop (mCall m_looked_house (mCons (mV 0) (mCons (mV 3) (mNil)))))
    (mSeq (mAsg (mCall m_far (mCons (mV 0) (mCons (mV 1) (mCons (mV 3) (mNil))))) (gmName 4))
    (mSeq (mIfS (mTst (mOp (gIs false) (mOp gIx (mV 4) (mV 2)) (mC .non))) (mRaiseL 17 "noway" (mCall m_reached (mCons (mV 0) (mCons (mV 1) (mCons (mV 2) (mNil)))))) (mNext))
    (mSeq (mAsg (mCall m_nexts (mCons (mV 0) (mCons (mV 1) (mCons (mV 3) (mNil))))) (gmName 5))
    (mSeq (mAsg (mLst (mCons (mV 2) (mNil))) (gmName 6))
    (mSeq (mWhile (mTst (mOp (gEq true) (mOp gIx (mV 6) (mUn gNeg (mC (.int 1)))) (mV 3))) (mDrop (mMt "list" (gLm lmAppend) (mV 6) (mCons (mOp gIx (mV 5) (mOp gIx (mV 6) (mUn gNeg (mC (.int 1))))) (mNil)))) 1000)
    (mRet (mTup (mCons (mOp gIx (mV 4) (mV 2)) (mCons (mCB (g1 gTuple) (mCons (mV 6) (mNil))) (mNil)))))))))))
def m__law_lot : FM := fnM 3 5 <|
    mRet (mLc (mSrc gEnum (mCons (mCall m__law_far (mCons (mV 0) (mCons (mV 1) (mCons (mV 2) (mNil))))) (mNil))) (gmTup 2 (gmCons (gmName 3) (gmCons (gmName 4) (gmNil)))) (mTst (mOp (gIs true) (mV 4) (mC .non))) (mV 3) [3, 4])
end Sx.Cm
end
/-! Sx19: own classes: attributes, methods, making. -/
noncomputable section
namespace Sx
open PySem PySem.Spec
open PyProof.Rows L2
/-- where an attribute stands, class by class -/
abbrev FT := List (Nat × Nat)
def insAt (S : Sto) : VV → Option (Nat × List VV)
  | .ref n => match S[n]? with
    | some (.ins c fs) => some (c, fs)
    | _ => none
  | _ => none
def fldR (t : FT) (p : Nat × List VV) : Option VV := (t.lookup p.1).bind fun j => p.2[j]?
def gFld (t : FT) (x : VV) (S : Sto) : Res VV := optR ((insAt S x).bind (fldR t)) S
def mFld (t : FT) (a : EM) : EM := fun σ S => (a σ S).bind fun x S1 => gFld t x S1
def putA (fs : List VV) (j : Nat) (x : VV) : Option (List VV) := if j < fs.length then some (fs.set j x) else if j = fs.length then some (fs ++ [x]) else none
def setF (t : FT) (o x : VV) (S : Sto) : Option Sto := match o with
  | .ref n => (insAt S (.ref n)).bind fun p => (t.lookup p.1).bind fun j => (putA p.2 j x).map fun fs => S.set n (.ins p.1 fs)
  | _ => none
def gmFld (t : FT) (o : EM) : GM := fun x σ S => (o σ S).toS σ fun a S1 => optS (setF t a x S1) σ
/-- o.f op= e -/
def mAugF (t : FT) (g : VV → VV → Sto → Res VV) (o e : EM) : SM := fun σ S => (o σ S).toS σ fun a S1 => (gFld t a S1).toS σ fun x S2 => (e σ S2).toS σ fun y S3 => (g x y S3).toS σ fun z S4 => optS (setF t a z S4) σ
structure FldOk (K : PySem.W.Frag) (L : Lay) (f : Str) (t : FT) : Prop where
  ok : ∀ c j, t.lookup c = some j → (L.att c)[j]? = some f ∧ (L.att c).Nodup ∧ (L.att c).length ≤ 100 ∧ Cls K (L.C c) ∧ NoAttr K (L.C c) f
section
variable {X : Cx} {L : Lay} {W : WX}
theorem lookup_zip {as : List Str} {vs : List V} {j : Nat} {f : Str} {v : V} (nd : as.Nodup) (h1 : as[j]? = some f) (h2 : vs[j]? = some v) : (as.zip vs).lookup f = some v := by
  induction as generalizing vs j with
  | nil => cases h1
  | cons a r ih =>
    cases vs with
    | nil => cases h2
    | cons u us =>
      rw [List.zip_cons_cons, List.lookup_cons]
      cases j with
      | zero =>
        cases h1
        cases h2
        rw [beq_self_eq_true]
      | succ j =>
        rw [List.getElem?_cons_succ] at h1 h2
        have hne : f ≠ a := fun z => by
          rw [List.nodup_cons] at nd
          exact nd.1 (z ▸ List.mem_of_getElem? h1)
        rw [beq_false_of_ne hne]
        exact ih (List.nodup_cons.mp nd).2 h1 h2
theorem putF_set {as : List Str} {vs : List V} {j : Nat} {f : Str} {v : V} (nd : as.Nodup) (h1 : as[j]? = some f) (h2 : j < vs.length) : putF f v (as.zip vs) = as.zip (vs.set j v) := by
  induction as generalizing vs j with
  | nil => cases h1
  | cons a r ih =>
    cases vs with
    | nil => simp at h2
    | cons u us =>
      rw [List.zip_cons_cons]
      cases j with
      | zero =>
        cases h1
        unfold putF
        rw [if_pos rfl]
        rfl
      | succ j =>
        rw [List.getElem?_cons_succ] at h1
        have hne : ¬ a = f := fun z => by
          rw [List.nodup_cons] at nd
          exact nd.1 (z ▸ List.mem_of_getElem? h1)
        unfold putF
        rw [if_neg hne, ih (List.nodup_cons.mp nd).2 h1 (by simpa using h2)]
        rfl
theorem putF_snoc {as : List Str} {vs : List V} {f : Str} {v : V} (nd : as.Nodup) (h1 : as[vs.length]? = some f) : putF f v (as.zip vs) = as.zip (vs ++ [v]) := by
  induction as generalizing vs with
  | nil => cases h1
  | cons a r ih =>
    cases vs with
    | nil =>
      cases h1
      show putF f v [] = [(f, v)] ++ r.zip []
      rw [List.zip_nil_right]
      rfl
    | cons u us =>
      rw [List.zip_cons_cons]
      rw [List.length_cons, List.getElem?_cons_succ] at h1
      have hne : ¬ a = f := fun z => by
        rw [List.nodup_cons] at nd
        exact nd.1 (z ▸ List.mem_of_getElem? h1)
      unfold putF
      rw [if_neg hne, ih (List.nodup_cons.mp nd).2 h1]
      rfl
theorem insAt_ok {ι : List Addr} {S : Sto} {H : Hp} {x : VV} {v : V} {p : Nat × List VV} (rp : Rep L ι S H) (rv : RV L ι H x v) (e : insAt S x = some p) : ∃ n a dx vs, x = .ref n ∧ v = .ref a ∧ ι[n]? = some a ∧ S[n]? = some (.ins p.1 p.2) ∧ H a = some (.ins (L.C p.1) dx ((L.att p.1).zip vs)) ∧ RVs L ι H p.2 vs ∧ p.2.length ≤ (L.att p.1).length := by
  cases x with
  | ref n =>
    cases e1 : S[n]? with
    | none => unfold insAt at e; dsimp only at e; rw [e1] at e; cases e
    | some ob =>
      unfold insAt at e
      dsimp only at e
      rw [e1] at e
      cases ob with
      | ins c fs =>
        cases e
        cases rv with
        | @ref _ a ha =>
          obtain ⟨a', u, h1, h2, h3⟩ := rp.at_ n _ e1
          rw [ha] at h1
          cases h1
          obtain ⟨dx, vs, rfl, h4, h5⟩ := h3
          exact ⟨n, a, dx, vs, rfl, rfl, ha, e1, h2, h4, h5⟩
      | _ => cases e
  | _ => cases e
theorem nx_fld {t : FT} : ∀ x S, NoX (gFld t x S) := fun _ _ => nx_opt
theorem gFld_out {t : FT} {ι : List Addr} {S : Sto} {H : Hp} {x : VV} {v : V} {Q : VK} {E : XK} {f : Str} (hF : FldOk X.K L f t) (rp : Rep L ι S H) (rv : RV L ι H x v) (o : OutE L ι H (gFld t x S) Q E) :
    ∃ a C dx fs u y, v = .ref a ∧ H a = some (.ins C dx fs) ∧ Cls X.K C ∧ NoAttr X.K C f ∧ fs.lookup f = some u ∧ gFld t x S = .ok y S ∧ RV L ι H y u ∧ Q u H := by
  unfold gFld at o ⊢
  cases e : (insAt S x).bind (fldR t) with
  | none => rw [e] at o; exact o.elim
  | some y =>
    rw [e] at o
    obtain ⟨p, e1, e2⟩ := Option.bind_eq_some_iff.mp e
    obtain ⟨j, e3, e4⟩ := Option.bind_eq_some_iff.mp e2
    obtain ⟨n, a, dx, vs, rfl, rfl, ha, hS, hH, hv, _⟩ := insAt_ok rp rv e1
    obtain ⟨h1, h2, h3, h4, h5⟩ := hF.ok _ _ e3
    obtain ⟨u, hu, ru⟩ := hv.get e4
    exact ⟨a, _, dx, _, u, y, rfl, hH, h4, h5, lookup_zip h2 h1 hu, rfl, ru, o ι H u (Ext.refl _ _) rp ru⟩
theorem me_fld {t : FT} {e : Expr} {f : Str} {pos : Pos} {a : EM} (hF : FldOk X.K L f t) (ha : ME X L W e a) (hb : attributeBase e f X.env (eval e X.env) = eval e X.env := by rfl) : ME X L W (.Attribute e f pos) (mFld t a) :=
  PE.wk (pe_fld ha hb) fun τ H Q ⟨ι, S, σ, rp, rs, o⟩ => stepE (k := fun x S1 => gFld t x S1) rp rs o fun x S1 ι1 H1 v ex r1 s1 rv o1 => by
    obtain ⟨b, C, dx, fs, u, y, rfl, h2, h3, h4, h5, _, _, q⟩ := gFld_out hF r1 rv o1
    exact ⟨b, C, dx, fs, u, rfl, h2, h3, h4, h5, q⟩
/-- o.f = y, in the heap and in the store -/
theorem setF_ok {t : FT} {ι : List Addr} {S S' : Sto} {H : Hp} {o x : VV} {v y : V} {f : Str} (hF : FldOk X.K L f t) (rp : Rep L ι S H) (ro : RV L ι H o v) (rx : RV L ι H x y) (e : setF t o x S = some S') :
    ∃ a C dx fs, v = .ref a ∧ H a = some (.ins C dx fs) ∧ Cls X.K C ∧ NoAttr X.K C f ∧ fs.length < 1000 ∧ Ext ι H ι (upd H a (.ins C dx (putF f y fs))) ∧ Rep L ι S' (upd H a (.ins C dx (putF f y fs))) := by
  cases o with
  | ref n =>
    obtain ⟨p, e1, e2⟩ := Option.bind_eq_some_iff.mp (show (insAt S (.ref n)).bind (fun p => (t.lookup p.1).bind fun j => (putA p.2 j x).map fun fs => S.set n (.ins p.1 fs)) = some S' from e)
    obtain ⟨j, e3, e4⟩ := Option.bind_eq_some_iff.mp e2
    obtain ⟨fs, e5, e6⟩ := Option.map_eq_some_iff.mp e4
    obtain ⟨n', a, dx, vs, hn, rfl, ha, hS, hH, hv, hl⟩ := insAt_ok rp ro e1
    cases hn
    obtain ⟨h1, h2, h3, h4, h5⟩ := hF.ok _ _ e3
    have kp : ∀ u, Keep H (upd H a u) := fun u => Keep.set hH (fun _ => by intro z; cases z) (fun _ _ => by intro z; cases z)
    have hz : ((L.att p.1).zip vs).length < 1000 := by
      rw [List.length_zip]
      omega
    refine ⟨a, _, dx, _, rfl, hH, h4, h5, hz, ⟨List.prefix_rfl, kp _⟩, ?_⟩
    subst e6
    have hj : j < (L.att p.1).length := (List.getElem?_eq_some_iff.mp h1).1
    unfold putA at e5
    split at e5
    · rename_i c
      cases e5
      rw [putF_set h2 h1 (by rw [← hv.length]; exact c)]
      exact rp.set ha hH (kp _) ⟨dx, _, rfl, (hv.set j rx).mono ⟨List.prefix_rfl, kp _⟩, by rw [List.length_set]; exact hl⟩
    · split at e5
      · rename_i c
        cases e5
        subst c
        rw [hv.length] at h1
        rw [putF_snoc h2 h1]
        exact rp.set ha hH (kp _) ⟨dx, _, rfl, (hv.append (.cons rx .nil)).mono ⟨List.prefix_rfl, kp _⟩, by rw [List.length_append]; exact hj⟩
      · cases e5
  | _ => cases e
theorem mg_fld {t : FT} {o : Expr} {f : Str} {pos : Pos} {mo : EM} (hF : FldOk X.K L f t) (ho : ME X L W o mo) : MG X L W (.Attribute o f pos) (gmFld t mo) := ⟨fun pins s τ H v u Q I r ⟨ι, S, σ, x, rp, rs, rv, out⟩ => by
  refine PySem.W.kas_attr ?_
  have want : rdE L W mo τ H fun vo H1 => ∃ ι1 S1 S2 z y, Rep L ι1 S1 H1 ∧ RS L ι1 H1 σ τ ∧ RV L ι1 H1 z vo ∧ RV L ι1 H1 y v ∧ setF t z y S1 = some S2 ∧ OutS L W ι1 H1 (.nx σ S2) { nx := Q, rt := fun _ _ => False } :=
    stepS (D := { nx := Q, rt := fun _ _ => False }) rp rs out fun z S1 ι1 H1 vo ex r1 s1 rz o1 => by
      obtain ⟨S2, e2, q⟩ := optS_out o1
      exact ⟨ι1, S1, S2, z, x, r1, s1, rz, rv.mono ex, e2, fun ι2 H2 τ2 ex2 r2 s2 => by
        have := o1
        rw [e2] at this
        exact this ι2 H2 τ2 ex2 r2 s2⟩
  refine thn (ho.run pins s τ H _ I want) fun ov s1 ⟨vo, H1, I1, ro, ι1, S1, S2, z, y, r1, s1', rz, ry, e2, q⟩ => ?_
  obtain ⟨a, C, dx, fs, rfl, h2, h3, h4, h5, ex, rp2⟩ := setF_ok hF r1 rz ry e2
  obtain rfl : ov = Value.ref a := ro
  exact setattr_ok I1 h2 h3 h4 h5 r fun s3 I3 => ⟨τ, _, I3, q ι1 _ τ ex rp2 (s1'.mono ex)⟩⟩
end
end Sx
end
/-! Sx20: methods, making, defaults. -/
noncomputable section
namespace Sx
open PySem PySem.Spec
open PyProof.Rows L2
section
variable {X : Cx} {CX : CXT} {k : Nat} {f C : Addr} {fd : FuncData} {ps : List Str} {sp : Sp} {dvs : List V} {ds : List Value} {E : L2.St → XK} {x m : Str} {p apos pos : Pos} {o e : Expr} {es : List Expr} {ta : TE} {t : TA}
/-- o.m(..): what is raised is wished for at the caller's slots -/
def tMethW (C : Addr) (m : Str) (sp : Sp) (dvs : List V) (E : L2.St → XK) (ta : TE) (t : TA) : TE := fun τ H Q => ta τ H fun y H1 => ∃ a dx fs, y = .ref a ∧ H1 a = some (.ins C dx fs) ∧ fs.lookup m = none ∧ t τ H1 fun vs H2 => sp (y :: (vs ++ dvs)) H2 Q (E τ)
theorem pe_methW {pl : Sem Bool} (ho : PE X o ta) (c : Cls X.K C) (hm : Meth X.K C m f) (F : FnOk X.prog X.w X.K X.mg X.base CX k f fd ps sp) (hr : Room k X.A) (hb : Binds X.K fd ps ds) (hd : Vals dvs ds) (hx : ∀ τ, PassesAt CX X τ (E τ)) (ha : PA X (e :: es) t)
    (he : starEach (e :: es) X.env = (false, eval e X.env) :: starEach es X.env := by rfl) (hp : (backTo pos (starEach es X.env)).any (·.1) = false := by rfl)
    (hc : eval (.Call (.Attribute o m apos) (e :: es) [] pos) X.env = (do
      let c ← eval o X.env
      standAt apos.atName
      let (g, l) ← holding [c] (getMethod c m pl)
      callWith pos g l (backTo pos (starEach (e :: es) X.env)) (backToKw pos (keywordEach [] X.env))) := by rfl) :
    PE X (.Call (.Attribute o m apos) (e :: es) [] pos) (tMethW C m sp dvs E ta t) := ⟨fun pins s τ H Q I h => by
  refine PySem.W.methodCall_KW (pl := pl) (thn (ho.run pins s τ H _ I h) fun u s1 ⟨y, H1, I1, ry, a, dx, fs, ey, ea, l, q⟩ => ?_) hc
  subst ey
  cases (show u = Value.ref a from ry)
  refine getmeth_ok I1 ea c hm l (PySem.W.callWith_K (first := [.ref a]) (h₀ := X.base) I.ok.mod.kin hm.kp (thn (ha.run pos pins s1 τ H1 _ I1 q) fun us s2 ⟨vs, H2, I2, r, q2⟩ => ⟨I2.kIn, ?_⟩) he hp)
  exact run_fnSD (us := .ref a :: us) (vs := .ref a :: vs) F hr hb hd (hx τ) I2 (.cons rfl r) q2⟩
theorem pe_methW0 {pl : Sem Bool} (ho : PE X o ta) (c : Cls X.K C) (hm : Meth X.K C m f) (F : FnOk X.prog X.w X.K X.mg X.base CX k f fd ps sp) (hr : Room k X.A) (hb : Binds X.K fd ps ds) (hd : Vals dvs ds) (hx : ∀ τ, PassesAt CX X τ (E τ))
    (hc : eval (.Call (.Attribute o m apos) [] [] pos) X.env = (do
      let c ← eval o X.env
      standAt apos.atName
      let (g, l) ← holding [c] (getMethod c m pl)
      callWith pos g l (backTo pos (starEach [] X.env)) (backToKw pos (keywordEach [] X.env))) := by rfl) :
    PE X (.Call (.Attribute o m apos) [] [] pos) (tMethW C m sp dvs E ta tNil) := ⟨fun pins s τ H Q I h => by
  refine PySem.W.methodCall_KW (pl := pl) (thn (ho.run pins s τ H _ I h) fun u s1 ⟨y, H1, I1, ry, a, dx, fs, ey, ea, l, q⟩ => ?_) hc
  subst ey
  cases (show u = Value.ref a from ry)
  refine getmeth_ok I1 ea c hm l (PySem.W.callWith_K0 (first := [.ref a]) I1.kIn hm.kp ?_)
  exact run_fnSD (us := [.ref a]) (vs := [.ref a]) F hr hb hd (hx τ) I1 (.cons rfl .nil) q⟩
/-- C(..): what is raised is wished for at the caller's slots -/
def tMakeW (C : Addr) (sp : Sp) (dvs : List V) (E : L2.St → XK) (t : TA) : TE := fun τ H Q => t τ H fun vs H1 => ∀ y dx, H1 y = none → H1 dx = none → dx ≠ y → sp (.ref y :: (vs ++ dvs)) (upd (upd H1 dx (.own y)) y (.ins C dx [])) (fun v H2 => v = .non ∧ Q (.ref y) H2) (E τ)
theorem run_makeW {pins : List (Addr × Obj)} {τ : L2.St} {H : Hp} {s : Shared} {Q : VK} {us : List Value} {vs : List V} (M : Mk X.K C f) (F : FnOk X.prog X.w X.K X.mg X.base CX k f fd ps sp) (hr : Room (k + 1) X.A) (hb : Binds X.K fd ps ds) (hd : Vals dvs ds) (hx : PassesAt CX X τ (E τ)) (I : Inv X pins τ H s) (r : Vals vs us)
    (ask : ∀ y dx, H y = none → H dx = none → dx ≠ y → sp (.ref y :: (vs ++ dvs)) (upd (upd H dx (.own y)) y (.ins C dx [])) (fun v H2 => v = .non ∧ Q (.ref y) H2) (E τ)) : wpAny (model X.prog X.w) X.A (call (.ref C) us) (EP X pins τ Q) X.xe s := by
  have prom := ask (s.heap.objs.size + 1) s.heap.objs.size (I.hok.fresh (Nat.le_succ _)) (I.hok.fresh (Nat.le_refl _)) (Nat.ne_of_lt (Nat.lt_succ_self _))
  have I2 := Inv.made (C := C) I
  have rel : Vals (V.ref (s.heap.objs.size + 1) :: (vs ++ dvs)) (Value.ref (s.heap.objs.size + 1) :: (us ++ ds)) := .cons rfl (r.append hd)
  have few : (Value.ref (s.heap.objs.size + 1) :: us ++ ds).length = ps.length := rel.length.symm.trans (F.len _ _ _ _ prom)
  have run := F.run _ X.stack _ _ ⟨Value.ref (s.heap.objs.size + 1) :: us, []⟩ (Value.ref (s.heap.objs.size + 1) :: (us ++ ds)) _ _ (E τ) (hr.make C us []) (I2.env0.make C us []) (hb _ (Value.ref (s.heap.objs.size + 1) :: us) I2.kIn few) rel prom
  refine wpAny_call (make_map (f := f) I.kIn M.makes M.init (beq_iff_eq.mp M.fn) (codeAny_mono run fun r s' done => ?_))
  match r, done with
  | .error er, done => exact hx pins _ _ er s' I2 done
  | .ok (.ret u), done =>
    obtain ⟨v, H', I3, rv, ev, q3⟩ := I2.after done
    subst ev
    exact ⟨rv, V.ref (s.heap.objs.size + 1), H', I3, rfl, q3⟩
  | .ok .next, done => exact done.elim
  | .ok .brk, done => exact done.elim
  | .ok .cont, done => exact done.elim
theorem pe_makeW (M : Mk X.K C f) (F : FnOk X.prog X.w X.K X.mg X.base CX k f fd ps sp) (hr : Room (k + 1) X.A) (hg : Gl X x) (hm : X.mg x = some (.ref C)) (hb : Binds X.K fd ps ds) (hd : Vals dvs ds) (hx : ∀ τ, PassesAt CX X τ (E τ)) (ha : PA X (e :: es) t)
    (hdb : (x == ("__debug__" : Str)) = false := by decide) (he : starEach (e :: es) X.env = (false, eval e X.env) :: starEach es X.env := by rfl) (hp : (backTo pos (starEach es X.env)).any (·.1) = false := by rfl) : PE X (.Call (.Name x p) (e :: es) [] pos) (tMakeW C sp dvs E t) := ⟨fun pins s τ H Q I h => by
  refine wpAny_Call_Name_kw (ld_glob I hg hm ?_ hdb)
  exact PySem.W.callWith_K (h₀ := X.base) I.ok.mod.kin M.kp (thn (ha.run pos pins s τ H _ I h) fun us s1 ⟨vs, H1, I1, r, q⟩ => ⟨I1.kIn, run_makeW M F hr hb hd (hx τ) I1 r q⟩) he hp⟩
theorem pe_makeW0 (M : Mk X.K C f) (F : FnOk X.prog X.w X.K X.mg X.base CX k f fd ps sp) (hr : Room (k + 1) X.A) (hg : Gl X x) (hm : X.mg x = some (.ref C)) (hb : Binds X.K fd ps ds) (hd : Vals dvs ds) (hx : ∀ τ, PassesAt CX X τ (E τ))
    (hdb : (x == ("__debug__" : Str)) = false := by decide) : PE X (.Call (.Name x p) [] [] pos) (tMakeW C sp dvs E tNil) := ⟨fun pins s τ H Q I h => by
  refine wpAny_Call_Name_kw (ld_glob I hg hm ?_ hdb)
  exact PySem.W.callWith_K0 I.kIn M.kp (run_makeW (us := []) M F hr hb hd (hx τ) I .nil h)⟩
end
/-! ### the mirror -/
def mMet (c : Nat) (ds : List VV) (m : FM) (o : EM) (a : AM) : EM := fun σ S => (o σ S).bind fun x S1 => match insAt S1 x with
  | some p => if p.1 = c then (a σ S1).bind fun xs S2 => m (x :: (xs ++ ds)) S2 else .fail
  | none => .fail
def madeV (n : Nat) : VV → Sto → Res VV
  | .non, S => .ok (.ref n) S
  | _, _ => .fail
def mMake (c : Nat) (ds : List VV) (m : FM) (a : AM) : EM := fun σ S => (a σ S).bind fun xs S1 => (m (.ref S1.length :: (xs ++ ds)) (S1 ++ [.ins c []])).bind (madeV S1.length)
def mCallD (ds : List VV) (m : FM) (a : AM) : EM := fun σ S => (a σ S).bind fun xs S1 => m (xs ++ ds) S1
/-- constants as they stand behind what is written -/
def Cs (L : Lay) (ds : List VV) (dvs : List V) : Prop := ∀ ι H, RVs L ι H ds dvs
structure Md (P : Program) (w : World) (K : PySem.W.Frag) (mg : Str → Option Value) (base : Heap) (L : Lay) (c : Nat) (m : Str) (k : Nat) (ps : List Str) (ds : List VV) (mir : FM) : Prop where
  ex : ∃ f fd dV dvs, FnOk P w K mg base (L2.CX P w) k f fd ps (spM L mir) ∧ Binds K fd ps dV ∧ Vals dvs dV ∧ Cs L ds dvs ∧ Meth K (L.C c) m f ∧ Cls K (L.C c)
  nf : m ∉ L.att c
structure Mkd (P : Program) (w : World) (K : PySem.W.Frag) (mg : Str → Option Value) (base : Heap) (L : Lay) (x : Str) (c : Nat) (k : Nat) (ps : List Str) (ds : List VV) (mir : FM) : Prop where
  ex : ∃ f fd dV dvs, FnOk P w K mg base (L2.CX P w) k f fd ps (spM L mir) ∧ Binds K fd ps dV ∧ Vals dvs dV ∧ Cs L ds dvs ∧ Mk K (L.C c) f ∧ mg x = some (.ref (L.C c))
structure DfD (P : Program) (w : World) (K : PySem.W.Frag) (mg : Str → Option Value) (base : Heap) (L : Lay) (x : Str) (k : Nat) (ps : List Str) (ds : List VV) (mir : FM) : Prop where
  ex : ∃ f fd dV dvs, FnOk P w K mg base (L2.CX P w) k f fd ps (spM L mir) ∧ Binds K fd ps dV ∧ Vals dvs dV ∧ Cs L ds dvs ∧ PySem.W.keepIn K (.ref f) = true ∧ mg x = some (.ref f)
theorem lookup_zip_none {as : List Str} {vs : List V} {m : Str} (h : m ∉ as) : (as.zip vs).lookup m = none := by
  induction as generalizing vs with
  | nil => rfl
  | cons a r ih =>
    cases vs with
    | nil => rfl
    | cons u us =>
      rw [List.zip_cons_cons, List.lookup_cons, beq_false_of_ne fun z : m = a => h (by rw [z]; exact List.mem_cons_self)]
      exact ih fun z => h (List.mem_cons_of_mem _ z)
section
variable {X : Cx} {L : Lay} {W : WX}
theorem met_rd {c : Nat} {ds : List VV} {mir : FM} {m : Str} {dvs : List V} {mo : EM} {a : AM} (nf : m ∉ L.att c) (hd : Cs L ds dvs) : ∀ τ H Q, rdE L W (mMet c ds mir mo a) τ H Q → tMethW (L.C c) m (spM L mir) dvs (WE W) (rdE L W mo) (rdA L W a) τ H Q := fun τ H Q ⟨ι, S, σ, rp, rs, o⟩ =>
  stepE (k := fun x S1 => match insAt S1 x with
    | some p => if p.1 = c then (a σ S1).bind fun xs S2 => mir (x :: (xs ++ ds)) S2 else .fail
    | none => .fail) rp rs o fun x S1 ι1 H1 v ex r1 s1 rv o1 => by
    cases e : insAt S1 x with
    | none => rw [e] at o1; exact o1.elim
    | some p =>
      rw [e] at o1
      by_cases hc : p.1 = c
      · have o2 : OutE L ι1 H1 (if p.1 = c then (a σ S1).bind fun xs S2 => mir (x :: (xs ++ ds)) S2 else .fail) Q (fun c d H' => W c d τ H') := o1
        rw [if_pos hc] at o2
        obtain ⟨n, b, dx, vs, rfl, rfl, ha, hS, hH, hv, hl⟩ := insAt_ok r1 rv e
        subst hc
        refine ⟨b, dx, _, rfl, hH, lookup_zip_none nf, ?_⟩
        exact stepA r1 s1 o2 fun xs S2 ι2 H2 us ex2 r2 s2 rvs o3 => ⟨ι2, S2, _, r2, .cons (rv.mono ex2) (rvs.append (hd ι2 H2)), o3⟩
      · have o2 : OutE L ι1 H1 (if p.1 = c then (a σ S1).bind fun xs S2 => mir (x :: (xs ++ ds)) S2 else .fail) Q (fun c d H' => W c d τ H') := o1
        rw [if_neg hc] at o2
        exact o2.elim
theorem met_rd0 {c : Nat} {ds : List VV} {mir : FM} {m : Str} {dvs : List V} {mo : EM} (nf : m ∉ L.att c) (hd : Cs L ds dvs) : ∀ τ H Q, rdE L W (mMet c ds mir mo mNil) τ H Q → tMethW (L.C c) m (spM L mir) dvs (WE W) (rdE L W mo) tNil τ H Q := fun τ H Q ⟨ι, S, σ, rp, rs, o⟩ =>
  stepE (k := fun x S1 => match insAt S1 x with
    | some p => if p.1 = c then (mNil σ S1).bind fun xs S2 => mir (x :: (xs ++ ds)) S2 else .fail
    | none => .fail) rp rs o fun x S1 ι1 H1 v ex r1 s1 rv o1 => by
    cases e : insAt S1 x with
    | none => rw [e] at o1; exact o1.elim
    | some p =>
      rw [e] at o1
      have o2 : OutE L ι1 H1 (if p.1 = c then mir (x :: ([] ++ ds)) S1 else .fail) Q (fun c d H' => W c d τ H') := o1
      by_cases hc : p.1 = c
      · rw [if_pos hc] at o2
        obtain ⟨n, b, dx, vs, rfl, rfl, ha, hS, hH, hv, hl⟩ := insAt_ok r1 rv e
        subst hc
        exact ⟨b, dx, _, rfl, hH, lookup_zip_none nf, ι1, S1, _, r1, .cons rv (hd ι1 H1), o2⟩
      · rw [if_neg hc] at o2
        exact o2.elim
theorem me_met {c k j : Nat} {ps : List Str} {ds : List VV} {mir : FM} {m : Str} {o e : Expr} {es : List Expr} {apos pos : Pos} {mo : EM} {a : AM} {pl : Sem Bool} (D : Md X.prog X.w X.K X.mg X.base L c m k ps ds mir) (hr : Room j X.A) (tk : Takes X W) (ho : ME X L W o mo) (ha : MA X L W (e :: es) a) (hkj : k ≤ j := by decide)
    (he : starEach (e :: es) X.env = (false, eval e X.env) :: starEach es X.env := by rfl) (hp : (backTo pos (starEach es X.env)).any (·.1) = false := by rfl)
    (hc : eval (.Call (.Attribute o m apos) (e :: es) [] pos) X.env = (do
      let c ← eval o X.env
      standAt apos.atName
      let (g, l) ← holding [c] (getMethod c m pl)
      callWith pos g l (backTo pos (starEach (e :: es) X.env)) (backToKw pos (keywordEach [] X.env))) := by rfl) :
    ME X L W (.Call (.Attribute o m apos) (e :: es) [] pos) (mMet c ds mir mo a) := by
  obtain ⟨f, fd, dV, dvs, F, b, hd, cs, hm, hcl⟩ := D.ex
  exact PE.wk (pe_methW ho hcl hm F (hr.mono hkj) b hd (passAt tk) ha he hp hc) (met_rd D.nf cs)
theorem me_met0 {c k j : Nat} {ps : List Str} {ds : List VV} {mir : FM} {m : Str} {o : Expr} {apos pos : Pos} {mo : EM} {pl : Sem Bool} (D : Md X.prog X.w X.K X.mg X.base L c m k ps ds mir) (hr : Room j X.A) (tk : Takes X W) (ho : ME X L W o mo) (hkj : k ≤ j := by decide)
    (hc : eval (.Call (.Attribute o m apos) [] [] pos) X.env = (do
      let c ← eval o X.env
      standAt apos.atName
      let (g, l) ← holding [c] (getMethod c m pl)
      callWith pos g l (backTo pos (starEach [] X.env)) (backToKw pos (keywordEach [] X.env))) := by rfl) :
    ME X L W (.Call (.Attribute o m apos) [] [] pos) (mMet c ds mir mo mNil) := by
  obtain ⟨f, fd, dV, dvs, F, b, hd, cs, hm, hcl⟩ := D.ex
  exact PE.wk (pe_methW0 ho hcl hm F (hr.mono hkj) b hd (passAt tk) hc) (met_rd0 D.nf cs)
theorem make_out {c : Nat} {mir : FM} {ι : List Addr} {S : Sto} {H : Hp} {xs : List VV} {vs : List V} {Q : VK} {E : XK} (rp : Rep L ι S H) (rv : RVs L ι H xs vs) (o : OutE L ι H ((mir (.ref S.length :: xs) (S ++ [.ins c []])).bind (madeV S.length)) Q E) (y dx : Addr) (h1 : H y = none) (h2 : H dx = none) (h3 : dx ≠ y) :
    spM L mir (.ref y :: vs) (upd (upd H dx (.own y)) y (.ins (L.C c) dx [])) (fun v H2 => v = .non ∧ Q (.ref y) H2) E := by
  have e1 : Ext ι H ι (upd H dx (.own y)) := ⟨List.prefix_rfl, Keep.new h2⟩
  have r1 := rp.other (o := .own y) h2
  have hy : upd H dx (.own y) y = none := by rw [upd_ne (Ne.symm h3)]; exact h1
  have e2 : Ext ι (upd H dx (.own y)) (ι ++ [y]) (upd (upd H dx (.own y)) y (.ins (L.C c) dx [])) := Rep.newExt hy
  have r2 := r1.new hy (o := .ins c []) (u := .ins (L.C c) dx []) ⟨dx, [], by rw [List.zip_nil_right], .nil, Nat.zero_le _⟩
  refine ⟨_, _, _, r2, .cons (r1.newRef (H' := upd (upd H dx (.own y)) y (.ins (L.C c) dx []))) (rv.mono (e1.trans e2)), ?_⟩
  have hn : (ι ++ [y])[S.length]? = some y := by
    rw [List.getElem?_append_right (by rw [rp.len]; exact Nat.le_refl _), rp.len]
    simp
  cases e : mir (.ref S.length :: xs) (S ++ [.ins c []]) with
  | fail => rw [e] at o; exact o.elim
  | exc n S2 =>
    rw [e] at o
    exact fun ι' H' cls d ex => o ι' H' cls d ((e1.trans e2).trans ex)
  | ok v S2 =>
    rw [e] at o
    intro ι' H' v' ex rp' rv'
    cases v with
    | non =>
      cases rv'
      exact ⟨rfl, o ι' H' _ ((e1.trans e2).trans ex) rp' (.ref (pre_get ex.pre hn))⟩
    | _ => exact o.elim
theorem me_make {c k j : Nat} {ps : List Str} {ds : List VV} {mir : FM} {x : Str} {p pos : Pos} {e : Expr} {es : List Expr} {a : AM} (D : Mkd X.prog X.w X.K X.mg X.base L x c k ps ds mir) (hr : Room j X.A) (tk : Takes X W) (ha : MA X L W (e :: es) a) (hkj : k + 1 ≤ j := by decide) (hg : Gl X x := by rfl)
    (hdb : (x == ("__debug__" : Str)) = false := by decide) (he : starEach (e :: es) X.env = (false, eval e X.env) :: starEach es X.env := by rfl) (hp : (backTo pos (starEach es X.env)).any (·.1) = false := by rfl) :
    ME X L W (.Call (.Name x p) (e :: es) [] pos) (mMake c ds mir a) := by
  obtain ⟨f, fd, dV, dvs, F, b, hd, cs, hm, gl⟩ := D.ex
  exact PE.wk (pe_makeW (E := WE W) hm F (hr.mono hkj) hg gl b hd (passAt tk) ha hdb he hp) fun τ H Q ⟨ι, S, σ, rp, rs, o⟩ => stepA rp rs o fun xs S1 ι1 H1 vs ex r1 s1 rv o1 y dx h1 h2 h3 => make_out r1 (rv.append (cs ι1 H1)) o1 y dx h1 h2 h3
theorem me_make0 {c k j : Nat} {ps : List Str} {ds : List VV} {mir : FM} {x : Str} {p pos : Pos} (D : Mkd X.prog X.w X.K X.mg X.base L x c k ps ds mir) (hr : Room j X.A) (tk : Takes X W) (hkj : k + 1 ≤ j := by decide) (hg : Gl X x := by rfl) (hdb : (x == ("__debug__" : Str)) = false := by decide) :
    ME X L W (.Call (.Name x p) [] [] pos) (mMake c ds mir mNil) := by
  obtain ⟨f, fd, dV, dvs, F, b, hd, cs, hm, gl⟩ := D.ex
  exact PE.wk (pe_makeW0 (E := WE W) hm F (hr.mono hkj) hg gl b hd (passAt tk) hdb) fun τ H Q ⟨ι, S, σ, rp, rs, o⟩ y dx h1 h2 h3 => make_out rp (cs ι H) o y dx h1 h2 h3
theorem me_dD {k j : Nat} {ps : List Str} {ds : List VV} {mir : FM} {x : Str} {p pos : Pos} {e : Expr} {es : List Expr} {a : AM} (D : DfD X.prog X.w X.K X.mg X.base L x k ps ds mir) (hr : Room j X.A) (tk : Takes X W) (ha : MA X L W (e :: es) a) (hkj : k ≤ j := by decide) (hg : Gl X x := by rfl)
    (hdb : (x == ("__debug__" : Str)) = false := by decide) (he : starEach (e :: es) X.env = (false, eval e X.env) :: starEach es X.env := by rfl) (hp : (backTo pos (starEach es X.env)).any (·.1) = false := by rfl) :
    ME X L W (.Call (.Name x p) (e :: es) [] pos) (mCallD ds mir a) := by
  obtain ⟨f, fd, dV, dvs, F, b, hd, cs, kp, gl⟩ := D.ex
  exact PE.wk (pe_callSD F (hr.mono hkj) hg gl kp b hd (passAt tk) ha hdb he hp) fun τ H Q ⟨ι, S, σ, rp, rs, o⟩ => stepA rp rs o fun xs S1 ι1 H1 vs ex r1 s1 rv o1 => ⟨ι1, S1, _, r1, rv.append (cs ι1 H1), o1⟩
theorem Md.simple {P : Program} {w : World} {K : PySem.W.Frag} {mg : Str → Option Value} {base : Heap} {c k : Nat} {m : Str} {ps : List Str} {mir : FM} {f : Addr} {fd : FuncData} (F : FnOk P w K mg base (L2.CX P w) k f fd ps (spM L mir)) (b : Binds K fd ps []) (hm : Meth K (L.C c) m f) (hc : Cls K (L.C c)) (nf : m ∉ L.att c) : Md P w K mg base L c m k ps [] mir :=
  ⟨⟨f, fd, [], [], F, b, .nil, fun _ _ => .nil, hm, hc⟩, nf⟩
end
end Sx
end
/-! Sx21: in, not in; pop; sorted(dict); remove. -/
noncomputable section
namespace Sx
open PySem PySem.Spec
open PyProof.Rows L2
/-! ### in -/
def dictO : OO → Bool
  | .dK _ => true
  | .dT _ => true
  | .lk (.dK _) => true
  | .lk (.dT _) => true
  | _ => false
def isD (S : Sto) : VV → Bool
  | .ref n => match S[n]? with
    | some o => dictO o
    | none => false
  | _ => false
/-- x in y -/
def inB (S : Sto) (x y : VV) : Option Bool := match y with
  | .ref n => if isD S (.ref n) = true then (dGet S n x).map fun o => o.isSome else
      (dat S 8 x).bind fun d => (dat S 8 (.ref n)).bind fun e => match e with
        | .list ds => if SeqAt.shaped d = true ∧ SeqAt.shaped (.list ds) = true then some (ds.any fun z => PyData.eqv z d) else none
        | _ => none
  | .tup ys => (dat S 8 x).bind fun d => (dat S 8 (.tup ys)).bind fun e => match e with
        | .tuple ds => if SeqAt.shaped d = true ∧ SeqAt.shaped (.tuple ds) = true then some (ds.any fun z => PyData.eqv z d) else none
        | _ => none
  | _ => none
def gIn (neg : Bool) (x y : VV) (S : Sto) : Res VV := optR ((inB S x y).map fun b => .bl (if neg = true then !b else b)) S
section
variable {X : Cx} {L : Lay} {W : WX}
theorem nx_in {neg : Bool} : ∀ x y S, NoX (gIn neg x y S) := fun _ _ _ => nx_opt
/-- either reading of a comparison in, by what the right side is -/
theorem in_val {ι : List Addr} {S : Sto} {H : Hp} {k d : VV} {y x : V} {r : Bool} (hK : L.K = X.K) (rp : Rep L ι S H) (rk : RV L ι H k y) (rd : RV L ι H d x) (e : inB S k d = some r) :
    (∃ a o, x = .ref a ∧ DGet H a y o ∧ o.isSome = r) ∨ ∃ dd ds, Dp X.K H y dd ∧ (Dp X.K H x (.list ds) ∧ SeqAt.shaped (.list ds) = true ∨ Dp X.K H x (.tuple ds) ∧ SeqAt.shaped (.tuple ds) = true) ∧ SeqAt.shaped dd = true ∧ (ds.any fun z => PyData.eqv z dd) = r := by
  cases d with
  | ref n =>
    unfold inB at e
    dsimp only at e
    split at e
    · obtain ⟨o, e1, e2⟩ := Option.map_eq_some_iff.mp e
      obtain ⟨a, r', rfl, h2, h3⟩ := dGet_ok rp rd rk e1
      refine .inl ⟨a, r', rfl, h2, ?_⟩
      rw [← e2]
      cases o with
      | none =>
        cases r' with
        | none => rfl
        | some _ => exact h3.elim
      | some _ =>
        cases r' with
        | none => exact h3.elim
        | some _ => rfl
    · obtain ⟨dd, e1, e2⟩ := Option.bind_eq_some_iff.mp e
      obtain ⟨de, e3, e4⟩ := Option.bind_eq_some_iff.mp e2
      split at e4
      · split at e4
        · rename_i ds c
          cases e4
          exact .inr ⟨dd, ds, hK ▸ dat_ok rp 8 k y dd e1 rk, .inl ⟨hK ▸ dat_ok rp 8 _ x _ e3 rd, c.2⟩, c.1, rfl⟩
        · cases e4
      · cases e4
  | tup ys =>
    unfold inB at e
    dsimp only at e
    obtain ⟨dd, e1, e2⟩ := Option.bind_eq_some_iff.mp e
    obtain ⟨de, e3, e4⟩ := Option.bind_eq_some_iff.mp e2
    split at e4
    · split at e4
      · rename_i ds c
        cases e4
        exact .inr ⟨dd, ds, hK ▸ dat_ok rp 8 k y dd e1 rk, .inr ⟨hK ▸ dat_ok rp 8 _ x _ e3 rd, c.2⟩, c.1, rfl⟩
      · cases e4
    · cases e4
  | _ => cases e
theorem om_in (hK : L.K = X.K) (hu : X.A.units + 65 < cLine) : OpR X (compareOp .In) (rdO L (gIn false)) := by
  intro pins s τ H y x v u Q I ry rx ⟨ι, S, k, d, rp, hk, hd, o⟩
  obtain ⟨z, e, o1⟩ := optR_out o
  obtain ⟨r, e1, rfl⟩ := Option.map_eq_some_iff.mp e
  have q := o1 ι H _ (Ext.refl _ _) rp (.bl _)
  rcases in_val hK rp hk hd e1 with ⟨a, ov, rfl, g, rfl⟩ | ⟨dd, ds, h1, h2, h3, rfl⟩
  · cases (show u = Value.ref a from rx)
    exact d_in (by omega) I g ry fun s3 I3 => ⟨.bl ov.isSome, H, I3, rfl, q⟩
  · rcases h2 with ⟨h2, h4⟩ | ⟨h2, h4⟩
    · exact op_inD hu pins s τ H y x v u Q I ry rx ⟨dd, ds, h1, h2, h3, h4, q⟩
    · obtain ⟨as, r1⟩ := Dp.reads I dd y v h1 ry
      obtain ⟨bs, r2⟩ := Dp.reads I (.tuple ds) x u h2 rx
      exact SeqAt.in_tuple_reads r2 r1 (SeqAt.canLay_of_shaped h4) (SeqAt.canLay_of_shaped h3) (room_in_shaped h3 hu) ⟨.bl _, H, I, rfl, q⟩
theorem om_notin (hK : L.K = X.K) (hu : X.A.units + 65 < cLine) : OpR X (compareOp .NotIn) (rdO L (gIn true)) := by
  intro pins s τ H y x v u Q I ry rx ⟨ι, S, k, d, rp, hk, hd, o⟩
  obtain ⟨z, e, o1⟩ := optR_out o
  obtain ⟨r, e1, rfl⟩ := Option.map_eq_some_iff.mp e
  have q := o1 ι H _ (Ext.refl _ _) rp (.bl _)
  rcases in_val hK rp hk hd e1 with ⟨a, ov, rfl, g, rfl⟩ | ⟨dd, ds, h1, h2, h3, rfl⟩
  · cases (show u = Value.ref a from rx)
    exact d_notIn (by omega) I g ry fun s3 I3 => ⟨.bl (!ov.isSome), H, I3, rfl, q⟩
  · rcases h2 with ⟨h2, h4⟩ | ⟨h2, h4⟩
    · exact op_notInD hu pins s τ H y x v u Q I ry rx ⟨dd, ds, h1, h2, h3, h4, q⟩
    · obtain ⟨as, r1⟩ := Dp.reads I dd y v h1 ry
      obtain ⟨bs, r2⟩ := Dp.reads I (.tuple ds) x u h2 rx
      exact SeqAt.notIn_tuple_reads r2 r1 (SeqAt.canLay_of_shaped h4) (SeqAt.canLay_of_shaped h3) (room_in_shaped h3 hu) ⟨.bl _, H, I, rfl, q⟩
end
/-! ### d.pop(k), d.get(k), xs.remove(k) -/
def popD (S : Sto) (n : Nat) (y : VV) : Option (VV × Sto) := match S[n]? with
  | some (.dK kvs) => (keyV y).bind fun k => (valM kvs k).map fun v => (v, S.set n (.dK (dropM kvs k)))
  | _ => none
def gPopK (x y : VV) (S : Sto) : Res VV := match x with
  | .ref n => optP (popD S n y)
  | _ => .fail
/-- o.pop(k), o a dict -/
def mDPop (o k : EM) : EM := fun σ S => (o σ S).bind fun x S1 => if isD S1 x = true then (k σ S1).bind fun y S2 => gPopK x y S2 else .fail
section
variable {X : Cx} {L : Lay} {W : WX}
theorem dropM_rel {κ : Type} [DecidableEq κ] {ι : List Addr} {H : Hp} {k : κ} : ∀ {kvs : List (κ × VV)} {ws : List (κ × V)}, RKv L ι H kvs ws → RKv L ι H (dropM kvs k) (dropK ws k)
  | [], _, .nil => .nil
  | p :: kvs, q :: ws, .cons h r => by
    obtain ⟨p1, p2⟩ := p
    obtain ⟨q1, q2⟩ := q
    have hk : p1 = q1 := h.1
    subst hk
    have ih := dropM_rel (k := k) r
    unfold dropM dropK at ih ⊢
    rw [List.filter_cons, List.filter_cons]
    by_cases e : p1 = k
    · have e1 : decide (p1 ≠ k) = false := decide_eq_false fun z => z e
      simp only [e1, Bool.false_eq_true, if_false]
      exact ih
    · have e1 : decide (p1 ≠ k) = true := decide_eq_true e
      simp only [e1, if_true]
      exact .cons h ih
theorem isD_ok {ι : List Addr} {S : Sto} {H : Hp} {x : VV} {v : V} (rp : Rep L ι S H) (rv : RV L ι H x v) (e : isD S x = true) : ∃ n a o, x = .ref n ∧ v = .ref a ∧ S[n]? = some o ∧ dictO o = true ∧ ι[n]? = some a := by
  cases x with
  | ref n =>
    cases rv with
    | @ref _ a ha =>
      unfold isD at e
      dsimp only at e
      cases e1 : S[n]? with
      | none => rw [e1] at e; cases e
      | some o => rw [e1] at e; exact ⟨n, a, o, rfl, rfl, e1, e, ha⟩
  | _ => cases e
theorem isD_is {ι : List Addr} {S : Sto} {H : Hp} {n : Nat} {a : Addr} {o : OO} (rp : Rep L ι S H) (e : S[n]? = some o) (ha : ι[n]? = some a) (d : dictO o = true) : IsD H a := by
  obtain ⟨a', u, h1, h2, h3⟩ := rp.at_ n o e
  rw [ha] at h1
  cases h1
  cases o with
  | dK kvs => obtain ⟨ws, rfl, _⟩ := h3; exact .inl ⟨ws, .inl h2⟩
  | dT kvs => obtain ⟨ws, rfl, _⟩ := h3; exact .inr ⟨ws, .inl h2⟩
  | lk o =>
    obtain ⟨ob, u', rfl, h4⟩ := h3
    cases o with
    | dK kvs => obtain ⟨ws, rfl, _⟩ := h4; exact .inl ⟨ws, .inr ⟨ob, h2⟩⟩
    | dT kvs => obtain ⟨ws, rfl, _⟩ := h4; exact .inr ⟨ws, .inr ⟨ob, h2⟩⟩
    | _ => cases d
  | _ => cases d
theorem nx_popK : ∀ x y S, NoX (gPopK x y S) := fun x y S n S' e => by
  unfold gPopK at e
  split at e
  · exact nxP n S' e
  · cases e
theorem me_dpop {o k : Expr} {apos cpos : Pos} {mo mk : EM} (m : M1 X o "pop" apos k cpos) (ho : ME X L W o mo) (hk : ME X L W k mk) : ME X L W (.Call (.Attribute o "pop" apos) [k] [] cpos) (mDPop mo mk) := PE.wk (pe_dpop1 ho hk m) fun τ H Q ⟨ι, S, σ, rp, rs, out⟩ =>
  stepE (k := fun x S1 => if isD S1 x = true then (mk σ S1).bind fun y S2 => gPopK x y S2 else .fail) rp rs out fun x S1 ι1 H1 v ex r1 s1 rv o1 => by
    by_cases c : isD S1 x = true
    · rw [if_pos c] at o1
      obtain ⟨n, a, ob, rfl, rfl, e1, e2, ha⟩ := isD_ok r1 rv c
      refine ⟨a, rfl, isD_is r1 e1 ha e2, stepE r1 s1 o1 fun y S2 ι2 H2 w ex2 r2 s2 rw' o2 => ?_⟩
      obtain ⟨z, S3, e3, o3⟩ := optP_out (show OutE L ι2 H2 (optP (popD S2 n y)) Q _ from o2)
      unfold popD at e3
      split at e3
      · rename_i kvs hS
        obtain ⟨kk, e4, e5⟩ := Option.bind_eq_some_iff.mp e3
        obtain ⟨vv, e6, e7⟩ := Option.map_eq_some_iff.mp e5
        cases e7
        have ha2 := pre_get ex2.pre ha
        obtain ⟨a', u, h1, h2, ws, rfl, h4⟩ := r2.at_ n _ hS
        rw [ha2] at h1
        cases h1
        have rel := valM_rel (k := kk) h4
        rw [e6] at rel
        cases e8 : valV ws kk with
        | none => rw [e8] at rel; exact rel.elim
        | some u =>
          rw [e8] at rel
          have kp : Keep H2 (upd H2 a (.dK (dropK ws kk))) := Keep.set h2 (fun _ => by intro z; cases z) (fun _ _ => by intro z; cases z)
          have exx : Ext ι2 H2 ι2 (upd H2 a (.dK (dropK ws kk))) := ⟨List.prefix_rfl, kp⟩
          exact ⟨ws, kk, u, h2, keyV_rel rw' e4, e8, o3 ι2 _ u exx (r2.set ha2 h2 kp ⟨_, rfl, (dropM_rel h4).mono exx⟩) ((show RV L ι2 H2 _ u from rel).mono exx)⟩
      · cases e3
    · rw [if_neg c] at o1
      exact o1.elim
/-- xs.remove(k), whole numbers -/
def lmRemove : List VV → List VV → Option (VV × List VV)
  | xs, [.int k] => (intsO xs).bind fun ns => if ns.contains k = true then some (.non, (ns.eraseIdx (ns.idxOf k)).map VV.int) else none
  | _, _ => none
theorem rvs_ints {ι : List Addr} {H : Hp} : ∀ ns : List Int, RVs L ι H (ns.map VV.int) (ns.map V.int)
  | [] => .nil
  | n :: ns => .cons (.int n) (rvs_ints ns)
theorem idxOf_first {ns : List Int} {k : Int} : ∀ m : Nat, m < ns.idxOf k → ns[m]? ≠ some k := fun m hm e => by
  induction ns generalizing m with
  | nil => cases e
  | cons n r ih =>
    rw [List.idxOf_cons] at hm
    by_cases c : n = k
    · subst c
      simp at hm
    · rw [beq_false_of_ne c] at hm
      cases m with
      | zero => cases e; exact c rfl
      | succ m =>
        rw [List.getElem?_cons_succ] at e
        exact ih m (by simpa using hm) e
theorem idxOf_at {ns : List Int} {k : Int} (h : ns.contains k = true) : ns[ns.idxOf k]? = some k := by
  have hm : k ∈ ns := by simpa using h
  have hl := List.idxOf_lt_length_iff.mpr hm
  rw [List.getElem?_eq_getElem hl, List.getElem_idxOf]
theorem lm_remove : MtR X "list.remove" (rdM L (gLm lmRemove)) := lm_of mt_remove fun ι H l xs args ys vs us z Q h1 h2 h3 e q => by
  unfold lmRemove at e
  split at e
  · rename_i k
    obtain ⟨ns, e1, e2⟩ := Option.bind_eq_some_iff.mp e
    split at e2
    · rename_i c
      cases e2
      rw [intsO_ok e1] at h2
      cases h3 with
      | cons hk hr =>
        cases hr
        cases hk
        rw [ints_rel h2] at h1
        exact ⟨l, ns, k, ns.idxOf k, rfl, rfl, h1, idxOf_at c, idxOf_first, q _ _ .non (rvs_ints _)⟩
    · cases e2
  · cases e
/-! ### sorted(d) -/
def kD : Key → PyData
  | .inl i => .int i
  | .inr x => .str x
def keysOk (ks : List Key) : Prop := PySem.W.AllAlike (ks.map kD) ∧ PySem.W.Sortable (ks.map kD) ∧ ks.length ≤ 100000
theorem each_keys {h : Heap} : ∀ {ks : List Key} {us : List Value}, Vals (ks.map kV) us → PySem.W.EachIs (fun u k => RelV (kV k) u) us ks
  | [], _, r => by rw [List.map_nil] at r; cases r; exact .nil
  | k :: ks, _, r => by
    rw [List.map_cons] at r
    cases r with
    | cons h1 t => exact .cons h1 (each_keys (h := h) t)
theorem reads_key {h : Heap} {k : Key} {u : Value} (r : RelV (kV k) u) : Reads h u (kD k) [] := by
  cases k with
  | inl i => obtain ⟨t, rfl⟩ := r; exact .int i t
  | inr x => obtain ⟨t, rfl⟩ := r; exact .str x t
theorem each_keys_back : ∀ {ks : List Key} {us : List Value}, PySem.W.EachIs (fun u k => RelV (kV k) u) us ks → Vals (ks.map kV) us
  | _, _, .nil => .nil
  | _, _, .cons h r => .cons h (each_keys_back r)
theorem depth_key (k : Key) : (kD k).depth = 0 := by cases k <;> simp [kD, PyData.depth]
theorem call_sortedK (hcalm : X.calm = true) (hu : X.A.units + 64 < cLine) : CallR X (.builtin "sorted") (fun xs H Q => ∃ (a : Addr) (kvs : List (Key × V)), xs = [.ref a] ∧ Rd H a (.dK kvs) ∧ keysOk (kvs.map (·.1)) ∧ ∀ p, H p = none → Q (.ref p) (upd H p (.lst (((kvs.map (·.1)).mergeSort (PySem.W.dataLe false kD)).map kV)))) := by
  intro pins s τ H xs us Q I r ⟨a, kvs, ex, hd, ⟨k1, k2, k3⟩, q⟩
  subst ex
  obtain ⟨ua, rfl, ra⟩ := vals1 r
  cases ra
  obtain ⟨_, lo, vs, rel, isd⟩ := dk_rd I.hok hd
  obtain ⟨ep, hat⟩ := isd.dictAt
  have keys : vs.map (·.1) = kvs.map (·.1) := rel.keys.symm
  have many : vs.length = (kvs.map (·.1)).length := by rw [← keys, List.length_map]
  refine Calls.call_function_entry PyProof.Rows.kind_sorted PyProof.Rows.plain_sorted PyProof.Rows.entry_sorted (PyProof.Rows.args_sorted1 _) ?_; unfold Builtin.«sorted»
  refine wpAny_bind (m := checkCount "sorted" 1 1 _) (wpAny_pure (wpAny_bind (PySem.W.kdu_collect (A := X.A.in1) (PySem.W.kdl_dict (knd := mixKind X.prog X.w) (kvs := vs) (ep := ep) lo) (I.ok.hd hcalm) hat (by rw [many]; exact sz_of k3) fun hA tk acc old got => ?_)))
  have len : acc.toList.length = vs.length := by rw [Array.length_toList, got.1]
  have rels := keys_at (us := acc.toList) (vs := vs) len fun j v e => got.2 j v (by rw [← Array.getElem?_toList]; exact e)
  have eqk : (vs.map fun p => kV p.1) = (kvs.map (·.1)).map kV := by rw [← keys, List.map_map]; rfl
  rw [eqk] at rels
  have I1 : Inv X pins τ H { s with heap := hA, toks := tk } := I.kept old
  refine wpAny_bind (wpAny_newList ?_ (by rw [len, many]; exact sz_of k3))
  have lies : (hA.push (seqObj "list" acc.toList.toArray 0)).get? hA.objs.size = some (seqObj "list" acc.toList.toArray 0) := Heap.get?_push_size _ rfl
  refine wpAny_bind (wpAny_holding (PySem.W.list_sort_data (s := { s with heap := hA.push (seqObj "list" acc.toList.toArray 0), toks := tk }) (enc := kD) lies (each_keys (h := hA) rels) ((each_keys (h := hA) rels).mono fun u k hk => ⟨[], reads_key hk, by simp⟩) k1 k2 (sz_of k3) (fun b _ => by rw [depth_key]; show X.A.units + 1 + 1 + 0 < cLine; omega) fun out hl eo => ?_))
  obtain ⟨cc, there⟩ := PyProof.Rows.sortedHeap_at (vs := acc.toList) (out := out.toArray) lies
  refine wpAny_pure ⟨_, rfl, .ref hA.objs.size, upd H hA.objs.size (.lst (((kvs.map (·.1)).mergeSort (PySem.W.dataLe false kD)).map kV)), I1.laid (t' := tk) (fun b u e => ?_) (Nat.le_refl _) (show ObjOk X.prog X.w _ _ _ (.lst (((kvs.map (·.1)).mergeSort (PySem.W.dataLe false kD)).map kV)) from ⟨?_, out, cc, each_keys_back eo, there⟩), rfl, q _ (I1.hok.fresh (Nat.le_refl _))⟩
  · have hb : b < hA.objs.size := Heap.lt_size e
    rw [PyProof.Rows.sortedHeap_old (Nat.ne_of_lt hb) (Nat.lt_of_lt_of_le hb (by simp [Heap.push]))]
    exact Heap.get?_push_of_some _ e
  · rw [List.length_map, List.length_mergeSort]
    exact sz_of k3
open Classical in
def gSortO (S : Sto) : OO → Res VV
  | .dK kvs => if keysOk (kvs.map (·.1)) then newL (((kvs.map (·.1)).mergeSort (PySem.W.dataLe false kD)).map vK) S else .fail
  | _ => .fail
def gSortA (x : VV) (S : Sto) : Res VV := if isD S x = true then (match x with
    | .ref n => match S[n]? with
      | some o => gSortO S o
      | none => .fail
    | _ => .fail) else gSorted x S
theorem vK_rel {ι : List Addr} {H : Hp} (k : Key) : RV L ι H (vK k) (kV k) := by
  cases k with
  | inl i => exact .int i
  | inr x => exact .str x
theorem vKs_rel {ι : List Addr} {H : Hp} : ∀ ks : List Key, RVs L ι H (ks.map vK) (ks.map kV)
  | [] => .nil
  | k :: ks => .cons (vK_rel k) (vKs_rel ks)
theorem rkv_keys {κ : Type} {ι : List Addr} {H : Hp} : ∀ {kvs : List (κ × VV)} {ws : List (κ × V)}, RKv L ι H kvs ws → kvs.map (·.1) = ws.map (·.1)
  | _, _, .nil => rfl
  | _, _, .cons h r => by rw [List.map_cons, List.map_cons, h.1, rkv_keys r]
theorem cm_sortA (hK : L.K = X.K) (hcalm : X.calm = true) (hu : X.A.units + 64 < cLine) : CallR X (.builtin "sorted") (rdC L (g1 gSortA)) := cr1 fun pins s τ H v us Q ι S x I r rp rv o => by
  by_cases c : isD S x = true
  · obtain ⟨n, a, ob, rfl, rfl, e1, e2, ha⟩ := isD_ok rp rv c
    unfold gSortA at o
    rw [if_pos c] at o
    dsimp only at o
    rw [e1] at o
    cases ob with
    | dK kvs =>
      have o2 : OutE L ι H (gSortO S (.dK kvs)) Q (fun _ _ _ => False) := o
      unfold gSortO at o2
      dsimp only at o2
      by_cases c2 : keysOk (kvs.map (·.1))
      · rw [if_pos c2] at o2
        obtain ⟨a', u, h1, h2, ws, rfl, h4⟩ := rp.at_ n _ e1
        rw [ha] at h1
        cases h1
        rw [rkv_keys h4] at c2 o2
        exact call_sortedK hcalm hu pins s τ H _ us Q I r ⟨a, ws, rfl, .inl h2, c2, fun p hp => newL_out rp (vKs_rel _) o2 p hp⟩
      · rw [if_neg c2] at o2
        exact o2.elim
    | _ => exact o.elim
  · unfold gSortA at o
    rw [if_neg c] at o
    exact cm_sorted hK hu pins s τ H _ us Q I r ⟨ι, S, [x], rp, .cons rv .nil, o⟩
theorem nxSortA : ∀ x S, NoX (gSortA x S) := fun x S n S' e => by
  unfold gSortA at e
  split at e
  · split at e
    · split at e
      · unfold gSortO at e
        split at e
        · split at e
          · exact nxNew n S' e
          · cases e
        · cases e
      · cases e
    · cases e
  · exact nxSorted x S n S' e
end
end Sx
end
/-! Sx22: constants of the module, {}, defs with keyword-only defaults, classes' facts. -/
noncomputable section
namespace Sx
open PySem PySem.Spec
open PyProof.Rows L2
theorem units65 {k : Nat} {A : Around} (r : Room k A) : A.units + 65 < cLine := by have := r.un; omega
section
variable {X : Cx} {L : Lay} {W : WX}
/-- a constant -/
theorem tC_rd {x : VV} {v : V} (h : ∀ ι H, RV L ι H x v) : ∀ τ H Q, rdE L W (mC x) τ H Q → tC v τ H Q := fun τ H Q ⟨ι, S, σ, rp, rs, o⟩ => o ι H v (Ext.refl _ _) rp (h ι H)
def Gi (mg : Str → Option Value) (x : Str) (i : Int) : Prop := ∃ t, mg x = some (.int i t)
def Gs (mg : Str → Option Value) (x z : Str) : Prop := ∃ t, mg x = some (.str z t)
theorem me_gi {x : Str} {i : Int} {pos : Pos} (g : Gi X.mg x i) (hg : Gl X x := by rfl) (hd : (x == ("__debug__" : Str)) = false := by decide) : ME X L W (.Name x pos) (mC (.int i)) := by
  obtain ⟨t, e⟩ := g
  exact PE.wk (pe_glob hg e (v := .int i) ⟨t, rfl⟩ hd) (tC_rd fun _ _ => .int i)
theorem me_gs {x z : Str} {pos : Pos} (g : Gs X.mg x z) (hg : Gl X x := by rfl) (hd : (x == ("__debug__" : Str)) = false := by decide) : ME X L W (.Name x pos) (mC (.str z)) := by
  obtain ⟨t, e⟩ := g
  exact PE.wk (pe_glob hg e (v := .str z) ⟨t, rfl⟩ hd) (tC_rd fun _ _ => .str z)
/-- {}: its keys will be whole numbers or strings -/
def mDK : EM := fun _ S => .ok (.ref S.length) (S ++ [.dK []])
def mDT : EM := fun _ S => .ok (.ref S.length) (S ++ [.dT []])
theorem me_dK {pos : Pos} : ME X L W (.Dict [] [] pos) mDK := PE.wk pe_dnewK fun τ H Q ⟨ι, S, σ, rp, rs, o⟩ p hp => by
  have e2 : Ext ι H (ι ++ [p]) (upd H p (.dK [])) := Rep.newExt hp
  exact o _ _ _ e2 (rp.new hp ⟨[], rfl, .nil⟩) rp.newRef
theorem me_dT {pos : Pos} : ME X L W (.Dict [] [] pos) mDT := PE.wk pe_dnewT fun τ H Q ⟨ι, S, σ, rp, rs, o⟩ p hp => by
  have e2 : Ext ι H (ι ++ [p]) (upd H p (.dT [])) := Rep.newExt hp
  exact o _ _ _ e2 (rp.new hp ⟨[], rfl, .nil⟩) rp.newRef
end
/-! ### a class's attributes, by a test -/
def clB (K : PySem.W.Frag) (C : Addr) : Bool := PySem.W.plainGet K C Str.empty && (PySem.W.hasDictIn K C && (PySem.W.plainOver K C && He.eqO (PySem.W.findIn K (.ref C) "__setattr__") (some (some (.builtin "object.__setattr__")))))
theorem clB_ok {K : PySem.W.Frag} {C : Addr} (h : clB K C = true) : Cls K C := by
  obtain ⟨h1, h⟩ := He.ba h
  obtain ⟨h2, h⟩ := He.ba h
  obtain ⟨h3, h4⟩ := He.ba h
  exact ⟨h1, h2, h3, He.eqO_ok h4⟩
def fldB (L : PySem.W.Frag → Lay) (f : Str) (t : FT) : PySem.W.Frag → Bool := fun K => t.all fun p => decide (((L K).att p.1)[p.2]? = some f) && (decide ((L K).att p.1).Nodup && (decide (((L K).att p.1).length ≤ 100) && (clB K ((L K).C p.1) && He.eqO (PySem.W.findIn K (.ref ((L K).C p.1)) f) (some none))))
theorem ft_mem {t : FT} {c j : Nat} (h : t.lookup c = some j) : (c, j) ∈ t := by
  induction t with
  | nil => cases h
  | cons p r ih =>
    obtain ⟨a, b⟩ := p
    rw [List.lookup_cons] at h
    cases e : c == a with
    | true =>
      rw [e] at h
      cases h
      rw [eq_of_beq e]
      exact List.mem_cons_self
    | false =>
      rw [e] at h
      exact List.mem_cons_of_mem _ (ih h)
theorem fldB_ok {L : PySem.W.Frag → Lay} {f : Str} {t : FT} {K : PySem.W.Frag} (h : fldB L f t K = true) : FldOk K (L K) f t := ⟨fun c j e => by
  have h1 := List.all_eq_true.mp h _ (ft_mem e)
  obtain ⟨h2, h1⟩ := He.ba h1
  obtain ⟨h3, h1⟩ := He.ba h1
  obtain ⟨h4, h1⟩ := He.ba h1
  obtain ⟨h5, h6⟩ := He.ba h1
  exact ⟨of_decide_eq_true h2, of_decide_eq_true h3, of_decide_eq_true h4, clB_ok h5, He.eqO_ok h6⟩⟩
/-! ### promises of methods, makers, defs with defaults -/
section
variable {P : Program} {w : World} {K : PySem.W.Frag} {mg : Str → Option Value} {base : Heap} {L : Lay}
theorem cs_rel : ∀ {ds : List VV} {dvs : List V}, (∀ ι H, RVs L ι H ds dvs) → Cs L ds dvs := fun h => h
theorem Mkd.simple {c k : Nat} {x : Str} {ps : List Str} {mir : FM} {f : Addr} {fd : FuncData} (F : FnOk P w K mg base (L2.CX P w) k f fd ps (spM L mir)) (b : Binds K fd ps []) (hm : Mk K (L.C c) f) (gl : mg x = some (.ref (L.C c))) : Mkd P w K mg base L x c k ps [] mir :=
  ⟨⟨f, fd, [], [], F, b, .nil, fun _ _ => .nil, hm, gl⟩⟩
theorem Mkd.dfl {c k : Nat} {x : Str} {ps : List Str} {mir : FM} {f : Addr} {fd : FuncData} {ds : List VV} {dvs : List V} (F : FnOk P w K mg base (L2.CX P w) k f fd ps (spM L mir)) (b : ∃ dV, Vals dvs dV ∧ Binds K fd ps dV) (cs : Cs L ds dvs) (hm : Mk K (L.C c) f) (gl : mg x = some (.ref (L.C c))) : Mkd P w K mg base L x c k ps ds mir := by
  obtain ⟨dV, h1, h2⟩ := b
  exact ⟨⟨f, fd, dV, dvs, F, h2, h1, cs, hm, gl⟩⟩
theorem Md.dfl {c k : Nat} {m : Str} {ps : List Str} {mir : FM} {f : Addr} {fd : FuncData} {ds : List VV} {dvs : List V} (F : FnOk P w K mg base (L2.CX P w) k f fd ps (spM L mir)) (b : ∃ dV, Vals dvs dV ∧ Binds K fd ps dV) (cs : Cs L ds dvs) (hm : Meth K (L.C c) m f) (hc : Cls K (L.C c)) (nf : m ∉ L.att c) : Md P w K mg base L c m k ps ds mir := by
  obtain ⟨dV, h1, h2⟩ := b
  exact ⟨⟨f, fd, dV, dvs, F, h2, h1, cs, hm, hc⟩, nf⟩
theorem DfD.dfl {k : Nat} {x : Str} {ps : List Str} {mir : FM} {f : Addr} {fd : FuncData} {ds : List VV} {dvs : List V} (F : FnOk P w K mg base (L2.CX P w) k f fd ps (spM L mir)) (b : ∃ dV, Vals dvs dV ∧ Binds K fd ps dV) (cs : Cs L ds dvs) (kp : PySem.W.keepIn K (.ref f) = true) (gl : mg x = some (.ref f)) : DfD P w K mg base L x k ps ds mir := by
  obtain ⟨dV, h1, h2⟩ := b
  exact ⟨⟨f, fd, dV, dvs, F, h2, h1, cs, kp, gl⟩⟩
end
end Sx
end
/-! Sx23: o.f op= e. -/
noncomputable section
namespace Sx
open PySem PySem.Spec
open PyProof.Rows L2
def clI (S : Sto) (x : VV) : Option Nat := (insAt S x).map (·.1)
/-- o.f op= e; the object stays of its class while e is asked -/
def mAugA (t : FT) (g : VV → VV → Sto → Res VV) (o e : EM) : SM := fun σ S => (o σ S).toS σ fun a S1 => (gFld t a S1).toS σ fun x S2 => (e σ S2).toS σ fun y S3 => (g x y S3).toS σ fun z S4 => if clI S4 a = clI S2 a then optS (setF t a z S4) σ else .fail
section
variable {X : Cx} {L : Lay} {W : WX}
theorem setF_cl {t : FT} {ι : List Addr} {S S' : Sto} {H : Hp} {o x : VV} {v y : V} {f : Str} {c : Nat} (hF : FldOk X.K L f t) (rp : Rep L ι S H) (ro : RV L ι H o v) (rx : RV L ι H x y) (hc : clI S o = some c) (e : setF t o x S = some S') :
    ∃ a dx fs, v = .ref a ∧ H a = some (.ins (L.C c) dx fs) ∧ fs.length < 1000 ∧ Ext ι H ι (upd H a (.ins (L.C c) dx (putF f y fs))) ∧ Rep L ι S' (upd H a (.ins (L.C c) dx (putF f y fs))) := by
  obtain ⟨a, C, dx, fs, h1, h2, _, _, h5, ex, rp2⟩ := setF_ok hF rp ro rx e
  obtain ⟨p, e1, e2⟩ := Option.map_eq_some_iff.mp hc
  obtain ⟨n, a', dx', vs, _, h6, _, _, h7, _⟩ := insAt_ok rp ro e1
  subst h1
  cases h6
  rw [h2] at h7
  cases h7
  subst e2
  exact ⟨a, dx, _, rfl, h2, h5, ex, rp2⟩
theorem ms_augF {t : FT} {o e : Expr} {f : Str} {op : Operator} {tpos pos : Pos} {g : VV → VV → Sto → Res VV} {mo me : EM} (hF : FldOk X.K L f t) (hg : ∀ x y S, NoX (g x y S)) (hp : PIp X op (rdO L g)) (ho : ME X L W o mo) (he : ME X L W e me) :
    MS X L W (.AugAssign (.Attribute o f tpos) op e pos) (mAugA t g mo me) :=
  PS.wk (ps_fldaug ho he hp) fun D τ H ⟨ι, S, σ, rp, rs, out⟩ =>
    stepS rp rs out fun a S1 ι1 H1 va ex1 r1 s1 ra o1 => by
      cases e : (insAt S1 a).bind (fldR t) with
      | none =>
        have eg : gFld t a S1 = .fail := by unfold gFld; rw [e]; rfl
        rw [eg] at o1
        exact o1.elim
      | some x =>
        have eg : gFld t a S1 = .ok x S1 := by unfold gFld; rw [e]; rfl
        rw [eg] at o1
        obtain ⟨p, e1, e2⟩ := Option.bind_eq_some_iff.mp e
        obtain ⟨j, e3, e4⟩ := Option.bind_eq_some_iff.mp e2
        obtain ⟨n, b, dx, vs, rfl, rfl, ha, hS, hH, hv, _⟩ := insAt_ok r1 ra e1
        obtain ⟨h1, h2, h3, h4, h5⟩ := hF.ok _ _ e3
        obtain ⟨u, hu, ru⟩ := hv.get e4
        have hcl : clI S1 (.ref n) = some p.1 := by unfold clI; rw [e1]; rfl
        refine ⟨b, _, dx, _, u, rfl, hH, h4, h5, lookup_zip h2 h1 hu, stepS r1 s1 o1 fun y S2 ι2 H2 vy ex2 r2 s2 ry o2 => opS hg r2 (ru.mono ex2) ry o2 fun z S3 ι3 H3 vz ex3 r3 rz o3 => ?_⟩
        by_cases hc : clI S3 (.ref n) = clI S1 (.ref n)
        · rw [if_pos hc] at o3
          obtain ⟨S4, e5, q⟩ := optS_out o3
          obtain ⟨b', dx', fs', hb, h6, h7, ex, rp2⟩ := setF_cl hF r3 ((ra.mono ex2).mono ex3) rz (hc.trans hcl) e5
          cases hb
          exact ⟨dx', fs', h6, h7, q ι3 _ τ ex rp2 ((s2.mono ex3).mono ex)⟩
        · rw [if_neg hc] at o3
          exact o3.elim
end
end Sx
end
/-! Sx24: list(range(..)). -/
noncomputable section
namespace Sx
open PySem PySem.Spec
open PyProof.Rows L2
def gLRg (i j : Int) (S : Sto) : Res VV := if InR (-1000000000) i 1000000000 ∧ InR (-1000000000) j 1000000000 ∧ (j - i).toNat ≤ 100000 then newL (intsF i (j - i).toNat) S else .fail
def kLRg (i : Int) (y : VV) (S : Sto) : Res VV := match y with
  | .int j => gLRg i j S
  | _ => .fail
def kLRg2 (x y : VV) (S : Sto) : Res VV := match x with
  | .int i => kLRg i y S
  | _ => .fail
def mLRg1 (a : EM) : EM := fun σ S => (a σ S).bind fun x S1 => kLRg 0 x S1
def mLRg2 (a b : EM) : EM := fun σ S => (a σ S).bind fun x S1 => (b σ S1).bind fun y S2 => kLRg2 x y S2
section
variable {X : Cx} {L : Lay} {W : WX}
theorem rg_rel {ι : List Addr} {H : Hp} (i : Int) (n : Nat) : RVs L ι H (intsF i n) ((List.range n).map fun k => V.int (i + (k : Nat))) := by
  unfold intsF
  generalize List.range n = l
  induction l with
  | nil => exact .nil
  | cons k r ih => exact .cons (.int _) ih
theorem lrg_out {i j : Int} {ι : List Addr} {S : Sto} {H : Hp} {Q : VK} {E : XK} (rp : Rep L ι S H) (o : OutE L ι H (gLRg i j S) Q E) : RgOk i j ∧ ∀ q, H q = none → Q (.ref q) (upd H q (.lst (rgV i j))) := by
  unfold gLRg at o
  by_cases c : InR (-1000000000) i 1000000000 ∧ InR (-1000000000) j 1000000000 ∧ (j - i).toNat ≤ 100000
  · rw [if_pos c] at o
    obtain ⟨⟨c1, c2⟩, ⟨c3, c4⟩, c5⟩ := c
    exact ⟨⟨by omega, by omega, by omega, by omega, by omega⟩, newL_out rp (rg_rel i _) o⟩
  · rw [if_neg c] at o
    exact o.elim
theorem me_lrg1 {a : Expr} {ma : EM} {p p2 pos pos2 : Pos} (hc : X.calm = true) (hg : Gl X "list") (hm : X.mg "list" = none) (hg2 : Gl X "range") (hm2 : X.mg "range" = none) (ha : ME X L W a ma)
    (na : starEach [Expr.Call (.Name "range" p2) [a] [] pos2] X.env = (false, eval (Expr.Call (.Name "range" p2) [a] [] pos2) X.env) :: starEach [] X.env := by rfl) (na2 : starEach [a] X.env = (false, eval a X.env) :: starEach [] X.env := by rfl) :
    ME X L W (.Call (.Name "list" p) [.Call (.Name "range" p2) [a] [] pos2] [] pos) (mLRg1 ma) :=
  PE.wk (pe_listRg hc hg hm (prg_1 hg2 hm2 ha na2) na) fun τ H Q ⟨ι, S, σ, rp, rs, o⟩ => stepE rp rs o fun x S1 ι1 H1 v ex r1 s1 rv o1 => by
    cases x with
    | int n =>
      cases rv
      exact ⟨n, rfl, lrg_out r1 o1⟩
    | _ => exact o1.elim
theorem me_lrg2 {a b : Expr} {ma mb : EM} {p p2 pos pos2 : Pos} (hc : X.calm = true) (hg : Gl X "list") (hm : X.mg "list" = none) (hg2 : Gl X "range") (hm2 : X.mg "range" = none) (ha : ME X L W a ma) (hb : ME X L W b mb)
    (na : starEach [Expr.Call (.Name "range" p2) [a, b] [] pos2] X.env = (false, eval (Expr.Call (.Name "range" p2) [a, b] [] pos2) X.env) :: starEach [] X.env := by rfl) (na2 : starEach [a, b] X.env = (false, eval a X.env) :: starEach [b] X.env := by rfl)
    (nb : starEach [b] X.env = (false, eval b X.env) :: starEach [] X.env := by rfl) (hp : (backTo pos2 (starEach [b] X.env)).any (·.1) = false := by rfl) :
    ME X L W (.Call (.Name "list" p) [.Call (.Name "range" p2) [a, b] [] pos2] [] pos) (mLRg2 ma mb) :=
  PE.wk (pe_listRg hc hg hm (prg_2 hg2 hm2 ha hb na2 nb hp) na) fun τ H Q ⟨ι, S, σ, rp, rs, o⟩ => stepE rp rs o fun x S1 ι1 H1 v ex r1 s1 rv o1 => stepE r1 s1 o1 fun y S2 ι2 H2 w ex2 r2 s2 rw' o2 => by
    cases x with
    | int i =>
      cases rv
      cases y with
      | int j =>
        cases rw'
        exact ⟨i, j, rfl, rfl, lrg_out r2 o2⟩
      | _ => exact o2.elim
    | _ => exact o2.elim
end
end Sx
end
section
/-! Sx25: attributes' facts, class by class. -/
namespace Sx
open PySem PySem.Spec
open PyProof.Rows L2
theorem FldOk.nil {K : PySem.W.Frag} {L : Lay} {f : Str} : FldOk K L f [] := ⟨fun c j e => by cases e⟩
theorem FldOk.cons {K : PySem.W.Frag} {L : Lay} {f : Str} {t : FT} {c j : Nat} (h1 : (L.att c)[j]? = some f) (h2 : (L.att c).Nodup) (h3 : (L.att c).length ≤ 100) (h4 : Cls K (L.C c)) (h5 : NoAttr K (L.C c) f) (h : FldOk K L f t) : FldOk K L f ((c, j) :: t) := ⟨fun d i e => by
  rw [List.lookup_cons] at e
  cases hb : d == c with
  | true =>
    rw [hb] at e
    cases e
    have := eq_of_beq hb
    subst this
    exact ⟨h1, h2, h3, h4, h5⟩
  | false =>
    rw [hb] at e
    exact h.ok d i e⟩
end Sx
end
/-! Sx26: why(lambda: ..), a def that calls what it got within a try. -/
noncomputable section
namespace Sx
open PySem PySem.Spec
open PyProof.Rows L2 LamX NdefX
/-- what the suite behind a refusal tells -/
def srE : SR → Res VV
  | .rt v S => .ok v S
  | _ => .fail
/-- why(lambda: m): ("told", what m tells), or what the clauses tell -/
def mWhy (T : ExTab) (l : List MCla) (k : Nat) (m : EM) : EM := fun σ S => match m σ S with
  | .ok v S' => .ok (.tup [.str "told", v]) S'
  | .exc n S' => srE (mHs T l n (List.replicate k none) S')
  | .fail => .fail
section
variable {X : Cx} {L : Lay} {W : WX} {T : ExTab}
theorem takes_len {W : WX} (t : Takes X W) : Takes X (fun cls d σ H => σ.length = X.N.length → W cls d σ H) := fun u s' ⟨a, B, sI, pins, σ, H, cls, d, e, I, nb, up, sky, na, os, ag, w⟩ =>
  t u s' ⟨a, B, sI, pins, σ, H, cls, d, e, I, nb, up, sky, na, os, ag, w I.len⟩
theorem rep_ext {ι : List Addr} {S : Sto} {H H1 : Hp} (r : Rep L ι S H) (e : LamX.ExtN H H1) (t : TabsN L.T H1) : Rep L ι S H1 ∧ Keep H H1 := by
  have k : Keep H H1 := ⟨fun a xs h => e a _ h (fun ps z => by cases z), fun a o xs h => e a _ h (fun ps z => by cases z)⟩
  refine ⟨⟨r.len, r.nd, fun n o h => ?_, t⟩, k⟩
  obtain ⟨a, u, h1, h2, h3⟩ := r.at_ n o h
  refine ⟨a, u, h1, e a u h2 (fun ps z => ?_), h3.mono ⟨List.prefix_rfl, k⟩⟩
  subst z
  cases o with
  | lst xs => obtain ⟨_, z, _⟩ := h3; cases z
  | dK xs => obtain ⟨_, z, _⟩ := h3; cases z
  | dT xs => obtain ⟨_, z, _⟩ := h3; cases z
  | ins c fs => obtain ⟨_, _, z, _⟩ := h3; cases z
  | xd c fs => obtain ⟨_, z, _⟩ := h3; cases z
  | xv i k c => obtain ⟨_, _, _, _, z⟩ := h3; unfold L2.exo at z; cases z
  | xdd c fs => obtain ⟨_, _, z, _⟩ := h3; unfold L2.exd at z; cases z
  | lk o => obtain ⟨_, _, z, _⟩ := h3; cases z
theorem tabs_of {T : List (Addr × Str)} {H : Hp} (t : TabsN (T.map fun p => (p.1, fun _ _ => p.2)) H) : Tabs T H := fun p hp => (t _ (List.mem_map.mpr ⟨p, hp, rfl⟩) : TabN H p.1 fun _ _ => p.2)
theorem tabs_to {T : List (Addr × Str)} {H : Hp} (t : Tabs T H) : TabsN (T.map fun p => (p.1, fun _ _ => p.2)) H := fun q hq => by
  obtain ⟨p, hp, rfl⟩ := List.mem_map.mp hq
  exact t p hp
/-- the clauses' readings, written out -/
def kOf (L : Lay) (T : ExTab) (l : List MCla) : List Cla := l.map fun q => (.ref (L.C q.1), q.2.1, rdSx L T q.1 q.2.1 q.2.2)
theorem mHs_cla {hs : List ExceptHandler} {l : List MCla} (m : MHs X L T hs l) : ClaOk X hs (kOf L T l) := by
  induction m with
  | nil => exact .nil
  | cons nm lc ex su rest ih => exact .cons nm lc su ih
theorem mHs_mix {K : PySem.W.Frag} : ∀ {l : List MCla}, (∀ q ∈ l, ∀ c b, exIs T c q.1 = some b → PySem.W.exmOne K (.ref (L.C c)) (.ref (L.C q.1)) = some b) → ∀ {ι : List Addr} {S : Sto} {σ : Sg} {τ : L2.St} {H : Hp} {n : Nat} {cls : Value} {d : Option Addr} {D : Ends}, Rep L ι S H → RS L ι H σ τ → XR L ι S n cls d → OutS L W ι H (mHs T l n σ S) D → wMix K W D (kOf L T l) cls d τ H
  | [], _, ι, S, σ, τ, H, n, cls, d, D, rp, rs, x, o => o ι H τ cls d (Ext.refl _ _) rp rs x
  | (h, oo, sm) :: l, hex, ι, S, σ, τ, H, n, cls, d, D, rp, rs, x, o => by
    have k2 := fun q hq => hex q (List.mem_cons_of_mem _ hq)
    have ex := hex (h, oo, sm) List.mem_cons_self
    dsimp only at ex
    obtain ⟨c, fs, dd, e1, e2, e3, e4⟩ := x
    have ec : clsAt S n = some c := by unfold clsAt; rw [e1]
    have o1 : OutS L W ι H (match exIs T c h with
      | some true => if fits oo σ = true then (sm n (wipe1 oo σ) S).gone oo else .fail
      | some false => mHs T l n σ S
      | none => .fail) D := by
      have := o
      unfold mHs at this
      rw [ec] at this
      exact this
    cases e5 : exIs T c h with
    | none => rw [e5] at o1; exact o1.elim
    | some bb =>
      rw [e5] at o1
      refine ⟨bb, by rw [e2]; exact ex c bb e5, fun hb a na => ?_, fun hb => ?_⟩
      · subst hb
        dsimp only at o1
        by_cases hf : fits oo σ = true
        · rw [if_pos hf] at o1
          cases oo with
          | none => exact ⟨ι, S, σ, n, c, fs, dd, rp, rs, e1, e2, e3, e4, e5, (fun i z => by cases z), gone_out o1⟩
          | some i =>
            have hi : i < σ.length := of_decide_eq_true hf
            refine ⟨ι, S, σ.set i none, n, c, fs, dd, rp, rs.gone i, e1, e2, e3, e4, e5, fun j z => ?_, gone_out o1⟩
            cases z
            exact List.getElem?_set_self (by rw [← rs.len]; exact hi)
        · rw [if_neg hf] at o1
          exact o1.elim
      · subst hb
        exact mHs_mix k2 rp rs ⟨c, fs, dd, e1, e2, e3, e4⟩ o1
/-- what the def makes of the lambda's reading -/
def TWhy (K : PySem.W.Frag) (k : List Cla) (n : Nat) : (XK → Hp → VK → Prop) → Hp → VK → Prop := fun tl H Q =>
  tl (fun cls d H' => ∀ τ : L2.St, τ.length = n → wMix K WF { nx := fun _ H' => Q .non H', rt := Q } k cls d τ H') H fun v H' => ([V.str "told", v] : List V).length ≤ sizeLine ∧ ∀ t, H' t = none → Q (.ref t) (upd H' t (.tup [.str "told", v]))
theorem why_gives {Ng : List Str} {x a q : Str} {sg : Scope} {g : Addr} {cdg : Value} {j k1 : Nat} {p1 p2 p3 p4 p5 p8 : Pos} {h1 : ExceptHandler} {hs : List ExceptHandler} {k : List Cla} (nd : Ng.Nodup) (h0 : ∀ f : Addr, (L2.start Ng [V.ref f])[0]? = some (some (V.ref f)))
    (hh : ∀ (s : Shared) (H : Hp), ClaOk (cxOf C8.CX0 X.prog X.w X.K X.mg X.base Ng x sg g cdg X.A X.stack s H C8.E0).nox (h1 :: hs) k)
    (hs1 : ∀ env : Env, starEach [Expr.Constant (.str "told") j p1, .Call (.Name a p2) [] [] p3] env = (false, eval (Expr.Constant (.str "told") j p1) env) :: starEach [.Call (.Name a p2) [] [] p3] env := by intro; rfl)
    (hs2 : ∀ env : Env, starEach [Expr.Call (.Name a p2) [] [] p3] env = (false, eval (Expr.Call (.Name a p2) [] [] p3) env) :: starEach [] env := by intro; rfl) :
    GivesTo X Ng x sg g cdg [.Try [.Return (some (.Tuple [.Constant (.str "told") j p1, .Call (.Name a p2) [] [] p3] k1 p4)) p5] (h1 :: hs) [] [] p8] a q (TWhy X.K k Ng.length) := by
  intro f c' s H Q tl act hc h
  refine ⟨_, pss_one (ps_try_mix (X := (cxOf C8.CX0 X.prog X.w X.K X.mg X.base Ng x sg g cdg X.A X.stack s H C8.E0).nox) (l := k)
      (tb := fun W D σ H => ∃ Ech : XK, (∀ cls d σ' H', Ech cls d H' → σ'.length = Ng.length → W cls d σ' H') ∧ σ[0]? = some (some (.ref f)) ∧ H c' = some (CodeO c' q) ∧ tl Ech H fun v H' => ([V.str "told", v] : List V).length ≤ sizeLine ∧ ∀ t, H' t = none → D.rt (.ref t) (upd H' t (.tup [.str "told", v])))
      (Wout := WF) rfl rfl nd L2.takes0 (fun W pn xe tk _ => ?_) (hh s H)), ?_⟩
  · refine ⟨fun pins s' σ H' D I h' => ?_⟩
    obtain ⟨Ech, hW, h1, h2, h3⟩ := h'
    have hp := act (fun cls d σ H => σ.length = Ng.length → W cls d σ H) pn xe Ech p2 p3 (takes_len tk) (fun cls d σ' H' e => hW cls d σ' H' e)
    have hq := pss_one (ps_ret (pos := p5) (pe_tup (pos := p4) (x1 := k1) (pa_cons pe_str (pa_cons hp pa_nil (hs2 _)) (hs1 _))))
    refine hq.run pins s' σ H' D I ?_
    exact ⟨h1, h2, h3⟩
  · exact ⟨_, fun cls d σ' H' e hl => e σ' hl, h0 f, hc, h⟩
/-- why(lambda: body) -/
theorem me_why {TT : List (Addr × Str)} {x a : Str} {g c P : Addr} {k1 j : Nat} {fd : FuncData} {k2 : Nat} {pg : Arguments} {bg : List Stmt} {sg : Scope} {Ng : List Str} {params : Arguments} {body : Expr} {scope : Scope} {m : EM} {p lpos pos : Pos} {p1 p2 p3 p4 p5 p8 : Pos}
    {h1 : ExceptHandler} {hs : List ExceptHandler} {l : List MCla} {n1 : Nat} (F : FunD X.K x x pg bg sg [] [] g fd) (hb : L2.Binds X.K fd [a] []) (hg : Gl X x) (hm : X.mg x = some (.ref g)) (SC : FnScope Ng [a] sg) (hNg : Ng[0]? = some a) (hva : Vis sg a)
    (eb : bg = [.Try [.Return (some (.Tuple [.Constant (.str "told") n1 p1, .Call (.Name a p2) [] [] p3] k1 p4)) p5] (h1 :: hs) [] [] p8]) (h0 : ∀ f : Addr, (L2.start Ng [V.ref f])[0]? = some (some (V.ref f)))
    (hh : ∀ (cdg : Value) (s : Shared) (H : Hp), MHs (cxOf C8.CX0 X.prog X.w X.K X.mg X.base Ng x sg g cdg X.A X.stack s H C8.E0).nox L T (h1 :: hs) l)
    (hex : ∀ q ∈ l, ∀ c b, exIs T c q.1 = some b → PySem.W.exmOne X.K (.ref (L.C c)) (.ref (L.C q.1)) = some b) (TB : TabB X.base X.mg c P) (hcode : X.env.code = .ref c) (hT : L.T = TT.map fun p => (p.1, fun _ _ => p.2)) (hmT : (P, X.env.qual ++ "<lambda>") ∈ TT) (hu : ∀ p ∈ TT, p.1 = P → p.2 = X.env.qual ++ "<lambda>") (hr : Room j X.A) (hkj : k2 + 2 ≤ j) (LS : LamS X.env.scope scope) (hdef : defaultsOf params X.env = ([], []))
    (hbind : ∀ (q : Str) (cl : List (Str × Addr)) (pm cv ctv : Value), bindArgs (PySem.W.kla_fn "<lambda>" q params body scope cl pm cv ctv) ⟨[], []⟩ = pure [])
    (hbody : ∀ (A : Around) (outer : List Env) (s : Shared) (H : Hp) (E : XK) (f c' : Addr), Room k2 (A.deeper (lamEnv X scope s.heap.objs.size f c')) → Takes (lamCx X A outer s H E scope f c') (fun cls d _ H => E cls d H) → ME (lamCx X A outer s H E scope f c') L (fun cls d _ H => E cls d H) body m)
    (hdb : (x == ("__debug__" : Str)) = false := by decide) (hd : (a == ("__debug__" : Str)) = false := by decide) (hcd : (a == ("__classdict__" : Str)) = false := by decide) :
    ME X L W (.Call (.Name x p) [.Lambda params body scope lpos] [] pos) (mWhy T l Ng.length m) := by
  obtain ⟨oc, od, dV, kV, doc, pm, an, cdv, ct, osl, rfl, lk, hcd2, _, _⟩ := F.ex
  subst eb
  refine PE.wk (pe_lamcall (T := TT) (TT := TWhy X.K (kOf L T l) Ng.length) (t := fun E => rdE L (fun cls d _ H => E cls d H) m) hg hm F.kp lk hcd2 hb SC hNg hva (why_gives SC.nd h0 fun s H => mHs_cla (hh cdv s H)) TB hcode hmT hu (hr.mono hkj) LS hdef hbind (fun A outer s H E f c' hr' => hbody A outer s H E f c' hr' (takes_of rfl rfl rfl rfl)) hdb hd hcd) fun τ H Q ⟨ι, S, σ, rp, rs, o⟩ => ?_
  have hT0 : TabsN (TT.map fun p => (p.1, fun _ _ => p.2)) H := hT ▸ rp.tabs
  refine ⟨tabs_of hT0, fun H1 eN t1 => ?_⟩
  obtain ⟨rp1, k1⟩ := rep_ext rp eN (hT ▸ tabs_to t1)
  have ex1 : Ext ι H ι H1 := ⟨List.prefix_rfl, k1⟩
  refine ⟨ι, S, σ, rp1, rs.mono ex1, ?_⟩
  have o1 := OutE.mono ex1 o
  unfold mWhy at o1
  cases e1 : m σ S with
  | ok v S' =>
    rw [e1] at o1
    intro ι2 H2 w ex2 r2 rv2
    refine ⟨by show 2 ≤ sizeLine; rw [sizeLine_eq]; decide, fun t ht => ?_⟩
    have e3 : Ext ι2 H2 ι2 (upd H2 t (.tup [.str "told", w])) := ⟨List.prefix_rfl, Keep.new ht⟩
    exact o1 ι2 _ _ (ex2.trans e3) (r2.other ht) (.tup upd_same (.cons (.str _) (.cons (rv2.mono e3) .nil)))
  | exc n S' =>
    rw [e1] at o1
    intro ι2 H2 cls d ex2 r2 x2 τ2 hl
    refine mHs_mix hex r2 (σ := List.replicate Ng.length none) ⟨by rw [List.length_replicate, hl], fun i y z => ?_⟩ x2 ?_
    · rw [List.getElem?_replicate] at z
      split at z <;> cases z
    · have o2 : OutE L ι2 H2 (srE (mHs T l n (List.replicate Ng.length none) S')) Q _ := OutE.mono ex2 o1
      cases e2 : mHs T l n (List.replicate Ng.length none) S' with
      | rt v S'' =>
        rw [e2] at o2
        exact fun ι3 H3 v3 ex3 r3 rv3 => o2 ι3 H3 v3 ex3 r3 rv3
      | nx σ' S'' => rw [e2] at o2; exact o2.elim
      | bk σ' S'' => rw [e2] at o2; exact o2.elim
      | ct σ' S'' => rw [e2] at o2; exact o2.elim
      | exc n' σ' S'' => rw [e2] at o2; exact o2.elim
      | fail => rw [e2] at o2; exact o2.elim
  | fail => rw [e1] at o1; exact o1.elim
end
end Sx
end
/-! Sx27: a hook that knows tables of code objects; a def's promise with its code object known. -/
noncomputable section
namespace Sx
open PySem PySem.Spec
open PyProof.Rows L2 LamX NdefX
def obsBT (fb : List Fb) (fa : List He.Fa) (fn : List He.DefD) (tf : List He.Defn) (g : Addr → Option Obj) (K : PySem.W.Frag) : He.AlD := ((He.tabsB g tf K && fb.all fun t => t K) && (He.obsD fa fn K).1, (He.obsD fa fn K).2)
structure SaysBT (fb : List Fb) (fa : List He.Fa) (fn : List He.DefD) (tf : List He.Defn) (h : Heap) (K : PySem.W.Frag) : Prop where
  b : SaysB fb fa fn K
  hd : ∀ p ∈ tf, PySem.W.codeHdIn K (He.cT K p).1 (He.cT K p).2 = true
  out : ∀ p ∈ tf, K.lookup (He.cT K p).2 = none
  empty : ∀ p ∈ tf, h.get? (He.cT K p).2 = some { cls := .none, data := .fields #[] }
def obsBTG (n : Nat) (fb : List Fb) (fa : List He.Fa) (fn : List He.DefD) (tf : List He.Defn) (g : Addr → Option Obj) : He.AlD := obsBT fb fa fn tf g (He.frT g (cStatics :: He.asD g n))
theorem saysBT_of {n : Nat} {fb : List Fb} {fa : List He.Fa} {fn : List He.DefD} {tf : List He.Defn} {h : Heap} (e : obsBTG n fb fa fn tf h.get? = He.valD fn) : SaysBT fb fa fn tf h (He.frT h.get? (cStatics :: He.asD h.get? n)) := by
  have e1 := congrArg (fun z : He.AlD => z.1) e
  have e2 := congrArg (fun z : He.AlD => z.2) e
  have e1 : ((He.tabsB h.get? tf (He.frT h.get? (cStatics :: He.asD h.get? n)) && fb.all fun t => t (He.frT h.get? (cStatics :: He.asD h.get? n))) && (He.obsD fa fn (He.frT h.get? (cStatics :: He.asD h.get? n))).1) = true := e1
  obtain ⟨h1, h3⟩ := and2 e1
  obtain ⟨h1, h2⟩ := and2 h1
  have key : ∀ p ∈ tf, PySem.W.codeHdIn (He.frT h.get? (cStatics :: He.asD h.get? n)) (He.cT (He.frT h.get? (cStatics :: He.asD h.get? n)) p).1 (He.cT (He.frT h.get? (cStatics :: He.asD h.get? n)) p).2 = true ∧ ∃ o, h.get? (He.cT (He.frT h.get? (cStatics :: He.asD h.get? n)) p).2 = some o ∧ He.emptyTab o = true := fun p hp => by
    obtain ⟨h3, h4⟩ := and2 (List.all_eq_true.mp h1 p hp)
    refine ⟨h3, ?_⟩
    cases q : h.get? (He.cT (He.frT h.get? (cStatics :: He.asD h.get? n)) p).2 with
    | none => rw [q] at h4; cases h4
    | some o => rw [q] at h4; exact ⟨o, rfl, h4⟩
  refine ⟨?_, fun p hp => (key p hp).1, fun p hp => ?_, fun p hp => ?_⟩
  · show obsB fb fa fn _ = _
    unfold obsB
    refine Prod.ext ?_ e2
    show ((fb.all fun t => t _) && (He.obsD fa fn _).1) = (He.valD fn).1
    rw [h2, h3]
    have : ((He.tabsB h.get? tf (He.frT h.get? (cStatics :: He.asD h.get? n)) && fb.all fun t => t (He.frT h.get? (cStatics :: He.asD h.get? n))) && (He.obsD fa fn (He.frT h.get? (cStatics :: He.asD h.get? n))).1) = (He.valD fn).1 := congrArg (fun z : He.AlD => z.1) e
    rw [h1, h2, h3] at this
    exact this
  · obtain ⟨_, o, q, z⟩ := key p hp
    exact He.frT_none q z
  · obtain ⟨_, o, q, z⟩ := key p hp
    rw [q, He.emptyTab_eq z]
def hookBT (n : Nat) (fb : List Fb) (fa : List He.Fa) (fn : List He.DefD) (tf : List He.Defn) : PySem.W.Hook where
  α := He.AlD
  obs := fun s => obsBTG n fb fa fn tf s.heap.get?
  val := fun _ => He.valD fn
  says := fun _ h => ∃ K : PySem.W.Frag, K.In h ∧ SaysBT fb fa fn tf h K
  of := fun _ _ e => ⟨_, He.frT_in, saysBT_of e⟩
  keeps := fun _ _ _ ⟨K, hK, c⟩ k => ⟨K, PySem.W.Frag.In.keeps hK k, ⟨c.b, c.hd, c.out, fun p hp => k _ _ (c.empty p hp)⟩⟩
theorem obsBTG_eq {n : Nat} {fb : List Fb} {fa : List He.Fa} {fn : List He.DefD} {tf : List He.Defn} {g : Addr → Option Obj} {s : Shared} (h : ∀ a, g a = s.heap.get? a) : obsBTG n fb fa fn tf g = (hookBT n fb fa fn tf).obs s := by
  have e : g = s.heap.get? := funext h
  rw [e] <;> rfl
/-- a def's promise, its code object known to the body -/
theorem fn_okMC {P : Program} {w : World} {K : PySem.W.Frag} {mg : Str → Option Value} {base : Heap} {L : Lay} {x qual : Str} {params : Arguments} {body : List Stmt} {scope : Scope} {kws : List (Str × V)} {f : Addr} {fd : FuncData} {N ps : List Str} {k np n : Nat} {b : SM}
    (F : FunD K x qual params body scope [] kws f fd) (Sc : FnScope N ps scope) (hn : n = N.length) (hp : np = ps.length)
    (h : ∀ (cdv : Value), fd.code = cdv → ∀ (A : Around) (outer : List Env) (s : Shared) (H : Hp) (E : XK), Room k (A.deeper (envOfC qual scope s.heap.objs.size f cdv)) → Takes (cxOf (L2.CX P w) P w K mg base N qual scope f cdv A outer s H E) (fun cls d _ H => E cls d H) →
      MSs (cxOf (L2.CX P w) P w K mg base N qual scope f cdv A outer s H E) L (fun cls d _ H => E cls d H) body b) : FnOk P w K mg base (L2.CX P w) (k + 1) f fd ps (spM L (fnM np n b)) := by
  subst hn hp
  obtain ⟨oc, od, dV, kV, doc, pm, an, cdv, ct, osl, rfl, lk, hcd, _, _⟩ := F.ex
  exact fn_of lk hcd Sc (fun vs H Q E h => spM_len h) fun A outer s H vs Q E hr hsp => ⟨_, h cdv rfl A outer s H E hr (takes_of rfl rfl rfl (E₁ := fun e' s'' => L2.CX P w outer H s E e' s'') rfl), spM_body hsp⟩
theorem tabsN_nil {T : List (Addr × Str)} {cs : List (Addr × Addr)} {H : Hp} (hc : ∀ p ∈ T, ∃ q ∈ cs, q.2 = p.1) (hH : ∀ p ∈ cs, H p.2 = some (.tbl #[])) : TabsN (T.map fun p => (p.1, fun _ _ => p.2)) H := fun q hq => by
  obtain ⟨p, hp, rfl⟩ := List.mem_map.mp hq
  obtain ⟨r, hr, e⟩ := hc p hp
  exact TabN.nil (by rw [← e]; exact hH r hr)
end Sx
end
/-! Sx28: what is never reached; dicts locked and walked; get; displays. -/
noncomputable section
namespace Sx
open PySem PySem.Spec
open PyProof.Rows L2
def mNoE : EM := fun _ _ => .fail
def mNoT : TM := fun _ _ => .fail
section
variable {X : Cx} {L : Lay} {W : WX}
theorem me_never {e : Expr} : ME X L W e mNoE := ⟨fun _ _ _ _ _ _ ⟨_, _, _, _, _, o⟩ => o.elim⟩
theorem mt_never {e : Expr} : MT X L W e mNoT := ⟨fun _ _ _ _ _ _ ⟨_, _, _, _, _, o⟩ => o.elim⟩
end
/-! ### a dict locked while an expression runs -/
def dictU : OO → Bool
  | .dK _ => true
  | .dT _ => true
  | _ => false
open Classical in
def unlockR (n : Nat) (o : OO) : Res VV → Res VV
  | .ok v S2 => if S2[n]? = some (.lk o) then .ok v (S2.set n o) else .fail
  | _ => .fail
def lockO (n : Nat) (m : EM) (σ : Sg) (S : Sto) : Option OO → Res VV
  | some o => if dictU o = true then unlockR n o (m σ (S.set n (.lk o))) else .fail
  | none => .fail
def mLock (d m : EM) : EM := fun σ S => match d σ S with
  | .ok (.ref n) _ => lockO n m σ S (S[n]?)
  | _ => .fail
section
variable {X : Cx} {L : Lay} {W : WX}
theorem ro_dict {ι : List Addr} {H : Hp} {o : OO} {u : HO} (r : RO L ι H o u) (d : dictU o = true) : Mut (some u) ∧ Plain u ∧ (∀ xs, u ≠ .tup xs) ∧ (∀ ob w, u ≠ .frz ob w) ∧ (∀ xs, u ≠ .lst xs) := by
  cases o with
  | dK kvs =>
    obtain ⟨ws, rfl, _⟩ := r
    exact ⟨trivial, ⟨(fun _ z => by cases z), (fun _ z => by cases z)⟩, (fun _ z => by cases z), (fun _ _ z => by cases z), (fun _ z => by cases z)⟩
  | dT kvs =>
    obtain ⟨ws, rfl, _⟩ := r
    exact ⟨trivial, ⟨(fun _ z => by cases z), (fun _ z => by cases z)⟩, (fun _ z => by cases z), (fun _ _ z => by cases z), (fun _ z => by cases z)⟩
  | _ => cases d
theorem me_lock {e : Expr} {d m : EM} (h : ME X L WF e m) : ME X L W e (mLock d m) := PE.wk (pe_lock h) fun τ H Q ⟨ι, S, σ, rp, rs, out⟩ => by
  unfold mLock at out
  cases ed : d σ S with
  | exc _ _ => rw [ed] at out; exact out.elim
  | fail => rw [ed] at out; exact out.elim
  | ok x S1 =>
    rw [ed] at out
    cases x with
    | ref n =>
      have o1 : OutE L ι H (lockO n m σ S (S[n]?)) Q (fun c d H' => W c d τ H') := out
      cases en : S[n]? with
      | none => rw [en] at o1; exact o1.elim
      | some o =>
        rw [en] at o1
        unfold lockO at o1
        dsimp only at o1
        by_cases hd : dictU o = true
        · rw [if_pos hd] at o1
          obtain ⟨a, u, h1, h2, h3⟩ := rp.at_ n o en
          obtain ⟨mu, pl, nt, nf, nl⟩ := ro_dict h3 hd
          refine ⟨a, u, h2, mu, fun od => ?_⟩
          have k0 : Keep0 H (upd H a (.frz od u)) := by
            refine ⟨fun b xs z => ?_, fun b ob xs z => ?_⟩
            · rw [upd_ne (fun y => by rw [y, h2] at z; exact nt xs (Option.some.inj z))]
              exact z
            · rw [upd_ne (fun y => by rw [y, h2] at z; exact nf _ _ (Option.some.inj z))]
              exact z
          have e0 : Ext0 ι H ι (upd H a (.frz od u)) := ⟨List.prefix_rfl, k0⟩
          have hn : n < S.length := (List.getElem?_eq_some_iff.mp en).1
          have rl : Rep L ι (S.set n (.lk o)) (upd H a (.frz od u)) := by
            refine ⟨by rw [List.length_set]; exact rp.len, rp.nd, fun k ok ek => ?_, tabs_set rp.tabs h2 pl⟩
            by_cases hk : k = n
            · subst hk
              rw [List.getElem?_set_self hn] at ek
              cases ek
              exact ⟨a, _, h1, upd_same, od, u, rfl, h3.mono0 e0⟩
            · rw [List.getElem?_set_ne (Ne.symm hk)] at ek
              obtain ⟨b, v, q1, q2, q3⟩ := rp.at_ k ok ek
              exact ⟨b, v, q1, by rw [upd_ne (nd_ne rp.nd q1 h1 hk)]; exact q2, q3.mono0 e0⟩
          refine ⟨ι, S.set n (.lk o), σ, rl, ⟨rs.len, fun i x hx => let ⟨v, p, q⟩ := rs.at_ i x hx; ⟨v, p, q.mono0 e0⟩⟩, ?_⟩
          cases em : m σ (S.set n (.lk o)) with
          | exc _ _ => rw [em] at o1; exact o1.elim
          | fail => rw [em] at o1; exact o1.elim
          | ok v S2 =>
            rw [em] at o1
            unfold unlockR at o1
            dsimp only at o1
            by_cases hl : S2[n]? = some (.lk o)
            · rw [if_pos hl] at o1
              intro ι' H' w ex r2 rv
              have hf : H' a = some (.frz od u) := ex.keep.frd a od u upd_same
              refine ⟨hf, ?_⟩
              have neT : ∀ b xs, H' b = some (.tup xs) → b ≠ a := fun b xs z y => by rw [y, hf] at z; cases z
              have e1 : Ext ι H ι' (upd H' a u) := by
                refine ⟨ex.pre, fun b xs z => ?_, fun b ob w' z => ?_⟩
                · have hb : b ≠ a := fun y => by rw [y, h2] at z; exact nt xs (Option.some.inj z)
                  rw [upd_ne hb]
                  exact ex.keep.tup b xs (by rw [upd_ne hb]; exact z)
                · have hb : b ≠ a := fun y => by rw [y, h2] at z; exact nf _ _ (Option.some.inj z)
                  rw [upd_ne hb]
                  exact ex.keep.frd b ob w' (by rw [upd_ne hb]; exact z)
              have e2 : Ext0 ι' H' ι' (upd H' a u) := by
                refine ⟨List.prefix_rfl, fun b xs z => ?_, fun b ob xs z => ?_⟩
                · rw [upd_ne (neT b xs z)]
                  exact z
                · have hb : b ≠ a := fun y => by
                    rw [y, hf] at z
                    cases z
                    exact nl _ rfl
                  rw [upd_ne hb]
                  exact z
              have ha' := pre_get ex.pre h1
              refine o1 ι' _ w e1 ?_ (rv.mono0 e2)
              have hn2 : n < S2.length := (List.getElem?_eq_some_iff.mp hl).1
              refine ⟨by rw [List.length_set]; exact r2.len, r2.nd, fun k ok ek => ?_, tabs_set r2.tabs hf ⟨(fun _ z => by cases z), (fun _ z => by cases z)⟩⟩
              by_cases hk : k = n
              · subst hk
                rw [List.getElem?_set_self hn2] at ek
                cases ek
                exact ⟨a, u, ha', upd_same, h3.mono0 e1.to0⟩
              · rw [List.getElem?_set_ne (Ne.symm hk)] at ek
                obtain ⟨b, v', q1, q2, q3⟩ := r2.at_ k ok ek
                exact ⟨b, v', q1, by rw [upd_ne (nd_ne r2.nd q1 ha' hk)]; exact q2, q3.mono0 e2⟩
            · rw [if_neg hl] at o1
              exact o1.elim
        · rw [if_neg hd] at o1
          exact o1.elim
    | _ => exact out.elim
/-! ### the keys, the pairs of a locked dict -/
def keyL (ks : List Key) : VV := .tup (ks.map vK)
def kSrc (S : Sto) : VV → Option Src
  | .ref n => match S[n]? with
    | some (.lk (.dK kvs)) => some ⟨kvs.map fun p => vK p.1, fun S => S[n]? = some (.lk (.dK kvs))⟩
    | some (.lk (.dT kvs)) => some ⟨kvs.map fun p => keyL p.1, fun S => S[n]? = some (.lk (.dT kvs))⟩
    | _ => none
  | _ => none
def iSrc (S : Sto) : VV → Option Src
  | .ref n => match S[n]? with
    | some (.lk (.dK kvs)) => some ⟨kvs.map fun p => .tup [vK p.1, p.2], fun S => S[n]? = some (.lk (.dK kvs))⟩
    | _ => none
  | _ => none
def mKeysI (a : EM) : IM := fun σ S => (a σ S).bind fun x S1 => optI (kSrc S1 x) S1
def mItemsI (a : EM) : IM := fun σ S => (a σ S).bind fun x S1 => optI (iSrc S1 x) S1
theorem rkv_get {κ : Type} {ι : List Addr} {H : Hp} : ∀ {kvs : List (κ × VV)} {ws : List (κ × V)} {i : Nat} {p : κ × VV}, RKv L ι H kvs ws → kvs[i]? = some p → ∃ v, ws[i]? = some (p.1, v) ∧ RV L ι H p.2 v
  | _, _, _, _, .nil, e => by simp at e
  | q :: _, (w1, w2) :: _, 0, p, .cons h r, e => by
    simp at e
    subst e
    exact ⟨w2, by rw [List.getElem?_cons_zero, h.1], h.2⟩
  | _ :: _, _ :: _, i + 1, p, .cons h r, e => by
    rw [List.getElem?_cons_succ] at e ⊢
    exact rkv_get r e
theorem rkv_len {κ : Type} {ι : List Addr} {H : Hp} {kvs : List (κ × VV)} {ws : List (κ × V)} (r : RKv L ι H kvs ws) : kvs.length = ws.length := Paired.length r
theorem lk_at {ι ι0 : List Addr} {H H0 : Hp} {S S0 : Sto} {n : Nat} {a : Addr} {o : OO} (r0 : Rep L ι0 S0 H0) (ha : ι0[n]? = some a) (e0 : S0[n]? = some (.lk o)) : ∃ od u, H0 a = some (.frz od u) ∧ RO L ι0 H0 o u := by
  obtain ⟨b, u, h1, h2, h3⟩ := r0.at_ n _ e0
  rw [ha] at h1
  cases h1
  obtain ⟨ob, w, rfl, h4⟩ := h3
  exact ⟨ob, w, h2, h4⟩
theorem walk_keysK {kvs : List (Key × VV)} {ws : List (Key × V)} {ok : Sto → Prop} {ι0 : List Addr} {H0 : Hp} {a : Addr} {od : Obj} (ha : H0 a = some (.frz od (.dK ws))) (hr : RKv L ι0 H0 kvs ws) : Walk L ⟨kvs.map fun p => vK p.1, ok⟩ ι0 H0 (Itk a od ws) := by
  intro ι H S ex rp _ i
  have h1 := ex.keep.frd _ _ _ ha
  have h3 := hr.mono ex
  refine ⟨fun x hx => ?_, fun hi => ⟨h1, by rw [← rkv_len h3]; simpa using Nat.le_of_eq hi⟩⟩
  have hx : (kvs.map fun p => vK p.1)[i]? = some x := hx
  rw [List.getElem?_map] at hx
  obtain ⟨p, hp, rfl⟩ := Option.map_eq_some_iff.mp hx
  obtain ⟨v, hv, rv⟩ := rkv_get h3 hp
  refine ⟨⟨h1, (List.getElem?_eq_some_iff.mp hv).1⟩, fun v' H' ⟨e, k, w, q1, q2⟩ => ?_⟩
  subst e
  rw [hv] at q1
  cases q1
  subst q2
  exact ⟨Ext.refl _ _, rp, vK_rel _⟩
theorem walk_keysT {kvs : List (List Key × VV)} {ws : List (List Key × V)} {ok : Sto → Prop} {ι0 : List Addr} {H0 : Hp} {a : Addr} {od : Obj} (ha : H0 a = some (.frz od (.dT ws))) (hr : RKv L ι0 H0 kvs ws) : Walk L ⟨kvs.map fun p => keyL p.1, ok⟩ ι0 H0 (Itkt a od ws) := by
  intro ι H S ex rp _ i
  have h1 := ex.keep.frd _ _ _ ha
  have h3 := hr.mono ex
  refine ⟨fun x hx => ?_, fun hi => ⟨h1, by rw [← rkv_len h3]; simpa using Nat.le_of_eq hi⟩⟩
  have hx : (kvs.map fun p => keyL p.1)[i]? = some x := hx
  rw [List.getElem?_map] at hx
  obtain ⟨p, hp, rfl⟩ := Option.map_eq_some_iff.mp hx
  obtain ⟨v, hv, rv⟩ := rkv_get h3 hp
  refine ⟨⟨h1, (List.getElem?_eq_some_iff.mp hv).1⟩, fun v' H' ⟨e, k, w, q, q1, q2, q3⟩ => ?_⟩
  subst e
  rw [hv] at q1
  cases q1
  subst q2
  exact ⟨Ext.refl _ _, rp, .tup q3 (vKs_rel _)⟩
theorem walk_itemsK {kvs : List (Key × VV)} {ws : List (Key × V)} {ok : Sto → Prop} {ι0 : List Addr} {H0 : Hp} {a : Addr} {od : Obj} (ha : H0 a = some (.frz od (.dK ws))) (hr : RKv L ι0 H0 kvs ws) : Walk L ⟨kvs.map fun p => .tup [vK p.1, p.2], ok⟩ ι0 H0 (Iti a od ws) := by
  intro ι H S ex rp _ i
  have h1 := ex.keep.frd _ _ _ ha
  have h3 := hr.mono ex
  refine ⟨fun x hx => ?_, fun hi => ⟨h1, by rw [← rkv_len h3]; simpa using Nat.le_of_eq hi⟩⟩
  have hx : (kvs.map fun p => VV.tup [vK p.1, p.2])[i]? = some x := hx
  rw [List.getElem?_map] at hx
  obtain ⟨p, hp, rfl⟩ := Option.map_eq_some_iff.mp hx
  obtain ⟨v, hv, rv⟩ := rkv_get h3 hp
  refine ⟨⟨h1, (List.getElem?_eq_some_iff.mp hv).1⟩, fun v' H' ⟨T, k, w, q1, q2, q3, q4⟩ => ?_⟩
  rw [hv] at q1
  cases q1
  subst q2 q4
  exact rv_pair rp q3 (vK_rel _) rv
theorem mi_keys {tg e : Expr} {a : EM} (h : ME X L W e a) : MI X L W tg e (mKeysI a) := PI.wk (pi_keys (tg := tg) h) fun τ H R ⟨ι, S, σ, rp, rs, o⟩ => by
  unfold mKeysI at o
  cases e1 : a σ S with
  | exc n S1 => refine bindE rp rs ?_; rw [e1] at o ⊢; exact o
  | fail => rw [e1] at o; exact o.elim
  | ok x S1 =>
    rw [e1] at o
    dsimp only [Res.bind] at o
    refine bindE rp rs ?_
    rw [e1]
    intro ι1 H1 v ex r1 s1 rv
    cases e2 : kSrc S1 x with
    | none => rw [e2] at o; exact o.elim
    | some src =>
      rw [e2] at o
      have o : ∀ ι' H' J, Ext ι H ι' H' → Rep L ι' S1 H' → Walk L src ι' H' J → R J H' := o
      cases x with
      | ref n =>
        cases rv with
        | @ref _ b hb =>
          unfold kSrc at e2
          dsimp only at e2
          split at e2
          · rename_i kvs q
            cases e2
            obtain ⟨od, u, h1, ws, rfl, h2⟩ := lk_at (S := S1) (ι := ι1) (H := H1) r1 hb q
            exact ⟨b, od, rfl, .inl ⟨ws, h1, o ι1 H1 _ ex r1 (walk_keysK h1 h2)⟩⟩
          · rename_i kvs q
            cases e2
            obtain ⟨od, u, h1, ws, rfl, h2⟩ := lk_at (S := S1) (ι := ι1) (H := H1) r1 hb q
            exact ⟨b, od, rfl, .inr ⟨ws, h1, o ι1 H1 _ ex r1 (walk_keysT h1 h2)⟩⟩
          · cases e2
      | _ => cases e2
theorem mi_items {elts : List Expr} {kk : Nat} {tpos apos cpos : Pos} {e : Expr} {a : EM} (h : ME X L W e a) (hbase : attributeBase e "items" X.env (eval e X.env) = eval e X.env := by rfl) (hline : (apos.endLine == cpos.line) = true := by rfl) :
    MI X L W (.Tuple elts kk tpos) (.Call (.Attribute e "items" apos) [] [] cpos) (mItemsI a) := PI.wk (pi_items h hbase hline) fun τ H R ⟨ι, S, σ, rp, rs, o⟩ => by
  unfold mItemsI at o
  cases e1 : a σ S with
  | exc n S1 => refine bindE rp rs ?_; rw [e1] at o ⊢; exact o
  | fail => rw [e1] at o; exact o.elim
  | ok x S1 =>
    rw [e1] at o
    dsimp only [Res.bind] at o
    refine bindE rp rs ?_
    rw [e1]
    intro ι1 H1 v ex r1 s1 rv
    cases e2 : iSrc S1 x with
    | none => rw [e2] at o; exact o.elim
    | some src =>
      rw [e2] at o
      have o : ∀ ι' H' J, Ext ι H ι' H' → Rep L ι' S1 H' → Walk L src ι' H' J → R J H' := o
      cases x with
      | ref n =>
        cases rv with
        | @ref _ b hb =>
          unfold iSrc at e2
          dsimp only at e2
          split at e2
          · rename_i kvs q
            cases e2
            obtain ⟨od, u, h1, ws, rfl, h2⟩ := lk_at (S := S1) (ι := ι1) (H := H1) r1 hb q
            exact ⟨b, od, ws, rfl, h1, o ι1 H1 _ ex r1 (walk_itemsK h1 h2)⟩
          · cases e2
      | _ => cases e2
/-! ### d.get(k), d.get(k, x) -/
def gGet1 (x y : VV) (S : Sto) : Res VV := match x with
  | .ref n => optR ((dGet S n y).map fun o => o.getD .non) S
  | _ => .fail
def gGet2 (x y z : VV) (S : Sto) : Res VV := match x with
  | .ref n => optR ((dGet S n y).map fun o => o.getD z) S
  | _ => .fail
def mDGet (o k : EM) : EM := fun σ S => (o σ S).bind fun x S1 => if isD S1 x = true then (k σ S1).bind fun y S2 => gGet1 x y S2 else .fail
def mDGetD (o k f : EM) : EM := fun σ S => (o σ S).bind fun x S1 => if isD S1 x = true then (k σ S1).bind fun y S2 => (f σ S2).bind fun z S3 => gGet2 x y z S3 else .fail
theorem me_dget {o k : Expr} {apos cpos : Pos} {mo mk : EM} (hu : X.A.units + 1 < cLine) (m : M1 X o "get" apos k cpos) (ho : ME X L W o mo) (hk : ME X L W k mk) : ME X L W (.Call (.Attribute o "get" apos) [k] [] cpos) (mDGet mo mk) := PE.wk (pe_dget1 hu ho hk m) fun τ H Q ⟨ι, S, σ, rp, rs, out⟩ =>
  stepE (k := fun x S1 => if isD S1 x = true then (mk σ S1).bind fun y S2 => gGet1 x y S2 else .fail) rp rs out fun x S1 ι1 H1 v ex r1 s1 rv o1 => by
    by_cases c : isD S1 x = true
    · rw [if_pos c] at o1
      obtain ⟨n, a, ob, rfl, rfl, e1, e2, ha⟩ := isD_ok r1 rv c
      refine ⟨a, rfl, isD_is r1 e1 ha e2, stepE r1 s1 o1 fun y S2 ι2 H2 w ex2 r2 s2 rw' o2 => ?_⟩
      obtain ⟨z, e3, o3⟩ := optR_out (show OutE L ι2 H2 (optR ((dGet S2 n y).map fun o => o.getD .non) S2) Q _ from o2)
      obtain ⟨r, e4, rfl⟩ := Option.map_eq_some_iff.mp e3
      obtain ⟨a', r', e5, h2, h3⟩ := dGet_ok r2 (.ref (pre_get ex2.pre ha)) rw' e4
      cases e5
      refine ⟨r', h2, o3 ι2 H2 _ (Ext.refl _ _) r2 ?_⟩
      cases r with
      | none => cases r' with
        | none => exact .non
        | some _ => exact h3.elim
      | some _ => cases r' with
        | none => exact h3.elim
        | some _ => exact h3
    · rw [if_neg c] at o1
      exact o1.elim
theorem me_dgetD {o k f : Expr} {apos cpos : Pos} {mo mk mf : EM} (hu : X.A.units + 1 < cLine) (m : M2 X o "get" apos k f cpos) (ho : ME X L W o mo) (hk : ME X L W k mk) (hf : ME X L W f mf) : ME X L W (.Call (.Attribute o "get" apos) [k, f] [] cpos) (mDGetD mo mk mf) := PE.wk (pe_dget2 hu ho hk hf m) fun τ H Q ⟨ι, S, σ, rp, rs, out⟩ =>
  stepE (k := fun x S1 => if isD S1 x = true then (mk σ S1).bind fun y S2 => (mf σ S2).bind fun z S3 => gGet2 x y z S3 else .fail) rp rs out fun x S1 ι1 H1 v ex r1 s1 rv o1 => by
    by_cases c : isD S1 x = true
    · rw [if_pos c] at o1
      obtain ⟨n, a, ob, rfl, rfl, e1, e2, ha⟩ := isD_ok r1 rv c
      refine ⟨a, rfl, isD_is r1 e1 ha e2, stepE (k := fun y S2 => (mf σ S2).bind fun z S3 => gGet2 (.ref n) y z S3) r1 s1 o1 fun y S2 ι2 H2 w ex2 r2 s2 rw' o2 => stepE (k := fun z S3 => gGet2 (.ref n) y z S3) r2 s2 o2 fun z S3 ι3 H3 u ex3 r3 s3 rz o3 => ?_⟩
      obtain ⟨t, e3, o4⟩ := optR_out (show OutE L ι3 H3 (optR ((dGet S3 n y).map fun o => o.getD z) S3) Q _ from o3)
      obtain ⟨r, e4, rfl⟩ := Option.map_eq_some_iff.mp e3
      obtain ⟨a', r', e5, h2, h3⟩ := dGet_ok r3 (.ref (pre_get ex3.pre (pre_get ex2.pre ha))) (rw'.mono ex3) e4
      cases e5
      refine ⟨r', h2, o4 ι3 H3 _ (Ext.refl _ _) r3 ?_⟩
      cases r with
      | none => cases r' with
        | none => exact rz
        | some _ => exact h3.elim
      | some _ => cases r' with
        | none => exact h3.elim
        | some _ => exact h3
    · rw [if_neg c] at o1
      exact o1.elim
end
end Sx
end
/-! Sx29: len and repr by an own method; texts of numbers, f-strings. -/
noncomputable section
namespace Sx
open PySem PySem.Spec
open PyProof.Rows L2
section
variable {prog : Program} {w : World} {A : Around} {E : Value → Shared → Prop} {s : Shared} {K : PySem.W.Frag} {x C f : Addr} {ox : Obj} {od : Option Obj}
/-- len(x) by an own __len__ -/
theorem len_own {Q : Value → Shared → Prop} (X : K.In s.heap) (I : PySem.W.InstAt s.heap x ox C od) (hs : PySem.W.findIn K (.ref C) "__len__" = some (some (.ref f))) (hf : PySem.W.isFn K (.ref f) = true)
    (h : wpAny (model prog w) A.in1 (call (.ref f) [.ref x]) (fun r s₁ => ∃ n u, r = Value.int n u ∧ 0 ≤ n ∧ n < 2 ^ 63 ∧ ∀ t, Q (.int n t) { s₁ with toks := s₁.toks + 1 }) E s) : wpAny (model prog w) A (call (.builtin "len") [.ref x]) Q E s := by
  refine Calls.call_function_entry kind_len plain_len entry_len (args_len1 _) ?_
  unfold Builtin.«len»
  refine wpAny_bind (wpAny_of_eq (a := .ref x) (by first | rfl | (unfold oneArg; rfl)) ?_)
  refine wpAny_bind (m := callSpecial? (.ref x) (Str.ofString "__len__")) (PySem.W.special_fn X I hs (beq_iff_eq.mp hf) (wpAny_mono h (fun r s1 hr => ?_) fun _ _ y => y))
  obtain ⟨n, u, rfl, h0, h1, q⟩ := hr
  refine wpAny_bind (wpAny_holding (wpAny_pure ?_))
  refine wpAny_bind (wpAny_letGo ?_)
  show wpAny _ _ (if n < 0 then _ else _) _ _ _
  rw [if_neg (by omega)]
  show wpAny _ _ (if n ≥ 2 ^ 63 then _ else _) _ _ _
  rw [if_neg (by omega)]
  exact wpAny_bind (wpAny_mkInt (wpAny_pure ⟨_, rfl, q _⟩))
theorem kind_repr : builtinKind "repr" = none := by decide +kernel
theorem plain_repr : plainId "repr" = true := by decide +kernel
theorem entry_repr : entryFor table "repr" = some Builtin.«repr» := entryFor_of_fast (by kernel_rfl)
theorem args_repr1 (a : Value) : argsOk "repr" ⟨[a], []⟩ := by unfold argsOk; kernel_rfl
/-- repr(x) by an own __repr__ -/
theorem repr_own {Q : Value → Shared → Prop} (X : K.In s.heap) (I : PySem.W.InstAt s.heap x ox C od) (hs : PySem.W.findIn K (.ref C) "__repr__" = some (some (.ref f))) (hf : PySem.W.isFn K (.ref f) = true) (hu : A.in1.units < cLine)
    (h : wpAny (model prog w) A.in1 (call (.ref f) [.ref x]) (fun r s₁ => ∃ z u, r = Value.str z u ∧ Q r s₁) E s) : wpAny (model prog w) A (call (.builtin "repr") [.ref x]) Q E s := by
  refine Calls.call_function_entry kind_repr plain_repr entry_repr (args_repr1 _) ?_
  unfold Builtin.«repr»
  refine wpAny_bind (m := oneArg "repr" _) (wpAny_pure ?_)
  refine wpAny_bind (wpAny_cRoomFor hu ?_)
  have sp : ∀ {Q' : Option Value → Shared → Prop}, Q' (some (.ref f)) s → wpAny (model prog w) A.in1 (specialOf (.ref x) (Str.ofString "__repr__")) Q' E s := fun q => wpAny_bind (I.type.here ((PySem.W.looks_findIn X hs).here q))
  refine wpAny_bind (sp ?_)
  rw [if_neg (by simp)]
  have bnd : ∀ {Q' : Option (Value × List Value) → Shared → Prop}, Q' (some (.ref f, [.ref x])) s → wpAny (model prog w) A.in1 (bindSpecialIfBound? (.ref x) (Str.ofString "__repr__")) Q' E s := fun {Q'} q => by
    unfold bindSpecialIfBound?
    refine wpAny_bind (sp ?_)
    dsimp only
    have b1 : ∀ {E2 : Value → Shared → Prop} {Q2 : Value × List Value → Shared → Prop}, Q2 (.ref f, [.ref x]) s → wpAny (model prog w) A.in1 (bindSpecial (.ref f) (.ref x)) Q2 E2 s := fun q2 => (PySem.W.bind_fn X _ (beq_iff_eq.mp hf)).here q2
    refine wpAny_bind (wpAny_askSetting ?_)
    dsimp only
    split
    · exact wpAny_bind (b1 (wpAny_pure q))
    · exact wpAny_tryCatch (wpAny_bind (b1 (wpAny_pure q)))
  refine wpAny_bind (m := callSpecialIfBound? (.ref x) (Str.ofString "__repr__")) ?_
  unfold callSpecialIfBound?
  refine wpAny_holding (wpAny_bind (bnd ?_))
  refine wpAny_bind (wpAny_mono h (fun r s' ⟨z, u, e, q⟩ => ?_) fun _ _ y => y)
  subst e
  refine wpAny_pure ?_
  dsimp only
  refine wpAny_bind (wpAny_isInstance (T := "str") (b := true) rfl isSubtype_str_str ?_)
  exact wpAny_pure ⟨_, rfl, q⟩
end
/-! ### the mirrors -/
def lenEnd : Res VV → Res VV
  | .ok (.int i) S => if 0 ≤ i ∧ i ≤ 1000000 then .ok (.int i) S else .fail
  | _ => .fail
def strEnd : Res VV → Res VV
  | .ok (.str z) S => .ok (.str z) S
  | _ => .fail
def ownCall (c : Nat) (mir : FM) (x : VV) (S : Sto) : Res VV := match insAt S x with
  | some p => if p.1 = c then mir [x] S else .fail
  | none => .fail
def gLenOwn (c : Nat) (mir : FM) (x : VV) (S : Sto) : Res VV := lenEnd (ownCall c mir x S)
def gReprOwn (c : Nat) (mir : FM) (x : VV) (S : Sto) : Res VV := strEnd (ownCall c mir x S)
section
variable {X : Cx} {L : Lay} {W : WX}
theorem nxLenEnd (r : Res VV) : NoX (lenEnd r) := fun n S e => by
  unfold lenEnd at e
  split at e
  · split at e <;> cases e
  · cases e
theorem nxStrEnd (r : Res VV) : NoX (strEnd r) := fun n S e => by
  unfold strEnd at e
  split at e <;> cases e
theorem nxLenOwn {c : Nat} {mir : FM} : ∀ x S, NoX (gLenOwn c mir x S) := fun _ _ => nxLenEnd _
theorem nxReprOwn {c : Nat} {mir : FM} : ∀ x S, NoX (gReprOwn c mir x S) := fun _ _ => nxStrEnd _
/-- a call of an own method by a built-in -/
theorem own_run {c k : Nat} {m : Str} {ps : List Str} {mir : FM} {end_ : Res VV → Res VV} {pins : List (Addr × Obj)} {τ : L2.St} {s : Shared} {ι : List Addr} {S : Sto} {H : Hp} {x : VV} {v : V} {Q : VK} (D : Md X.prog X.w X.K X.mg X.base L c m k ps [] mir) (hr : Room (k + 1) X.A) (I : Inv X pins τ H s) (rp : Rep L ι S H) (rv : RV L ι H x v)
    (he : ∀ n S', end_ (.exc n S') = .fail) (hf : end_ .fail = .fail) (o : OutE L ι H (end_ (ownCall c mir x S)) Q (fun _ _ _ => False)) :
    ∃ (a C f : Addr) (ox : Obj) (od : Option Obj), v = .ref a ∧ PySem.W.InstAt s.heap a ox C od ∧ PySem.W.findIn X.K (.ref C) m = some (some (.ref f)) ∧ PySem.W.isFn X.K (.ref f) = true ∧
      wpAny (model X.prog X.w) X.A.in1 (call (.ref f) [.ref a]) (EP X pins τ fun w H' => ∃ ι' S' y, Rep L ι' S' H' ∧ RV L ι' H' y w ∧ Ext ι H ι' H' ∧ OutE L ι H (end_ (.ok y S')) Q (fun _ _ _ => False)) X.xe s := by
  unfold ownCall at o
  cases e1 : insAt S x with
  | none => rw [e1] at o; dsimp only at o; rw [hf] at o; exact o.elim
  | some p =>
    rw [e1] at o
    dsimp only at o
    by_cases hc : p.1 = c
    · rw [if_pos hc] at o
      obtain ⟨n, a, dx, vs, rfl, rfl, hn, hS, hH, hrv, hle⟩ := insAt_ok rp rv e1
      subst hc
      obtain ⟨f, fd, dV, dvs, F, b, hd, cs, hm, hcl⟩ := D.ex
      obtain ⟨mA, O, _, _, _, _⟩ := ins_get I.hok hH
      obtain ⟨od, J, _⟩ := O.look
      refine ⟨a, _, f, _, _, rfl, J, hm.at_, hm.fn, ?_⟩
      have dn := cs ι H
      have e0 : dvs = [] := by
        generalize hD : ([] : List VV) = D0 at dn
        cases dn with
        | nil => rfl
        | cons _ _ => cases hD
      subst e0
      cases hd
      have sp : spM L mir [.ref a] H (fun w H' => ∃ ι' S' y, Rep L ι' S' H' ∧ RV L ι' H' y w ∧ Ext ι H ι' H' ∧ OutE L ι H (end_ (.ok y S')) Q (fun _ _ _ => False)) (fun _ _ _ => False) := by
        refine ⟨ι, S, [.ref n], rp, .cons rv .nil, ?_⟩
        cases em : mir [.ref n] S with
        | ok y S' =>
          rw [em] at o
          exact fun ι' H' w ex r' rv' => ⟨ι', S', y, r', rv', ex, o⟩
        | exc n' S' => rw [em, he] at o; exact o.elim
        | fail => rw [em, hf] at o; exact o.elim
      have r2 : Vals [V.ref a] [Value.ref a] := .cons rfl .nil
      have hl : ([Value.ref a] ++ []).length = ps.length := F.len _ _ _ _ sp
      refine wpAny_call (codeAny_mono (F.run X.A.in1 X.stack s H ⟨[.ref a], []⟩ [.ref a] [.ref a] _ (fun _ _ _ => False) hr.in1 I.env0.in1 (b s [.ref a] I.kIn hl) r2 sp) fun r s' hq => ?_)
      cases r with
      | error e =>
        obtain ⟨_, _, _, _, _, _, _, _, _, _, _, _, z⟩ := hq
        exact z.elim
      | ok fl =>
        cases fl with
        | ret u => exact I.after hq
        | next => exact False.elim hq
        | brk => exact False.elim hq
        | cont => exact False.elim hq
    · rw [if_neg hc] at o
      rw [hf] at o
      exact o.elim
theorem cm_lenOwn {c k : Nat} {ps : List Str} {mir : FM} (D : Md X.prog X.w X.K X.mg X.base L c "__len__" k ps [] mir) (hr : Room (k + 1) X.A) : CallR X (.builtin "len") (rdC L (g1 (gLenOwn c mir))) := cr1 fun pins s τ H v us Q ι S x I r rp rv o => by
  obtain ⟨a, C, f, ox, od, rfl, J, h1, h2, h3⟩ := own_run (end_ := lenEnd) D hr I rp rv (fun _ _ => rfl) rfl o
  obtain ⟨u, rfl, ru⟩ := vals1 r
  cases ru
  refine len_own I.kIn J h1 h2 (wpAny_mono h3 (fun w s1 ⟨y, H1, I1, ry, ι1, S1, z, r1, rz, ex, o1⟩ => ?_) fun _ _ z => z)
  unfold lenEnd at o1
  cases z with
  | int i =>
    dsimp only at o1
    by_cases hi : 0 ≤ i ∧ i ≤ 1000000
    · rw [if_pos hi] at o1
      cases rz
      obtain ⟨t, rfl⟩ := (show ∃ t, w = Value.int i t from ry)
      exact ⟨i, t, rfl, hi.1, by omega, fun t2 => ⟨.int i, H1, I1.tok _, ⟨t2, rfl⟩, o1 ι1 H1 _ ex r1 (.int i)⟩⟩
    · rw [if_neg hi] at o1
      exact o1.elim
  | _ => exact o1.elim
theorem cm_reprOwn {c k : Nat} {ps : List Str} {mir : FM} (D : Md X.prog X.w X.K X.mg X.base L c "__repr__" k ps [] mir) (hr : Room (k + 1) X.A) (hu : X.A.in1.units < cLine) : CallR X (.builtin "repr") (rdC L (g1 (gReprOwn c mir))) := cr1 fun pins s τ H v us Q ι S x I r rp rv o => by
  obtain ⟨a, C, f, ox, od, rfl, J, h1, h2, h3⟩ := own_run (end_ := strEnd) D hr I rp rv (fun _ _ => rfl) rfl o
  obtain ⟨u, rfl, ru⟩ := vals1 r
  cases ru
  refine repr_own I.kIn J h1 h2 hu (wpAny_mono h3 (fun w s1 ⟨y, H1, I1, ry, ι1, S1, z, r1, rz, ex, o1⟩ => ?_) fun _ _ z => z)
  unfold strEnd at o1
  cases z with
  | str z =>
    cases rz
    obtain ⟨t, rfl⟩ := (show ∃ t, w = Value.str z t from ry)
    exact ⟨z, t, rfl, .str z, H1, I1, ⟨t, rfl⟩, o1 ι1 H1 _ ex r1 (.str z)⟩
  | _ => exact o1.elim
/-- str(n) -/
def gStr (x : VV) (S : Sto) : Res VV := match x with
  | .int i => if i.natAbs.log2 < 1920 then .ok (.str (toString i)) S else .fail
  | _ => .fail
theorem nxStr : ∀ x S, NoX (gStr x S) := fun x S n S' e => by
  unfold gStr at e
  split at e
  · split at e <;> cases e
  · cases e
theorem cm_str : CallR X (.type "str") (rdC L (g1 gStr)) := cr1 fun pins s τ H v us Q ι S x I r rp rv o => by
  unfold gStr at o
  cases x with
  | int i =>
    dsimp only at o
    by_cases c : i.natAbs.log2 < 1920
    · rw [if_pos c] at o
      cases rv
      exact call_str_int pins s τ H _ us Q I r ⟨i, rfl, c, o ι H _ (Ext.refl _ _) rp (.str _)⟩
    · rw [if_neg c] at o
      exact o.elim
  | _ => exact o.elim
/-- int(True), int(3) -/
def gInt1 (x : VV) (S : Sto) : Res VV := match x with
  | .int i => .ok (.int i) S
  | .bl b => .ok (.int (if b then 1 else 0)) S
  | _ => .fail
theorem nxInt1 : ∀ x S, NoX (gInt1 x S) := fun x S n S' e => by
  unfold gInt1 at e
  split at e <;> cases e
theorem cm_int : CallR X (.type "int") (rdC L (g1 gInt1)) := cr1 fun pins s τ H v us Q ι S x I r rp rv o => by
  unfold gInt1 at o
  cases x with
  | int i =>
    cases rv
    exact call_int1 pins s τ H _ us Q I r (.inl ⟨i, rfl, o ι H _ (Ext.refl _ _) rp (.int _)⟩)
  | bl b =>
    cases rv
    exact call_int1 pins s τ H _ us Q I r (.inr ⟨b, rfl, o ι H _ (Ext.refl _ _) rp (.int _)⟩)
  | _ => exact o.elim
end
end Sx
end
/-! Sx30: list comprehensions with two for's; f-strings; displays of dicts; startswith. -/
noncomputable section
namespace Sx
open PySem PySem.Spec
open PyProof.Rows L2
open Classical in
def lcI (ok : Sto → Prop) (g : GM) (t : TM) (e : EM) (σ : Sg) (D : Nat) (k : Sto → Res VV) : List VV → Sto → Res VV
  | [], S => if ok S then k S else .fail
  | x :: r, S => if ok S then (g x σ S).go fun σ2 S2 => (t σ2 S2).bindF fun c S3 => if c = true then (e σ2 S3).bindF fun y S4 => optK (appS S4 D y) fun S5 => lcI ok g t e σ D k r S5 else lcI ok g t e σ D k r S3 else .fail
def Res.bindI (r : Res Src) (k : Src → Sto → Res VV) : Res VV := match r with
  | .ok a S => k a S
  | _ => .fail
open Classical in
def lcO (ok : Sto → Prop) (g : GM) (t : TM) (m1 : IM) (g1 : GM) (t1 : TM) (e : EM) (σ : Sg) (vs1 : List Nat) (D : Nat) : List VV → Sto → Res VV
  | [], S => if ok S then .ok (.ref D) S else .fail
  | x :: r, S => if ok S then (g x σ S).go fun σ2 S2 => (t σ2 S2).bindF fun c S3 => if c = true then (m1 σ2 S3).bindI fun src1 S4 => lcI src1.ok g1 t1 e (wipeM σ2 vs1) D (fun S5 => lcO ok g t m1 g1 t1 e σ vs1 D r S5) src1.items S4 else lcO ok g t m1 g1 t1 e σ vs1 D r S3 else .fail
def mLc2 (m : IM) (g : GM) (t : TM) (m1 : IM) (g1 : GM) (t1 : TM) (e : EM) (own vs1 : List Nat) : EM := fun σ S => (m σ S).bind fun src S1 => lcO src.ok g t m1 g1 t1 e (wipeM σ own) vs1 S1.length src.items (S1 ++ [.lst []])
section
variable {X : Cx} {L : Lay} {W : WX}
theorem rdLc2 {m m1 : IM} {g g1 : GM} {t t1 : TM} {e : EM} {own vs1 : List Nat} : ∀ τ H Q, rdE L W (mLc2 m g t m1 g1 t1 e own vs1) τ H Q → tLc2 (rdI L W m) (rdGw L own g) (rdT L WF t) (rdI L WF m1) (rdGw L vs1 g1) (rdT L WF t1) (rdE L WF e) own vs1 τ H Q := fun τ H Q ⟨ι, S, σ, rp, rs, o⟩ => by
  refine ⟨ι, S, σ, rp, rs, ?_⟩
  unfold mLc2 at o
  cases e1 : m σ S with
  | fail => rw [e1] at o; exact o.elim
  | exc n S1 => rw [e1] at o; exact o
  | ok src S1 =>
    rw [e1] at o
    dsimp only [Res.bind] at o ⊢
    intro ι0 H0 J ex0 r0 wk D hD
    have exD : Ext ι0 H0 (ι0 ++ [D]) (upd H0 D (.lst [])) := Rep.newExt hD
    have rD : Rep L (ι0 ++ [D]) (S1 ++ [.lst []]) (upd H0 D (.lst [])) := r0.new hD ⟨[], rfl, .nil⟩
    have hDi : (ι0 ++ [D])[S1.length]? = some D := by
      rw [List.getElem?_append_right (by rw [r0.len]; omega), r0.len]
      simp
    have rs0 := (rs.mono ex0).wipe own
    refine ⟨fun i k H => ∃ ι S, Ext (ι0 ++ [D]) (upd H0 D (.lst [])) ι H ∧ Rep L ι S H ∧ i ≤ src.items.length ∧ k = src.items.length - i ∧ OutE L ι H (lcO src.ok g t m1 g1 t1 e (wipeM σ own) vs1 S1.length (src.items.drop i) S) Q (fun c d H' => W c d τ H'),
      ⟨src.items.length, ι0 ++ [D], _, Ext.refl _ _, rD, Nat.zero_le _, rfl, OutE.mono (ex0.trans exD) o⟩, ?_⟩
    rintro i k H1 ⟨ι1, S2, ex1, r1, hle, rfl, o1⟩
    have ex01 := exD.trans ex1
    have hD1 : ι1[S1.length]? = some D := pre_get ex1.pre hDi
    cases hd : src.items.drop i with
    | nil =>
      rw [hd] at o1
      unfold lcO at o1
      have hl : src.items.length = i := Nat.le_antisymm (List.drop_eq_nil_iff.mp hd) hle
      by_cases ok : src.ok S2
      · rw [if_pos ok] at o1
        exact .inl ⟨(wk ι1 H1 S2 ex01 r1 ok i).2 hl, o1 ι1 H1 _ (Ext.refl _ _) r1 (.ref hD1)⟩
      · rw [if_neg ok] at o1; exact o1.elim
    | cons x rest =>
      rw [hd] at o1
      unfold lcO at o1
      by_cases ok : src.ok S2
      · rw [if_pos ok] at o1
        have hx : src.items[i]? = some x := by rw [← List.head?_drop, hd]; rfl
        have hlt : i < src.items.length := (List.getElem?_eq_some_iff.mp hx).1
        have hr : src.items.drop (i + 1) = rest := by rw [← List.tail_drop, hd]; rfl
        obtain ⟨hgo, hyl⟩ := (wk ι1 H1 S2 ex01 r1 ok i).1 x hx
        refine .inr ⟨hgo, fun H => ∃ ι S, Ext (ι0 ++ [D]) (upd H0 D (.lst [])) ι H ∧ Rep L ι S H ∧ OutE L ι H (lcO src.ok g t m1 g1 t1 e (wipeM σ own) vs1 S1.length rest S) Q (fun c d H' => W c d τ H'),
          fun H' ⟨ι', S', a1, a2, a4⟩ => ⟨src.items.length - (i + 1), by omega, ι', S', a1, a2, hlt, rfl, by rw [hr]; exact a4⟩, fun v H' hy => ?_⟩
        obtain ⟨ex2, r2, rv2⟩ := hyl v H' hy
        refine ⟨ι1, S2, wipeM σ own, x, r2, (rs0.mono ex01).mono ex2, rv2, ?_⟩
        cases e2 : g x (wipeM σ own) S2 with
        | nx σ3 S3 =>
          rw [e2] at o1
          intro ι3 H3 τ3 ex3 r3 s3 hw
          refine ⟨hw.trans wipe_wipe, ι3, S3, σ3, r3, s3, ?_⟩
          dsimp only [SR.go] at o1
          cases e3 : t σ3 S3 with
          | ok c S4 =>
            rw [e3] at o1
            intro ι4 H4 ex4 r4
            dsimp only [Res.bindF] at o1
            cases c with
            | false =>
              exact ⟨ι4, S4, ((ex1.trans ex2).trans ex3).trans ex4, r4, OutE.mono ((ex2.trans ex3).trans ex4) o1⟩
            | true =>
              rw [if_pos rfl] at o1 ⊢
              refine ⟨ι4, S4, σ3, r4, s3.mono ex4, ?_⟩
              cases em1 : m1 σ3 S4 with
              | fail => rw [em1] at o1; exact o1.elim
              | exc n S5 => rw [em1] at o1; exact o1.elim
              | ok src1 S5 =>
                rw [em1] at o1
                dsimp only [Res.bindI] at o1
                intro ι5 H5 J1 ex5 r5 wk1
                have ex15 := ((ex2.trans ex3).trans ex4).trans ex5
                have ex05 := ex1.trans ex15
                have s5 := ((s3.mono ex4).mono ex5).wipe vs1
                have hD5 : ι5[S1.length]? = some D := pre_get ex15.pre hD1
                refine ⟨fun j k H => ∃ ι S, Ext ι5 H5 ι H ∧ Rep L ι S H ∧ j ≤ src1.items.length ∧ k = src1.items.length - j ∧ OutE L ι H (lcI src1.ok g1 t1 e (wipeM σ3 vs1) S1.length (fun S5 => lcO src.ok g t m1 g1 t1 e (wipeM σ own) vs1 S1.length rest S5) (src1.items.drop j) S) Q (fun c d H' => W c d τ H'),
                  ⟨src1.items.length, ι5, S5, Ext.refl _ _, r5, Nat.zero_le _, rfl, OutE.mono ex15 o1⟩, ?_⟩
                rintro j k H6 ⟨ι6, S6, ex6, r6, hle6, rfl, o6⟩
                have hD6 : ι6[S1.length]? = some D := pre_get ex6.pre hD5
                cases hd6 : src1.items.drop j with
                | nil =>
                  rw [hd6] at o6
                  unfold lcI at o6
                  have hl6 : src1.items.length = j := Nat.le_antisymm (List.drop_eq_nil_iff.mp hd6) hle6
                  by_cases ok6 : src1.ok S6
                  · rw [if_pos ok6] at o6
                    exact .inl ⟨(wk1 ι6 H6 S6 ex6 r6 ok6 j).2 hl6, ι6, S6, ex05.trans ex6, r6, o6⟩
                  · rw [if_neg ok6] at o6; exact o6.elim
                | cons y rest1 =>
                  rw [hd6] at o6
                  unfold lcI at o6
                  by_cases ok6 : src1.ok S6
                  · rw [if_pos ok6] at o6
                    have hx6 : src1.items[j]? = some y := by rw [← List.head?_drop, hd6]; rfl
                    have hlt6 : j < src1.items.length := (List.getElem?_eq_some_iff.mp hx6).1
                    have hr6 : src1.items.drop (j + 1) = rest1 := by rw [← List.tail_drop, hd6]; rfl
                    obtain ⟨hgo6, hyl6⟩ := (wk1 ι6 H6 S6 ex6 r6 ok6 j).1 y hx6
                    refine .inr ⟨hgo6, fun H => ∃ ι S, Ext ι5 H5 ι H ∧ Rep L ι S H ∧ OutE L ι H (lcI src1.ok g1 t1 e (wipeM σ3 vs1) S1.length (fun S5 => lcO src.ok g t m1 g1 t1 e (wipeM σ own) vs1 S1.length rest S5) rest1 S) Q (fun c d H' => W c d τ H'),
                      fun H' ⟨ι', S', a1, a2, a4⟩ => ⟨src1.items.length - (j + 1), by omega, ι', S', a1, a2, hlt6, rfl, by rw [hr6]; exact a4⟩, fun v H' hy => ?_⟩
                    obtain ⟨ex7, r7, rv7⟩ := hyl6 v H' hy
                    refine ⟨ι6, S6, wipeM σ3 vs1, y, r7, (s5.mono ex6).mono ex7, rv7, ?_⟩
                    cases e7 : g1 y (wipeM σ3 vs1) S6 with
                    | nx σ8 S8 =>
                      rw [e7] at o6
                      intro ι8 H8 τ8 ex8 r8 s8 hw8
                      refine ⟨hw8.trans wipe_wipe, ι8, S8, σ8, r8, s8, ?_⟩
                      dsimp only [SR.go] at o6
                      cases e8 : t1 σ8 S8 with
                      | ok c S9 =>
                        rw [e8] at o6
                        intro ι9 H9 ex9 r9
                        dsimp only [Res.bindF] at o6
                        cases c with
                        | false => exact ⟨ι9, S9, ((ex6.trans ex7).trans ex8).trans ex9, r9, OutE.mono ((ex7.trans ex8).trans ex9) o6⟩
                        | true =>
                          rw [if_pos rfl] at o6 ⊢
                          refine ⟨ι9, S9, σ8, r9, s8.mono ex9, ?_⟩
                          cases e9 : e σ8 S9 with
                          | ok z Sa =>
                            rw [e9] at o6
                            intro ιa Ha w exa ra rwa
                            dsimp only at o6
                            cases ea : appS Sa S1.length z with
                            | none => rw [ea] at o6; exact o6.elim
                            | some Sb =>
                              rw [ea] at o6
                              have ex6a := ((ex7.trans ex8).trans ex9).trans exa
                              obtain ⟨acc, q1, q2, rfl⟩ := appS_ok ea
                              obtain ⟨vs, h1, h2, h3, h4⟩ := app_rep ra (pre_get ex6a.pre hD6) q1 rwa
                              exact ⟨vs, h1, by rw [← h2.length]; exact Nat.lt_of_lt_of_le q2 (by decide), ιa, _, (ex6.trans ex6a).trans h3, h4, OutE.mono (ex6a.trans h3) o6⟩
                          | _ => rw [e9] at o6; exact o6.elim
                      | _ => rw [e8] at o6; exact o6.elim
                    | _ => rw [e7] at o6; exact o6.elim
                  · rw [if_neg ok6] at o6; exact o6.elim
          | _ => rw [e3] at o1; exact o1.elim
        | _ => rw [e2] at o1; exact o1.elim
      · rw [if_neg ok] at o1; exact o1.elim
theorem me_lc2 {elt tg iter tg1 iter1 : Expr} {ifs ifs1 : List Expr} {scope : Scope} {own : List (Str × Nat)} {vs1 : List Nat} {pos : Pos} {m m1 : IM} {g g1 : GM} {t t1 : TM} {e : EM} (hc : X.calm = true) (hN : X.N.Nodup) (hi : MI X L W tg iter m) (ok : BlkOk X.N X.env.scope scope own)
    (hg : ∀ (s : Shared) (H : Hp) (C : Addr) (cl : List (Str × Addr)) (fp : List Addr), MGw (X.blk s H scope (compEnvC scope cl C X.env) fp) L (own.map (·.2)) tg g) (ht : ∀ (s : Shared) (H : Hp) (C : Addr) (cl : List (Str × Addr)) (fp : List Addr), MTs (X.blk s H scope (compEnvC scope cl C X.env) fp) L ifs t)
    (hi1 : ∀ (s : Shared) (H : Hp) (C : Addr) (cl : List (Str × Addr)) (fp : List Addr), MI (X.blk s H scope (compEnvC scope cl C X.env) fp) L WF tg1 iter1 m1)
    (hg1 : ∀ (s : Shared) (H : Hp) (C : Addr) (cl : List (Str × Addr)) (fp : List Addr), MGw (X.blk s H scope (compEnvC scope cl C X.env) fp) L vs1 tg1 g1) (ht1 : ∀ (s : Shared) (H : Hp) (C : Addr) (cl : List (Str × Addr)) (fp : List Addr), MTs (X.blk s H scope (compEnvC scope cl C X.env) fp) L ifs1 t1)
    (he : ∀ (s : Shared) (H : Hp) (C : Addr) (cl : List (Str × Addr)) (fp : List Addr), ME (X.blk s H scope (compEnvC scope cl C X.env) fp) L WF elt e) (hv : ∀ i ∈ vs1, i ∈ own.map (·.2) := by decide) (hs : ∀ x, foldedSetIterable iter X.env x = pure x := by intro _; rfl) (hs1 : ∀ env x, foldedSetIterable iter1 env x = pure x := by intro _ _; rfl) :
    ME X L W (.ListComp elt [⟨tg, iter, ifs, 0⟩, ⟨tg1, iter1, ifs1, 0⟩] scope pos) (mLc2 m g t m1 g1 t1 e (own.map (·.2)) vs1) := PE.wk (pe_lc2 hc hN hi ok hv hg ht hi1 hg1 ht1 he hs hs1) rdLc2
/-! ### f-strings -/
def fmtR : VV → Sto → Res VV
  | .str y, S => if y.length ≤ 100000 then .ok (.str y) S else .fail
  | .int i, S => if i.natAbs.log2 < 1920 then .ok (.str (toString i)) S else .fail
  | _, _ => .fail
def mFmt (a : EM) : EM := fun σ S => (a σ S).bind fun x S1 => fmtR x S1
theorem me_fmt {e : Expr} {pos : Pos} {a : EM} (h : ME X L W e a) : ME X L W (.FormattedValue e (-1) none pos) (mFmt a) := PE.wk (pe_fmt h) fun τ H Q ⟨ι, S, σ, rp, rs, o⟩ =>
  stepE (k := fmtR) rp rs o fun x S1 ι1 H1 v ex r1 s1 rv o1 => by
    unfold fmtR at o1
    cases x with
    | str y =>
      cases rv
      dsimp only at o1
      by_cases c : y.length ≤ 100000
      · rw [if_pos c] at o1
        exact .inl ⟨y, rfl, Nat.le_trans c (by rw [sizeLine_eq]; decide), o1 ι1 H1 _ (Ext.refl _ _) r1 (.str y)⟩
      · rw [if_neg c] at o1; exact o1.elim
    | int i =>
      cases rv
      dsimp only at o1
      by_cases c : i.natAbs.log2 < 1920
      · rw [if_pos c] at o1
        exact .inr ⟨i, rfl, c, o1 ι1 H1 _ (Ext.refl _ _) r1 (.str _)⟩
      · rw [if_neg c] at o1; exact o1.elim
    | _ => exact o1.elim
def jsK (k : Str → Sto → Res VV) (acc : Str) : VV → Sto → Res VV
  | .str y, S => if (acc ++ y).length ≤ 100000 then k (acc ++ y) S else .fail
  | _, _ => .fail
def mJs : List EM → Str → EM
  | [], acc => fun _ S => .ok (.str acc) S
  | a :: r, acc => fun σ S => (a σ S).bind fun x S1 => jsK (fun acc S2 => mJs r acc σ S2) acc x S1
inductive MJ (X : Cx) (L : Lay) (W : WX) : List Expr → List EM → Prop where
  | nil : MJ X L W [] []
  | cons {e : Expr} {a : EM} {es : List Expr} {r : List EM} (h : ME X L W e a) (t : MJ X L W es r) : MJ X L W (e :: es) (a :: r)
theorem MJ.pj {es : List Expr} {r : List EM} (h : MJ X L W es r) : PJ X es (r.map (rdE L W)) := by
  induction h with
  | nil => exact .nil
  | cons h t ih => exact .cons h ih
theorem js_rd {τ : L2.St} {Q : VK} {σ : Sg} : ∀ (r : List EM) (acc : Str) (ι : List Addr) (S : Sto) (H : Hp), Rep L ι S H → RS L ι H σ τ → OutE L ι H (mJs r acc σ S) Q (fun c d H' => W c d τ H') → tJs (r.map (rdE L W)) acc τ H fun out H1 => Q (.str out) H1
  | [], acc, ι, S, H, rp, rs, o => o ι H _ (Ext.refl _ _) rp (.str acc)
  | a :: r, acc, ι, S, H, rp, rs, o => by
    refine stepE (k := fun x S1 => jsK (fun acc S2 => mJs r acc σ S2) acc x S1) (Q := Q) rp rs o fun x S1 ι1 H1 v ex r1 s1 rv o1 => ?_
    unfold jsK at o1
    cases x with
    | str y =>
      cases rv
      dsimp only at o1
      by_cases c : (acc ++ y).length ≤ 100000
      · rw [if_pos c] at o1
        exact ⟨y, rfl, Nat.le_trans c (by rw [sizeLine_eq]; decide), js_rd r (acc ++ y) ι1 S1 H1 r1 s1 o1⟩
      · rw [if_neg c] at o1; exact o1.elim
    | _ => exact o1.elim
theorem me_joined {v1 v2 : Expr} {rest : List Expr} {r : List EM} {pos : Pos} (h : MJ X L W (v1 :: v2 :: rest) r) : ME X L W (.JoinedStr (v1 :: v2 :: rest) pos) (mJs r Str.empty) := PE.wk (pe_joined h.pj) fun τ H Q ⟨ι, S, σ, rp, rs, o⟩ => js_rd r _ ι S H rp rs o
/-! ### displays with text keys -/
def mergeM (kvs more : List (Key × VV)) : List (Key × VV) := more.foldl (fun acc kv => putM acc kv.1 kv.2) kvs
theorem merge_rel {ι : List Addr} {H : Hp} : ∀ {more : List (Key × VV)} {ms : List (Key × V)} {kvs : List (Key × VV)} {ws : List (Key × V)}, RKv L ι H more ms → RKv L ι H kvs ws → RKv L ι H (mergeM kvs more) (mergeK ws ms)
  | _, _, _, _, .nil, r => r
  | (k1, x) :: more, (k2, v) :: ms, kvs, ws, .cons h t, r => by
    obtain ⟨e, rv⟩ := h
    have e : k1 = k2 := e
    subst e
    have t2 : RKv L ι H more ms := t
    show RKv L ι H (mergeM (putM kvs k1 x) more) (mergeK (putK ws k1 v) ms)
    exact merge_rel t2 (putM_rel r rv)
open Classical in
def dspK (n : Nat) (ks : List Str) (xs : List VV) (S : Sto) : Res VV := if S[n]? = some (.dK []) ∧ xs.length = ks.length then .ok (.ref n) (S.set n (.dK (mergeM [] ((ks.map (Sum.inr : Str → Key)).zip xs)))) else .fail
/-- {"k": e, ..} -/
def mDsp (ks : List Str) (a : AM) : EM := fun σ S => (a σ (S ++ [.dK []])).bind fun xs S1 => dspK S.length ks xs S1
inductive MDs (X : Cx) (L : Lay) (W : WX) (pos : Pos) : List (Option Expr) → List Expr → List Str → AM → Prop where
  | nil : MDs X L W pos [] [] [] mNil
  | cons {k : Str} {j : Nat} {p : Pos} {e : Expr} {a : EM} {keys : List (Option Expr)} {es : List Expr} {ks : List Str} {r : AM} (h : ME X L W e a) (t : MDs X L W pos keys es ks r) : MDs X L W pos (some (.Constant (.str k) j p) :: keys) (e :: es) (k :: ks) (mCons a r)
theorem dsp_run {pos : Pos} {keys : List (Option Expr)} {es : List Expr} {ks : List Str} {a : AM} (h : MDs X L W pos keys es ks a) : ∃ trs : List (TE × TE), PPs X pos keys es trs ∧ ks.length = es.length ∧ keys.all (·.isSome) = true ∧ keys.length = es.length ∧
    ∀ (τ : L2.St) (σ : Sg) (ι : List Addr) (S : Sto) (H : Hp) (Qs : List (V × V) → Hp → Prop) (kf : List VV → Sto → Res VV) (Q : VK), Rep L ι S H → RS L ι H σ τ → OutE L ι H ((a σ S).bind kf) Q (fun c d H' => W c d τ H') →
      (∀ xs S1 ι1 H1 vs, Ext ι H ι1 H1 → Rep L ι1 S1 H1 → RVs L ι1 H1 xs vs → xs.length = ks.length → OutE L ι1 H1 (kf xs S1) Q (fun c d H' => W c d τ H') → Qs ((ks.map V.str).zip vs) H1) → tPairs trs τ H Qs := by
  induction h with
  | nil => exact ⟨[], pps_nil, rfl, rfl, rfl, fun τ σ ι S H Qs kf Q rp rs o h => h [] S ι H [] (Ext.refl _ _) rp .nil rfl o⟩
  | @cons k j p e a keys es ks r h t ih =>
    obtain ⟨trs, h1, h2, h3, h4, h5⟩ := ih
    refine ⟨(tC (.str k), rdE L W a) :: trs, pps_cons pe_str h h1, by rw [List.length_cons, List.length_cons, h2], by rw [List.all_cons, h3]; rfl, by rw [List.length_cons, List.length_cons, h4], fun τ σ ι S H Qs kf Q rp rs o hk => ?_⟩
    have o1 : OutE L ι H ((a σ S).bind fun x S1 => (r σ S1).bind fun xs S2 => kf (x :: xs) S2) Q (fun c d H' => W c d τ H') := by
      unfold mCons at o
      cases e1 : a σ S with
      | ok x S1 =>
        rw [e1] at o
        dsimp only [Res.bind] at o ⊢
        cases e2 : r σ S1 with
        | ok xs S2 => rw [e2] at o; exact o
        | exc n S2 => rw [e2] at o; exact o
        | fail => rw [e2] at o; exact o
      | exc n S1 => rw [e1] at o; exact o
      | fail => rw [e1] at o; exact o
    refine stepE (k := fun x S1 => (r σ S1).bind fun xs S2 => kf (x :: xs) S2) (Q := Q) rp rs o1 fun x S1 ι1 H1 v ex r1 s1 rv o2 => ?_
    refine h5 τ σ ι1 S1 H1 _ (fun xs S2 => kf (x :: xs) S2) Q r1 s1 o2 fun xs S2 ι2 H2 vs ex2 r2 rvs hl o3 => ?_
    exact hk (x :: xs) S2 ι2 H2 (v :: vs) (ex.trans ex2) r2 (.cons (rv.mono ex2) rvs) (by rw [List.length_cons, List.length_cons, hl]) o3
theorem zip_kV : ∀ (ks : List Str) (vs : List V), (ks.map V.str).zip vs = ((ks.map (Sum.inr : Str → Key)).zip vs).map (fun kv => (kV kv.1, kv.2))
  | [], _ => rfl
  | _ :: _, [] => rfl
  | k :: ks, v :: vs => by
    rw [List.map_cons, List.map_cons, List.zip_cons_cons, List.zip_cons_cons, List.map_cons, zip_kV ks vs]
    rfl
theorem me_dsp {pos : Pos} {keys : List (Option Expr)} {es : List Expr} {ks : List Str} {a : AM} (h : MDs X L W pos keys es ks a) (h0 : keys ≠ []) (h15 : keys.length ≤ 15 := by decide) : ME X L W (.Dict keys es pos) (mDsp ks a) := by
  obtain ⟨trs, h1, h2, h3, h4, h5⟩ := dsp_run h
  refine PE.wk (pe_disp h1 h3 h4 h0 h15) fun τ H Q ⟨ι, S, σ, rp, rs, o⟩ => ?_
  intro p hp
  have ex0 : Ext ι H (ι ++ [p]) (upd H p (.dK [])) := Rep.newExt hp
  have r0 : Rep L (ι ++ [p]) (S ++ [.dK []]) (upd H p (.dK [])) := rp.new hp ⟨[], rfl, .nil⟩
  have hpi : (ι ++ [p])[S.length]? = some p := by
    rw [List.getElem?_append_right (by rw [rp.len]; exact Nat.le_refl _), rp.len]
    simp
  refine h5 τ σ _ _ _ _ (fun xs S1 => dspK S.length ks xs S1) Q r0 (rs.mono ex0) (OutE.mono ex0 o) fun xs S1 ι1 H1 vs ex1 r1 rvs hl o1 => ?_
  unfold dspK at o1
  by_cases c : S1[S.length]? = some (.dK []) ∧ xs.length = ks.length
  · rw [if_pos c] at o1
    have hp1 := pre_get ex1.pre hpi
    obtain ⟨u, q1, ws, q2, q3⟩ := r1.get hp1 c.1
    subst q2
    cases q3
    have lz : (ks.map (Sum.inr : Str → Key)).length = vs.length := by rw [List.length_map, ← hl, rvs.length]
    refine ⟨q1, (ks.map (Sum.inr : Str → Key)).zip vs, ?_, ?_, ?_⟩
    · exact zip_kV ks vs
    · rw [List.length_zip, List.length_map, ← rvs.length, hl, h2, Nat.min_self, ← h4]
      exact h15
    · have kp : Keep H1 (upd H1 p (.dK (mergeK [] ((ks.map (Sum.inr : Str → Key)).zip vs)))) := Keep.set q1 (fun _ => by intro z; cases z) (fun _ _ => by intro z; cases z)
      have exx : Ext ι1 H1 ι1 (upd H1 p (.dK (mergeK [] ((ks.map (Sum.inr : Str → Key)).zip vs)))) := ⟨List.prefix_rfl, kp⟩
      have rel : ∀ (ks : List Key) (xs : List VV) (vs : List V), RVs L ι1 H1 xs vs → RKv L ι1 H1 (ks.zip xs) (ks.zip vs) := fun ks => by
        induction ks with
        | nil => intro xs vs _; exact .nil
        | cons k ks ih =>
          intro xs vs r
          cases r with
          | nil => exact .nil
          | cons a b => exact .cons ⟨rfl, a⟩ (ih _ _ b)
      exact o1 ι1 _ _ exx (r1.set hp1 q1 kp ⟨_, rfl, (merge_rel (rel _ _ _ rvs) .nil).mono exx⟩) (.ref hp1)
  · rw [if_neg c] at o1
    exact o1.elim
end
end Sx
end
/-! Sx31: short forms for the printer: heads with tables. -/
noncomputable section
namespace Sx
open PySem PySem.Spec
open PyProof.Rows L2
theorem hr_in1 {k : Nat} {A : Around} (hr : Room (k + 1) A) : A.in1.units < cLine := by
  have := (Room.in1 hr).units
  omega
theorem code_of {K : PySem.W.Frag} {x qual : Str} {params : Arguments} {body : List Stmt} {scope : Scope} {dvs : List V} {kws : List (Str × V)} {p : Str × Option Str} {fd : FuncData} (F : FunD K x qual params body scope dvs kws (He.fAd K p) fd) : fd.code = .ref (He.cT K p).1 := by
  obtain ⟨oc, od, dV, kV, doc, pm, an, cdv, ct, osl, rfl, lk, hcd, _, _⟩ := F.ex
  obtain ⟨c, rfl⟩ := He.codeIn_ref hcd
  show Value.ref c = .ref (He.codeOf K p)
  rw [He.codeOf_eq lk rfl]
end Sx
end
section
/-! Sx32: raise X(..) from e, where e is the one that is handled. -/
namespace Sx
open PySem PySem.Spec PyProof.Rows HotX
/-- the heap behind «from e» -/
def fromH (h : Heap) (a x1 : Addr) : Heap := (h.update a (Obj.mapFields (·.setIfInBounds 3 (.ref x1)))).update a (Obj.mapFields (·.setIfInBounds 4 (.bool true)))
theorem fromH_at {h : Heap} {a x1 : Addr} {oe : Obj} {vs : Array Value} (ha : h.get? a = some oe) (hd : oe.data = .fields vs) :
    (fromH h a x1).get? a = some ((oe.mapFields (·.setIfInBounds 3 (.ref x1))).mapFields (·.setIfInBounds 4 (.bool true))) ∧ ((oe.mapFields (·.setIfInBounds 3 (.ref x1))).mapFields (·.setIfInBounds 4 (.bool true))).data = .fields ((vs.setIfInBounds 3 (.ref x1)).setIfInBounds 4 (.bool true)) := by
  have hd3 := Obj.data_mapFields hd (·.setIfInBounds 3 (.ref x1))
  have ha3 := Heap.get?_update_self (Obj.mapFields (·.setIfInBounds 3 (.ref x1))) ha (Obj.isFreed_of_fields hd3)
  have hd4 := Obj.data_mapFields hd3 (·.setIfInBounds 4 (.bool true))
  exact ⟨Heap.get?_update_self (Obj.mapFields (·.setIfInBounds 4 (.bool true))) ha3 (Obj.isFreed_of_fields hd4), hd4⟩
theorem fromH_other {h : Heap} {a b x1 : Addr} (hne : a ≠ b) : (fromH h a x1).get? b = h.get? b := by
  unfold fromH
  rw [Heap.get?_update_other _ _ hne, Heap.get?_update_other _ _ hne]
theorem raise_made_hotF {prog : Program} {w : World} {A : Around} {E : Value → Shared → Prop} {env : Env} {s : Shared} {x c : Sem Value} {Q : Flow → Shared → Prop} {x1 : Addr}
    (h : wpAny (model prog w) A x (fun v s₁ => ∃ a oe vs cls, v = .ref a ∧ s₁.heap.get? a = some oe ∧ oe.cls = cls ∧ oe.data = .fields vs ∧ vs[1]? = some .none ∧ 4 < vs.size ∧ x1 ≠ a ∧ HotAt A x1 s₁.heap ∧
      (∀ (Q' : Value → Shared → Prop), Q' (.ref x1) s₁ → wpAny (model prog w) A c Q' E s₁) ∧ PySem.W.Looks (model prog w) s₁.heap (isInstance (.ref x1) (.type "BaseException")) true ∧
      PySem.W.Looks (model prog w) s₁.heap (isSubtype cls (.type "BaseException")) true ∧ PySem.W.Looks (model prog w) (fromH s₁.heap a x1) (typeOf cls) (.type "type") ∧
      E (.ref a) { s₁ with heap := (fromH s₁.heap a x1).update a (Obj.mapFields (·.setIfInBounds 2 (.ref x1))) }) E s) :
    wpAny (model prog w) A (raiseStmt env (some x) (some c)) Q E s := by
  unfold raiseStmt
  dsimp only
  refine wpAny_bind (wpAny_mono h (fun v s₁ h₁ => ?_) fun _ _ x => x)
  obtain ⟨a, oe, vs, cls, rfl, ha, hcls, hd, h1, hi, hne, hot, hc, LC, L1, L3, hE⟩ := h₁
  have LT : PySem.W.Looks (model prog w) s₁.heap (typeOf (.ref a)) cls := fun A Q E s k q => wpAny_typeOf_ref (k _ _ ha) (by rw [hcls]; exact q)
  have LI : PySem.W.Looks (model prog w) s₁.heap (isInstance (.ref a) (.type "BaseException")) true := LT.andThen L1
  have hnt : ∀ {Q' : Bool → Shared → Prop}, Q' false s₁ → wpAny (model prog w) A (isType (.ref a)) Q' E s₁ := by
    intro Q' hq
    simp only [isType, loadHead]
    refine wpAny_bind (wpAny_loadPart ha ?_)
    rw [hd]; exact wpAny_pure hq
  have hntc : ∀ {Q' : Bool → Shared → Prop}, Q' false s₁ → wpAny (model prog w) A (isType (.ref x1)) Q' E s₁ := by
    intro Q' hq
    obtain ⟨_, o1, vs1, e1, e2, _⟩ := hot
    simp only [isType, loadHead]
    refine wpAny_bind (wpAny_loadPart e1 ?_)
    rw [e2]; exact wpAny_pure hq
  have hd3 := Obj.data_mapFields hd (·.setIfInBounds 3 (.ref x1))
  have ha3 := Heap.get?_update_self (Obj.mapFields (·.setIfInBounds 3 (.ref x1))) ha (Obj.isFreed_of_fields hd3)
  obtain ⟨ha4, hd4⟩ := fromH_at (x1 := x1) ha hd
  have s3 : 3 < vs.size := by omega
  have s4 : 4 < (vs.setIfInBounds 3 (Value.ref x1)).size := by rw [set_size]; exact hi
  have s2 : 2 < ((vs.setIfInBounds 3 (Value.ref x1)).setIfInBounds 4 (Value.bool true)).size := by rw [set_size, set_size]; omega
  have h14 : ((vs.setIfInBounds 3 (Value.ref x1)).setIfInBounds 4 (Value.bool true))[1]? = some Value.none := set_other (by decide) (set_other (by decide) h1)
  have hcls4 : ((oe.mapFields (·.setIfInBounds 3 (.ref x1))).mapFields (·.setIfInBounds 4 (.bool true))).cls = cls := by rw [Obj.cls_mapFields, Obj.cls_mapFields]; exact hcls
  have LT4 : PySem.W.Looks (model prog w) (fromH s₁.heap a x1) (typeOf (.ref a)) cls := fun A Q E s k q => wpAny_typeOf_ref (k _ _ ha4) (by rw [hcls4]; exact q)
  have hnt4 : ∀ {Q' : Bool → Shared → Prop}, Q' false { s₁ with heap := fromH s₁.heap a x1 } → wpAny (model prog w) A (isType (.ref a)) Q' E { s₁ with heap := fromH s₁.heap a x1 } := by
    intro Q' hq
    simp only [isType, loadHead]
    refine wpAny_bind (wpAny_loadPart ha4 ?_)
    rw [hd4]; exact wpAny_pure hq
  have hot4 : HotAt A x1 (fromH s₁.heap a x1) := by
    obtain ⟨q1, o, vs', q2, q3, q4⟩ := hot
    exact ⟨q1, o, vs', by rw [fromH_other (Ne.symm hne)]; exact q2, q3, q4⟩
  have rest : wpAny (model prog w) A (do
      let b ← isType (.ref a)
      if b = true then do
        let e ← holding [.ref a] (raisedFor (.ref a) (.ref a))
        setFlight e none
        raiseNew e
      else do
        let e ← raisedInstance (.ref a)
        setFlight e none
        raiseNew e : Sem Flow) Q E { s₁ with heap := fromH s₁.heap a x1 } := by
    refine wpAny_bind (hnt4 ?_)
    simp only [Bool.false_eq_true, if_false]
    unfold raisedInstance
    refine wpAny_bind (wpAny_bind (LT4.here (wpAny_bind (L3.here ?_))))
    rw [if_pos (beq_self_eq_true _)]
    refine wpAny_pure ?_
    unfold setFlight
    refine wpAny_bind (wpAny_bind (wpAny_field ha4 hd4 h14 ?_))
    rw [if_neg (by decide)]
    refine wpAny_pure ?_
    exact raiseNew_hot hot4 hne ha4 hd4 s2 hE
  refine wpAny_bind (wpAny_holding (hc _ (wpAny_bind (wpAny_pure ?_))))
  dsimp only
  refine wpAny_bind (wpAny_holding ?_)
  unfold excFromValue isExcClass
  refine wpAny_bind (wpAny_bind (hnt ?_))
  simp only [Bool.false_eq_true, if_false]
  refine wpAny_pure ?_
  simp only [Bool.false_eq_true, if_false]
  refine wpAny_bind (LI.here ?_)
  simp only [if_true]
  refine wpAny_pure ?_
  have hb : (Value.ref x1 == Value.none) = false := rfl
  rw [if_neg (by rw [hb]; decide)]
  refine wpAny_bind (wpAny_holding (wpAny_bind (wpAny_bind (hntc ?_))))
  simp only [Bool.false_eq_true, if_false]
  refine wpAny_pure ?_
  simp only [Bool.false_eq_true, if_false]
  refine wpAny_bind (LC.here ?_)
  simp only [if_true]
  refine wpAny_pure ?_
  first
  | refine wpAny_bind (wpAny_setField ha hd s3 (wpAny_bind (wpAny_setField ha3 hd3 s4 ?_)))
  | refine wpAny_bind (wpAny_bind (wpAny_setField ha hd s3 (wpAny_setField ha3 hd3 s4 ?_)))
  first
  | exact rest
  | (dsimp only; exact rest)
  | (refine wpAny_pure ?_; exact rest)
open L2 L2H in
/-- raise X(..) from e, e the handled one -/
theorem ps_raiseHF {X : Cx} {W : WX} {e : Expr} {t : L2.St → Hp → XK → Prop} {i : Nat} {n : Str} {cpos pos : Pos} {p : Addr × Obj} (hot : Hot1 X.A p) (hp : p ∈ X.pn) (rp : Raises X p.2.cls) (hN : X.N[i]? = some n) (hv : Vis X.env.scope n) (tk : L2.Takes X W) (he : PMk5 X e t)
    (hd : (n == ("__debug__" : Str)) = false := by decide) (hcd : (n == ("__classdict__" : Str)) = false := by decide) :
    PS X (.Raise (some e) (some (.Name n cpos)) pos) (fun _ σ H => σ[i]? = some (some (V.ref p.1)) ∧ t σ H fun cls d H' => W cls d σ H') := by
  refine ⟨fun pins s σ H D I ⟨hσ, h⟩ => ?_⟩
  obtain ⟨hh, v1, e1, c1⟩ := hot
  show wpAny _ _ (do standAt pos; raiseStmt X.env (some (do let v ← eval e X.env; standAt pos; pure v)) (some (do let v ← eval (.Name n cpos) X.env; standAt pos; pure v))) _ _ _
  refine wpAny_bind (wpAny_standAt (raise_made_hotF (x1 := p.1) (wpAny_bind (wpAny_mono (he pins s σ H _ I h) (fun u s1 hu => wpAny_bind (wpAny_standAt (wpAny_pure ?_))) fun _ _ x => x))))
  obtain ⟨⟨a, oe, vs, sI, H', cls, d, rfl, J, k, hne, ha, hz, hd', h1, na, os, ag, r, q⟩, h5⟩ := hu
  have hi : 4 < vs.size := h5 a oe vs rfl ha hd'
  have k4 : ∀ b u, sI.heap.get? b = some u → (fromH s1.heap a p.1).get? b = some u := fun b u z => by
    have nab : a ≠ b := fun y => by
      rw [← y, hne] at z
      cases z
    rw [fromH_other nab]
    exact k b u z
  obtain ⟨r1, _⟩ := r (model X.prog X.w) s1.heap (J.kIn.keeps k)
  obtain ⟨_, r2⟩ := r (model X.prog X.w) (fromH s1.heap a p.1) (J.kIn.keeps k4)
  obtain ⟨rp1, _⟩ := rp (model X.prog X.w) s1.heap (J.kIn.keeps k)
  have P1 := (J.pin p (List.mem_append_left _ hp)).1
  have nap : p.1 ≠ a := fun z => by
    rw [z, hne] at P1
    cases P1
  have J1 : Inv X pins σ H' s1 := J.landed (B := s1.heap) (fun b o e _ => k b o e) (fun b o e => e) (Heap.UpToSlots.of_keeps k) os ag
  have nm : ∀ (Q' : Value → Shared → Prop), Q' (.ref p.1) s1 → wpAny (model X.prog X.w) X.A (do let v ← eval (.Name n cpos) X.env; standAt pos; pure v) Q' X.xe s1 := fun Q' q' => by
    obtain ⟨m, hn, hl⟩ := J1.loc
    obtain ⟨u, r, l⟩ := hl i n _ hN hσ hv
    cases (show u = Value.ref p.1 from r)
    have fin : wpAny (model X.prog X.w) X.A (do standAt pos; pure (Value.ref p.1)) Q' X.xe s1 := wpAny_bind (wpAny_standAt (wpAny_pure q'))
    rcases l with ⟨hk, hm⟩ | ⟨hk, c, hc, hcell⟩
    · exact wpAny_bind (wpAny_Name (wpAny_loadName_local J1.ok.kind hk hn hm fin) hd)
    · rcases hk with hk | hk
      · exact wpAny_bind (wpAny_Name (wpAny_loadName_cell J1.ok.kind hk hc hcell fin) hd)
      · exact wpAny_bind (wpAny_Name (wpAny_loadName_free J1.ok.kind hk hc hcell fin hcd) hd)
  have LTc : PySem.W.Looks (model X.prog X.w) s1.heap (typeOf (.ref p.1)) p.2.cls := fun A Q E s k' q' => wpAny_typeOf_ref (k' _ _ (k _ _ P1)) q'
  obtain ⟨ha4, hd4⟩ := fromH_at (x1 := p.1) ha hd'
  have h12 : (((vs.setIfInBounds 3 (Value.ref p.1)).setIfInBounds 4 (Value.bool true)).setIfInBounds 2 (Value.ref p.1))[1]? = some Value.none := set_other (by decide) (set_other (by decide) (set_other (by decide) h1))
  refine ⟨a, oe, vs, cls, rfl, ha, hz.1, hd', h1, hi, nap, ⟨hh, p.2, v1, k _ _ P1, e1, c1⟩, nm, LTc.andThen rp1, r1, r2, tk _ _ (L2.XE.new J (fun b u z => ?_) hne (Heap.get?_update_self _ ha4 (Obj.isFreed_of_fields (Obj.data_mapFields hd4 _)))
    ⟨by rw [Obj.cls_mapFields, Obj.cls_mapFields, Obj.cls_mapFields]; exact hz.1, by rw [HandSPX.dict_mapFields, HandSPX.dict_mapFields, HandSPX.dict_mapFields]; exact hz.2.1⟩ (Obj.data_mapFields hd4 _) h12 na os ag q)⟩
  have nab : a ≠ b := fun y => by
    rw [← y, hne] at z
    cases z
  show ((fromH s1.heap a p.1).update a (Obj.mapFields (·.setIfInBounds 2 (.ref p.1)))).get? b = some u
  rw [Heap.get?_update_other _ _ nab]
  exact k4 b u z
end Sx
end
section
/-! Sx33: try: .. except X as e: a suite that raises. -/
namespace Sx
open PySem PySem.Spec PyProof.Rows L2 HotX
section
variable {X : Cx} {pins : List (Addr × Obj)} {σ : L2.St} {H : Hp} {s : Shared}
/-- gone_ok, and what else stays -/
theorem gone_okF {M : Model} {A : Around} {E : Value → Shared → Prop} {i : Nat} {n : Str} {pos : Pos} {Q : Unit → Shared → Prop} (I : Inv X pins σ H s) (hN : X.N.Nodup) (hi : X.N[i]? = some n) (hl : X.env.kindOf n = some .local)
    (h : ∀ h' t' (m : Str → Option Value) (v : Option Value), Inv X pins (σ.set i none) H { s with heap := h', toks := t' } → Heap.SameBut X.env.locals s.heap h' → h'.Ns X.env.locals (fun x => if x = n then v else m x) → (∀ (i : Nat) (x : Str) (v : V), X.N[i]? = some x → σ[i]? = some (some v) → Vis X.env.scope x → ∃ u, RelV v u ∧ Look X.env s.heap m x u) → Q () { s with heap := h', toks := t' }) : wpAny M A (do bindName X.env n .none; unbindBehindTheSuite X.env n pos) Q E s := by
  obtain ⟨m, hn, hlk⟩ := id I.loc
  have hcls : (X.env.scope.kind == .class || (X.env.scope.kind == .module && X.env.locals != X.env.globals)) = false := by rw [I.ok.kind]; rfl
  refine wpAny_nameGoes_keeps hl hn hcls fun h' v hn' hs => h h' _ m v ?_ hs hn' hlk
  obtain ⟨oL, _, _, hoL, _⟩ := id hn
  have neL : ∀ b o, X.s_0.heap.get? b = some o → b ≠ X.env.locals := fun b o e => Nat.ne_of_lt (Nat.lt_of_lt_of_le (Heap.lt_size e) I.ok.above)
  refine ⟨I.ok, I.os, I.bare, ⟨fun b o e n hb hx => ?_, fun b o e n hb hx => ?_, I.base.free, fun b o e hx => ?_, I.base.tups, I.base.frzs, I.base.tbls⟩, ⟨_, hn', fun j y v' e1 e2 e3 => ?_⟩, fun y c e => ?_, I.free, I.freeC, fun p hp => ?_, fun b ob e => ?_, by simpa using I.len⟩
  · exact (hs.2 b (neL b o e)).trans (I.base.keep b o e n hb hx)
  · obtain ⟨sl, e1⟩ := I.base.slot b o e n hb hx
    exact ⟨sl, (hs.2 b (neL b o e)).trans e1⟩
  · obtain ⟨o', e1⟩ := I.base.there b o e hx
    exact ⟨o', (hs.2 b (neL b o e)).trans e1⟩
  · by_cases hj : j = i
    · subst hj
      by_cases hlt : j < σ.length
      · rw [List.getElem?_set_self hlt] at e2; cases e2
      · rw [List.getElem?_eq_none (by simpa using hlt)] at e2; cases e2
    · rw [List.getElem?_set_ne (Ne.symm hj)] at e2
      obtain ⟨u', r', q⟩ := hlk j y v' e1 e2 e3
      refine ⟨u', r', ?_⟩
      rcases q with ⟨k, e⟩ | ⟨k, c, e, z⟩
      · have ny : y ≠ n := fun e => hj (nodup_ix hN e1 (e ▸ hi))
        exact .inl ⟨k, (if_neg ny).trans e⟩
      · exact .inr ⟨k, c, e, z.sameBut hs (I.cne y c e)⟩
  · obtain ⟨w', z⟩ := I.cell y c e
    exact ⟨w', z.sameBut hs (I.cne y c e)⟩
  · obtain ⟨e, n, ne, nf, d⟩ := I.pin p hp
    exact ⟨(hs.2 p.1 ne).trans e, n, ne, nf, d⟩
  · refine (I.hok b ob e).stay (fun c w' hc q => (hs.2 c ?_).trans q) (fun _ q => q) fun _ _ q => q
    intro z
    subst z
    rcases hc with hc | hc
    · rw [← hc, I.free] at e; cases e
    · rw [I.free] at hc; cases hc
/-- the same for the state without the exception -/
theorem gone_inv {sI s7 : Shared} {i : Nat} {n : Str} {h8 : Heap} {m : Str → Option Value} {v : Option Value} (K2 : Inv X pins σ H sI) (hN : X.N.Nodup) (hi : X.N[i]? = some n) (hn' : h8.Ns X.env.locals (fun x => if x = n then v else m x))
    (hlk : ∀ (i : Nat) (x : Str) (v : V), X.N[i]? = some x → σ[i]? = some (some v) → Vis X.env.scope x → ∃ u, RelV v u ∧ Look X.env s7.heap m x u) :
    ∃ G : Heap, Inv X pins (σ.set i none) H { sI with heap := G } ∧ G.get? X.env.locals = h8.get? X.env.locals ∧ ∀ b, b ≠ X.env.locals → G.get? b = sI.heap.get? b := by
  have I := K2
  obtain ⟨m2, hn2, hlk2⟩ := id I.loc
  obtain ⟨oL, _, _, hoL, _⟩ := id hn2
  obtain ⟨o8, es8, ep8, ho8, r8⟩ := hn'
  have f8 := (Heap.get?_some_iff.mp ho8).2
  have gs : (sI.heap.update X.env.locals (fun _ => o8)).get? X.env.locals = some o8 := Heap.get?_update_self (fun _ => o8) hoL f8
  have go : ∀ b, b ≠ X.env.locals → (sI.heap.update X.env.locals (fun _ => o8)).get? b = sI.heap.get? b := fun b hb => Heap.get?_update_other _ _ (Ne.symm hb)
  have hs : Heap.SameBut X.env.locals sI.heap (sI.heap.update X.env.locals (fun _ => o8)) := ⟨Heap.size_after_update _ _ _, go⟩
  refine ⟨sI.heap.update X.env.locals (fun _ => o8), ?_, gs.trans ho8.symm, go⟩
  generalize sI.heap.update X.env.locals (fun _ => o8) = h' at gs go hs
  have hn'' : h'.Ns X.env.locals (fun x => if x = n then v else m x) := ⟨o8, es8, ep8, gs, r8⟩
  have neL : ∀ b o, X.s_0.heap.get? b = some o → b ≠ X.env.locals := fun b o e => Nat.ne_of_lt (Nat.lt_of_lt_of_le (Heap.lt_size e) I.ok.above)
  refine ⟨I.ok, I.os, I.bare, ⟨fun b o e n hb hx => ?_, fun b o e n hb hx => ?_, I.base.free, fun b o e hx => ?_, I.base.tups, I.base.frzs, I.base.tbls⟩, ⟨_, hn'', fun j y v' e1 e2 e3 => ?_⟩, fun y c e => ?_, I.free, I.freeC, fun p hp => ?_, fun b ob e => ?_, by simpa using I.len⟩
  · exact (hs.2 b (neL b o e)).trans (I.base.keep b o e n hb hx)
  · obtain ⟨sl, e1⟩ := I.base.slot b o e n hb hx
    exact ⟨sl, (hs.2 b (neL b o e)).trans e1⟩
  · obtain ⟨o', e1⟩ := I.base.there b o e hx
    exact ⟨o', (hs.2 b (neL b o e)).trans e1⟩
  · by_cases hj : j = i
    · subst hj
      by_cases hlt : j < σ.length
      · rw [List.getElem?_set_self hlt] at e2; cases e2
      · rw [List.getElem?_eq_none (by simpa using hlt)] at e2; cases e2
    · rw [List.getElem?_set_ne (Ne.symm hj)] at e2
      obtain ⟨u', r', q⟩ := hlk j y v' e1 e2 e3
      obtain ⟨u2, r2, q2⟩ := hlk2 j y v' e1 e2 e3
      rcases q with ⟨k, e⟩ | ⟨k, _⟩
      · have ny : y ≠ n := fun e => hj (nodup_ix hN e1 (e ▸ hi))
        exact ⟨u', r', .inl ⟨k, (if_neg ny).trans e⟩⟩
      · rcases q2 with ⟨k2, e⟩ | ⟨k2, c, e, z⟩
        · rcases k with k | k <;> rw [k2] at k <;> cases k
        · exact ⟨u2, r2, .inr ⟨k2, c, e, z.sameBut hs (I.cne y c e)⟩⟩
  · obtain ⟨w', z⟩ := I.cell y c e
    exact ⟨w', z.sameBut hs (I.cne y c e)⟩
  · obtain ⟨e, n, ne, nf, d⟩ := I.pin p hp
    exact ⟨(hs.2 p.1 ne).trans e, n, ne, nf, d⟩
  · refine (I.hok b ob e).stay (fun c w' hc q => (hs.2 c ?_).trans q) (fun _ q => q) fun _ _ q => q
    intro z
    subst z
    rcases hc with hc | hc
    · rw [← hc, I.free] at e; cases e
    · rw [I.free] at hc; cases hc
/-- the frame is noted -/
theorem note_held {M : Model} {A : Around} {E₁ : Value → Shared → Prop} {env : Env} {outer : List Env} {L a : Addr} {B : Heap} {cls : Value} {d : Option Addr} {Q : Unit → Shared → Prop} (hfr : A.frames = some (env :: outer)) (hf : env.frame = some L)
    (x : Sky B (env :: outer) a (Zc cls d) L s.heap) (hQ : ∀ h', HandSPX.HeldZ B (env :: outer) a (Zc cls d) L h' → s.heap.UpToSlots h' → Q () { s with heap := h' }) :
    wpAny M A (noteFrame (.ref a) env) Q E₁ s := by
  rcases x with ⟨hB, hn, hl, oe, vs, he, hz, hd, h1⟩ | fl | hh
  · exact HandSPX.look_newZ Zc.steady hfr hl hf he hB hn hd h1 hz hQ
  · exact HandSPX.looks_onZ Zc.steady hfr hf fl hQ
  · exact HandSPX.againZ hf hh.2.2.2 (hQ s.heap hh (Heap.UpToSlots.refl _))
/-- the context of a named suite that may raise -/
abbrev suiteE (X : Cx) (a : Addr) (pn : List (Addr × Obj)) (xe : Value → Shared → Prop) : Cx := { X with A := X.A.mark (some (.ref a)), calm := false, pn := pn, xe := xe }
theorem suiteE_of {a : Addr} {pn pn' : List (Addr × Obj)} {xe : Value → Shared → Prop} (I : Inv (X.suite a pn) pn' σ H s) : Inv (suiteE X a pn xe) pn' σ H s := I.wish xe
theorem suiteE_un {a : Addr} {pn pn' : List (Addr × Obj)} {xe : Value → Shared → Prop} (I : Inv (suiteE X a pn xe) pn' σ H s) : Inv (X.suite a pn) pn' σ H s := Inv.wish (X := suiteE X a pn xe) I (fun _ _ => False)
end
section
variable {X : Cx} {x n : Str} {c : Value} {i : Nat} {body suite : List Stmt} {b₀ : Stmt} {np pos pos' : Pos} {tb : WX → TS} {ts : Addr → Value → Option Addr → TS} {Wout : WX}
/-- what a named suite that may raise wishes of the body's exceptions -/
def wAsX (K : PySem.W.Frag) (c : Value) (i : Nat) (ts : Addr → Value → Option Addr → TS) (Wout : WX) (D : Ends) : WX := wAs K c i ts Wout D
theorem ps_try_asX (hs : X.stack = X.env :: X.outer) (hf : X.env.frame = some X.env.locals) (hN : X.N.Nodup) (hi : X.N[i]? = some n) (hln : X.env.kindOf n = some .local) (hc : Names X x c)
    (hpa : ∀ hd : Option Value, PassesOwnAt (model X.prog X.w) (X.A.mark hd) X.A X.env X.xe) (tk : L2.Takes X Wout)
    (hb : ∀ (W : WX) (pn : List (Addr × Obj)) (xe : Value → Shared → Prop), L2N.Takes (X.tr pn xe) W → PassesOwn (model X.prog X.w) X.A X.env xe → PSs (X.tr pn xe) body (tb W))
    (hsu : ∀ (a : Addr) (oe : Obj) (cls : Value) (d : Option Addr) (pn : List (Addr × Obj)) (xe : Value → Shared → Prop), L2N.Zn cls d oe → (∃ vs, oe.data = .fields vs) → PySem.W.exmOne X.K cls c = some true → L2.Takes (suiteE X a ((a, oe) :: pn) xe) (fun cls d σ H => Wout cls d (σ.set i none) H) → L2H.Hot1 (suiteE X a ((a, oe) :: pn) xe).A (a, oe) →
      PSs (suiteE X a ((a, oe) :: pn) xe) (b₀ :: suite) (ts a cls d)) :
    PS X (.Try body [.ExceptHandler (some (.Name x np)) (some n) (b₀ :: suite) pos'] [] [] pos) (fun D σ H => tb (wAs X.K c i ts Wout D) D σ H) := by
  refine ⟨fun pins s σ H D I h => ?_⟩
  have ok := I.ok
  have hfr : X.A.frames = some (X.env :: X.outer) := by rw [ok.frames, hs]
  have hloc : Loc X.env.scope n := .inl hln
  refine wpAny_Try_except ?_
  refine wpAny_mono ((hb (wAs X.K c i ts Wout D) (X.pn ++ pins) (fun e s₁ => wpAny (model X.prog X.w) X.A (noteFrame e X.env) (fun _ s₂ => wpAny (model X.prog X.w) X.A (setFlight e none) (fun _ s₃ =>
    wpAny (model X.prog X.w) X.A (handleBy e X.env [.ExceptHandler (some (.Name x np)) (some n) (b₀ :: suite) pos']) (SP X pins D) X.xe s₃) X.xe s₂) X.xe s₁) (fun u s' xx => ?_) PassesOwn.looking).run [] s σ H D (I.toTry _) h) (fun f s1 hsp => ?_) (fun e s1 he => he)
  · obtain ⟨a, B, sI, pins', σ', H', cls, d, rfl, J', nb, up, sky, na, os, ag, b, hb1, hyes, hno⟩ := xx
    have J : Inv X pins σ' H' sI := J'.ofTry ok
    have sky' : Sky B (X.env :: X.outer) a (L2N.Zn cls d) X.env.locals s'.heap := by rw [← hs]; exact sky
    show wpAny (model X.prog X.w) X.A (noteFrame (.ref a) X.env) _ _ _
    refine L2N.Sky.land L2N.Zn.steady hfr hf sky' fun h3 fl3 up3 => ?_
    have J3 : Inv X pins σ' H' { s' with heap := h3 } := J.landed nb fl3.1 (up.trans up3) os ag
    obtain ⟨oe3, vs3, he3, hz3, hd3⟩ := fl3.there
    have notFr : ∀ {B h : Heap} {a : Addr} {o : Obj} {vs : Array Value}, h.FunFrames B (X.env :: X.outer) → h.get? a = some o → o.data = .fields vs → a ∉ frs (X.env :: X.outer) := fun {B h a o vs} ff e dd hm => by
      obtain ⟨_, o', e', hnf⟩ := ff.mem hm
      rw [e] at e'; cases e'
      exact hnf _ dd
    have nfr := notFr fl3.2.2.1 he3 hd3
    have nL : a ≠ X.env.locals := fun z => nfr (List.mem_filterMap.mpr ⟨X.env, List.mem_cons_self, by rw [hf, z]⟩)
    have nF : a ∉ X.fs := fun hm => by
      obtain ⟨e, he, q⟩ := List.mem_filterMap.mp hm
      exact nfr (List.mem_filterMap.mpr ⟨e, List.mem_cons_of_mem _ he, q⟩)
    have S3 := J3.suite he3 hd3 na nL nF
    refine wpAny_handleBy_cons (codeAny_handlers_test ?_) (by intro q; cases q)
    have LT : PySem.W.Looks (model X.prog X.w) h3 (typeOf (.ref a)) cls := fun A Q E s k q => wpAny_typeOf_ref (k _ _ he3) (by rw [hz3.1]; exact q)
    have LM := PySem.W.exm_one (M := model X.prog X.w) (J3.kIn) LT hb1
    have test : ∀ {Q : Value → Shared → Prop} {E : Value → Shared → Prop}, Q c { s' with heap := h3 } → wpAny (model X.prog X.w) (X.A.mark (some (.ref a))) (eval (.Name x np) X.env) Q E { s' with heap := h3 } := fun {Q E} q => by
      obtain ⟨hg, hdbg, hm | ⟨hm, hv, hnn⟩⟩ := hc
      · exact ld_glob (X := X.suite a ((a, oe3) :: (X.pn ++ pins))) S3 hg hm q hdbg
      · exact ld_blt (X := X.suite a ((a, oe3) :: (X.pn ++ pins))) S3 hg hm hv q hnn hdbg
    refine test (LM.here ?_)
    cases b with
    | true =>
      refine codeAny_handlers_suite_as ?_
      refine HandSPX.lands_againZ fl3 fun h4 fl4 up4 => ?_
      have J4 : Inv X pins σ' H' { s' with heap := h4 } := J.landed nb fl4.1 ((up.trans up3).trans up4) os ag
      obtain ⟨oe4, vs4, he4, hz4, hd4⟩ := fl4.there
      have S4 := J4.suite he4 hd4 na nL nF
      refine store_ok (X := X.suite a ((a, oe4) :: (X.pn ++ pins))) (v := .ref a) S4 hN hi hloc rfl (fun s5 S5 => ?_) (.inr hln)
      have hot : L2H.Hot1 (suiteE X a ((a, oe4) :: (X.pn ++ pins)) (fun u s' => L2.XE (X.suite a ((a, oe4) :: (X.pn ++ pins))) (fun cls d σ H => Wout cls d (σ.set i none) H) u s')).A (a, oe4) := ⟨rfl, vs4, hd4, hz4.2.2 vs4 hd4⟩
      refine wpAny_mono ((hsu a oe4 cls d (X.pn ++ pins) (fun u s' => L2.XE (X.suite a ((a, oe4) :: (X.pn ++ pins))) (fun cls d σ H => Wout cls d (σ.set i none) H) u s') hz4 ⟨_, hd4⟩ hb1 (fun u2 s2 x2 => ?_) hot).run [] s5 _ H' _ (suiteE_of S5) (hyes rfl a na)) (fun f s6 hsp => ?_) (fun e6 s6 z => ?_)
      · obtain ⟨a2, B2, sI2, pn2, σ2, H2, cls2, d2, e2, I2, r⟩ := x2
        exact ⟨a2, B2, sI2, pn2, σ2, H2, cls2, d2, e2, suiteE_un I2, r⟩
      · have end_ : ∀ {σ6 : L2.St} {H6 : Hp} {Q : Shared → Prop}, Inv (X.suite a ((a, oe4) :: (X.pn ++ pins))) [] σ6 H6 s6 → (∀ s7, Inv X pins (σ6.set i none) H6 s7 → Q s7) →
            wpAny (model X.prog X.w) X.A (do bindName X.env n .none; unbindBehindTheSuite X.env n pos') (fun _ s7 => Q s7) X.xe s6 := fun {σ6 H6 Q} S6 hq => gone_ok (S6.unsuite ok) hN hi hln hq
        cases f with
        | next =>
          obtain ⟨σ6, H6, S6, q6⟩ := hsp
          exact end_ (suiteE_un S6) fun s7 J7 => ⟨_, _, J7, q6⟩
        | brk =>
          obtain ⟨σ6, H6, S6, q6⟩ := hsp
          exact end_ (suiteE_un S6) fun s7 J7 => ⟨_, _, J7, q6⟩
        | cont =>
          obtain ⟨σ6, H6, S6, q6⟩ := hsp
          exact end_ (suiteE_un S6) fun s7 J7 => ⟨_, _, J7, q6⟩
        | ret u =>
          obtain ⟨v6, σ6, H6, S6, r6, q6⟩ := hsp
          exact end_ (suiteE_un S6) fun s7 J7 => ⟨_, _, _, J7, r6, q6⟩
      · obtain ⟨a2, B2, sI2, pn2, σ2, H2, cls2, d2, rfl, I2, nb2, up2, sky2, na2, os2, ag2, w2⟩ := z
        have K2 : Inv X pins σ2 H2 sI2 := by
          exact ⟨ok, I2.os, I2.bare, I2.base, I2.loc, I2.cell, I2.free, I2.freeC, fun p hp => I2.pin p (List.mem_append_left _ (List.mem_cons_of_mem _ hp)), I2.hok, I2.len⟩
        have sky2' : Sky B2 (X.env :: X.outer) a2 (Zc cls2 d2) X.env.locals s6.heap := by rw [← hs]; exact sky2
        refine note_held (A := X.A.mark (some (.ref a))) hfr hf sky2' fun h7 hh7 up7 => ?_
        have K7 : Inv X pins σ2 H2 { s6 with heap := h7 } := K2.landed nb2 hh7.1 (up2.trans up7) os2 ag2
        refine gone_okF K7 hN hi hln fun h8 t8 m8 v8 K8 same hn8 hlk8 => ?_
        obtain ⟨G, KG, gL, gO⟩ := gone_inv K2 hN hi hn8 hlk8
        have inL : X.env.locals ∈ frs (X.env :: X.outer) := List.mem_filterMap.mpr ⟨X.env, List.mem_cons_self, hf⟩
        have inL' : X.env.locals ∈ frs X.stack := by rw [hs]; exact inL
        have BL : B2.get? X.env.locals = none := (hh7.2.2.1.mem inL).1
        have st8 : B2.StaysIn h8 := fun b o e => by
          rw [same.2 b (fun z => by rw [z, BL] at e; cases e)]
          exact hh7.1 b o e
        have ff8 : h8.FunFrames B2 (X.env :: X.outer) := by
          have q := K8.stack
          rw [hs] at q
          exact funFrames_none q fun L hL => (hh7.2.2.1.mem hL).1
        have tr8 : HandSPX.TracedZ h8 B2 a2 (Zc cls2 d2) (rawInt X.env.locals) := by
          obtain ⟨oe, vs, T, oT, ts', he, hz, hd, h1, hnT, hTe, hT, hdT, h3'⟩ := hh7.2.2.2
          have n1 : a2 ≠ X.env.locals := fun z => notFr hh7.2.2.1 he hd (z ▸ inL)
          have n2 : T ≠ X.env.locals := fun z => notFr hh7.2.2.1 hT hdT (z ▸ inL)
          exact ⟨oe, vs, T, oT, ts', (same.2 _ n1).trans he, hz, hd, h1, hnT, hTe, (same.2 _ n2).trans hT, hdT, h3'⟩
        have up8 : G.UpToSlots h8 := fun b o e hnf => by
          by_cases z : b = X.env.locals
          · subst z
            rw [gL] at e
            exact ⟨o.slots, e⟩
          · rw [gO b z] at e
            obtain ⟨sl, q⟩ := (up2.trans up7) b o e hnf
            exact ⟨sl, (same.2 b z).trans q⟩
        obtain ⟨oe, vs, T, oT, ts', he, hz, hd, h1, hr⟩ := id tr8
        unfold PySem.passOn
        refine wpAny_bind (wpAny_field he hd h1 ?_)
        rw [if_neg (show ¬ ((Value.ref T == Value.none) = true) from by simp)]
        have fin : ∀ {Q : Flow → Shared → Prop} {E : Value → Shared → Prop}, (∀ s', X.xe (.ref a2) s' → E (.ref a2) s') → wpAny (model X.prog X.w) (X.A.mark (some (.ref a))) (setFlight (.ref a2) X.env.frame) (fun _ s4 => wpAny (model X.prog X.w) (X.A.mark (some (.ref a))) (throw (.ref a2) : Sem Flow) Q E s4) E { s6 with heap := h8, toks := t8 } := fun {Q E} hE => by
          rw [hf]
          refine HandSPX.setFlight_anyZ (s := { s6 with heap := h8, toks := t8 }) st8 ff8 tr8 fun h9 g1 g2 g3 g4 => wpAny_throw (hE _ (tk _ _ ?_))
          exact ⟨a2, B2, { sI2 with heap := G }, pins, σ2.set i none, H2, cls2, d2, rfl, KG, fun b o e hb => nb2 b o (by rw [← gO b (fun z => hb (z ▸ inL'))]; exact e) hb, up8.trans g4, .inr (.inr (by rw [hs]; exact ⟨g1, hh7.2.1, g2, g3⟩)), na2, os2, ag2, w2⟩
        first
          | exact wpAny_bind (wpAny_pure (wpAny_bind (fin fun s' z => hpa (some (.ref a)) _ s' z)))
          | exact wpAny_bind (fin fun s' z => hpa (some (.ref a)) _ s' z)
    | false =>
      show wpAny _ X.A (handleBy (.ref a) X.env []) _ _ _
      refine wpAny_handleBy_nil ?_
      obtain ⟨k1, k2, k3, oe, vs, T, oT, ts', he, hz, hd, h1, hr⟩ := id fl3
      unfold PySem.passOn
      refine wpAny_bind (wpAny_field he hd h1 ?_)
      rw [if_neg (show ¬ ((Value.ref T == Value.none) = true) from by simp)]
      have fin : wpAny (model X.prog X.w) X.A (setFlight (.ref a) X.env.frame) (fun _ s4 => wpAny (model X.prog X.w) X.A (throw (.ref a) : Sem Flow) (SP X pins D) X.xe s4) X.xe { s' with heap := h3 } := by
        rw [hf]
        refine HandSPX.setFlight_upZ fl3 fun h4 hh4 up4 => wpAny_throw (tk _ _ ?_)
        exact ⟨a, B, sI, pins, σ', H', cls, d, rfl, J, nb, (up.trans up3).trans up4, .inr (.inr (by rw [hs]; exact ⟨hh4.1, hh4.2.1, hh4.2.2.1, L2H.tracedZ_imp (fun o z => z.zc) hh4.2.2.2⟩)), na, os, ag, hno rfl⟩
      first
        | exact wpAny_bind (wpAny_pure (wpAny_bind fin))
        | exact wpAny_bind fin
  · cases f with
    | next =>
      obtain ⟨σ', H', J', q⟩ := hsp
      exact wpAny_execs_nil ⟨σ', H', J'.ofTry ok, q⟩
    | brk =>
      obtain ⟨σ', H', J', q⟩ := hsp
      exact ⟨σ', H', J'.ofTry ok, q⟩
    | cont =>
      obtain ⟨σ', H', J', q⟩ := hsp
      exact ⟨σ', H', J'.ofTry ok, q⟩
    | ret u =>
      obtain ⟨v, σ', H', J', r, q⟩ := hsp
      exact ⟨v, σ', H', J'.ofTry ok, r, q⟩
end
end Sx
end
/-! Sx34: try: .. except X as e: raise Y(e.lot) from e. -/
noncomputable section
namespace Sx
open PySem PySem.Spec
open PyProof.Rows L2
section
variable {P : Program} {w : World} {K : PySem.W.Frag} {mg : Str → Option Value} {base : Heap} {x qual : Str} {params : Arguments} {body : List Stmt} {scope : Scope} {dvs : List V} {kws : List (Str × V)} {f : Addr} {fd : FuncData}
theorem okH {CX : CXT} {N ps : List Str} {k : Nat} {sp : Sp} (F : FunD K x qual params body scope dvs kws f fd) (S : FnScope N ps scope) (len : ∀ vs H Q E, sp vs H Q E → vs.length = ps.length)
    (hbody : ∀ (cdv : Value) (A : Around) (outer : List Env) (s : Shared) (H : Hp) (vs : List V) (Q : VK) (E : XK) (p : Addr × Obj), L2H.Hot1 A p → L2H.RoomH k (A.deeper (envOfC qual scope s.heap.objs.size f cdv)) → sp vs H Q E →
      ∃ t, PSs (L2H.cxH CX P w K mg base N qual scope f cdv A outer s H E p) body t ∧ t { nx := fun _ H' => Q .non H', rt := Q } (L2.start N vs) H) : L2H.FnH P w K mg base CX (k + 1) f fd ps sp := by
  obtain ⟨oc, od, dV, kV, doc, pm, an, cdv, ct, osl, rfl, lk, hcd, _, _⟩ := F.ex
  exact L2H.fn_ofH lk hcd S len fun A outer s H vs Q E p hot hr hsp => hbody cdv A outer s H vs Q E p hot hr hsp
end
section
variable {X : Cx} {CX : CXT} {k : Nat} {f C : Addr} {fd : FuncData} {ps : List Str} {sp : Sp} {E : L2.St → XK} {x m : Str} {p1 p2 pos : Pos} {e : Expr} {es : List Expr} {t : TA}
theorem pe_cfnH {pl : Sem Bool} (T : CFn X.K C f m) (F : L2H.FnH X.prog X.w X.K X.mg X.base CX k f fd ps sp) (hr : L2H.RoomH k X.A) (hc : L2H.HotC X) (hg : Gl X x) (hm : X.mg x = some (.ref C)) (hb : Binds X.K fd ps []) (hx : ∀ σ, PassesAt CX X σ (E σ)) (ha : PA X (e :: es) t)
    (hdb : (x == ("__debug__" : Str)) = false := by decide) (he : starEach (e :: es) X.env = (false, eval e X.env) :: starEach es X.env := by rfl) (hpl : (backTo pos (starEach es X.env)).any (·.1) = false := by rfl)
    (hcc : eval (.Call (.Attribute (.Name x p1) m p2) (e :: es) [] pos) X.env = (do
      let c ← eval (.Name x p1) X.env
      standAt p2.atName
      let (g, l) ← holding [c] (getMethod c m pl)
      callWith pos g l (backTo pos (starEach (e :: es) X.env)) (backToKw pos (keywordEach [] X.env))) := by rfl) :
    PE X (.Call (.Attribute (.Name x p1) m p2) (e :: es) [] pos) (tCallS sp E t) := ⟨fun pins s τ H Q I h => by
  refine PySem.W.methodCall_KW (ld_glob I hg hm ?_ hdb) hcc
  obtain ⟨mm, fr⟩ := I.fr
  refine PySem.W.method_of_cls fr I.ok.mod.kin T.ga (PySem.W.cls_val fr I.ok.mod.kin T.ty T.rd T.fd rfl ?_)
  refine PySem.W.callWith_K (h₀ := X.base) I.ok.mod.kin T.kf (thn (ha.run pos pins _ τ H _ (I.tok _) h) fun us s1 ⟨vs, H1, I1, r, q⟩ => ⟨I1.kIn, ?_⟩) he hpl
  exact L2H.run_fnH F hr hc hb (hx τ) I1 r q⟩
end
/-- a refusal with a list, made while another one is handled -/
structure XDlH (P : Program) (w : World) (K : PySem.W.Frag) (mg : Str → Option Value) (base : Heap) (L : Lay) (x : Str) (c k : Nat) (word y : Str) : Prop where
  ex : ∃ fI fd ps, OexC K (L.C c) ∧ PySem.W.findIn K (.ref (L.C c)) "__init__" = some (some (.ref fI)) ∧ PySem.W.typeIn K (.ref fI) = some (.type "function") ∧ L2H.FnH P w K mg base (L2.CX P w) k fI fd ps (spXL K word y) ∧ Binds K fd ps []
  no : ∀ f ∈ wordS :: [y], PySem.W.findIn K (.ref (L.C c)) f = some none
  att : L.att c = wordS :: [y]
  nd : (wordS :: [y]).Nodup
  gl : mg x = some (.ref (L.C c))
section
variable {X : Cx} {L : Lay} {W : WX} {T0 : ExTab}
theorem lot_made {P : Program} {w : World} {mg : Str → Option Value} {base : Heap} {x : Str} {c k : Nat} {word y : Str} {ι1 : List Addr} {S1 : Sto} {H1 : Hp} {σ : Sg} {τ : L2.St} {n : Nat} {v : V} {ys : List VV} {D : Ends} (T : XDlH P w X.K mg base L x c k word y) (hC : OexC X.K (L.C c))
    (r1 : Rep L ι1 S1 H1) (s1 : RS L ι1 H1 σ τ) (rv : RV L ι1 H1 (.ref n) v) (e1 : S1[n]? = some (.lst ys)) (o1 : OutS L W ι1 H1 (.exc (S1.length + 1) σ (S1 ++ [.lst ys, .xd c [.str word, .ref S1.length]])) D) (a' : Addr) (hn : H1 a' = none) :
    spXL X.K word y (.ref a' :: ([v] ++ [])) (upd H1 a' (exo a' (L.C c) none)) (fun v H2 => v = .non ∧ ∃ (d : Addr) (fs : List (Str × V)), H2 a' = some (exo a' (L.C c) (some d)) ∧ H2 d = some (exd d fs) ∧ H1 d = none ∧ W (.ref (L.C c)) (some d) τ (upd (del H2 a') d (.xd fs))) (fun _ _ _ => False) := by
  obtain ⟨q, us, rfl, hq, h3, h4⟩ := r1.lst rv e1
  have hqa : q ≠ a' := fun z => by rw [z, hn] at h3; cases h3
  refine ⟨a', L.C c, q, us, rfl, hC, T.no _ List.mem_cons_self, T.no _ (List.mem_cons_of_mem _ List.mem_cons_self), upd_same, SqL.of (by rw [upd_ne hqa]; exact h3), hqa, fun H' d p' hpa hp xd => ?_⟩
  rw [upd_ne hpa] at hp
  have hdn := xd.dn
  have hpd : d ≠ p' := fun z => by rw [z, upd_same] at hdn; cases hdn
  rw [upd_ne hpd, upd_ne xd.ne] at hdn
  have hh : upd (del H' a') d (.xd [(y, .ref p'), ("word", .str word)]) = upd (upd H1 p' (.lst us)) d (.xd [(y, .ref p'), ("word", .str word)]) := funext fun b => by
    by_cases h1 : b = d
    · subst h1
      rw [upd_same, upd_same]
    · rw [upd_ne h1, upd_ne h1]
      by_cases h2 : b = a'
      · subst h2
        rw [del_same, upd_ne (Ne.symm hpa), hn]
      · rw [del_ne h2, xd.rest b h2 h1]
        by_cases h5 : b = p'
        · subst h5
          rw [upd_same, upd_same]
        · rw [upd_ne h5, upd_ne h5, upd_ne h2]
  refine ⟨rfl, d, _, xd.oa, xd.od, hdn, ?_⟩
  rw [hh]
  have x1 : Ext ι1 H1 (ι1 ++ [p']) (upd H1 p' (.lst us)) := Rep.newExt hp
  have rp1 := r1.new hp (o := .lst ys) (u := .lst us) ⟨us, rfl, h4.mono x1⟩
  have hd1 : upd H1 p' (.lst us) d = none := by rw [upd_ne hpd]; exact hdn
  have x2 : Ext (ι1 ++ [p']) (upd H1 p' (.lst us)) (ι1 ++ [p'] ++ [d]) (upd (upd H1 p' (.lst us)) d (.xd [(y, .ref p'), ("word", .str word)])) := Rep.newExt hd1
  have rp2 := rp1.new hd1 (o := .xd c [.str word, .ref S1.length]) (u := .xd [(y, .ref p'), ("word", .str word)]) ⟨_, rfl, fun i u f e1 e2 => by
    rw [T.att] at e2
    have hyw : wordS ≠ y := by
      have := T.nd
      rw [List.nodup_cons] at this
      exact fun z => this.1 (by rw [z]; exact List.mem_singleton_self _)
    match i with
    | 0 =>
      cases e1
      cases e2
      refine ⟨.str word, ?_, .str _⟩
      rw [List.lookup_cons, beq_false_of_ne hyw, List.lookup_cons, beq_self_eq_true]
    | 1 =>
      cases e1
      cases e2
      exact ⟨.ref p', by rw [List.lookup_cons, beq_self_eq_true], (r1.newRef (H' := upd H1 p' (.lst us))).mono x2⟩
    | i + 2 => cases e1⟩
  have o2 : OutS L W ι1 H1 (.exc (S1.length + 1) σ (S1 ++ [.lst ys, .xd c [.str word, .ref S1.length]])) D := o1
  rw [show S1 ++ [OO.lst ys, .xd c [.str word, .ref S1.length]] = S1 ++ [.lst ys] ++ [.xd c [.str word, .ref S1.length]] from by simp] at o2
  refine o2 _ _ τ _ _ (x1.trans x2) rp2 (s1.mono (x1.trans x2)) ⟨c, [.str word, .ref S1.length], d, ?_, rfl, rfl, ?_⟩
  · have := get_last (S := S1 ++ [OO.lst ys]) (o := .xd c [.str word, .ref S1.length])
    rwa [List.length_append] at this
  · have hl : (ι1 ++ [p']).length = S1.length + 1 := by rw [List.length_append, r1.len]; rfl
    rw [← hl, List.getElem?_append_right (Nat.le_refl _), Nat.sub_self]
    rfl
/-- what a suite that raises knows -/
def rdSxH (L : Lay) (T : ExTab) (W : WX) (h i : Nat) (sm : Nat → SM) (a : Addr) (cls : Value) (d : Option Addr) : TS := fun D τ H => ∃ (ι : List Addr) (S : Sto) (σ : Sg) (n c : Nat) (fs : List VV) (dd : Addr), Rep L ι S H ∧ RS L ι H σ τ ∧ S[n]? = some (.xd c fs) ∧ cls = .ref (L.C c) ∧ d = some dd ∧ ι[n]? = some dd ∧
  exIs T c h = some true ∧ τ[i]? = some (some (.ref a)) ∧ OutS L W ι H (sm n σ S) D
/-- raise Y(e.lot) from e -/
def mHotL (c : Nat) (word : Str) (j : Nat) (n : Nat) : SM := fun σ S => match (xdAt S n).bind fun fs => fs[j]? with
  | some x => match refL S x with
    | some ys => .exc (S.length + 1) σ (S ++ [.lst ys, .xd c [.str word, .ref S.length]])
    | none => .fail
  | none => .fail
theorem pe_suiteE {a : Addr} {pn : List (Addr × Obj)} {xe : Value → Shared → Prop} {e : Expr} {t : TE} (he : PE (X.suite a pn) e t) : PE (suiteE X a pn xe) e t :=
  ⟨fun pins s σ H Q I h => wpAny_mono (he.run pins s σ H Q (suiteE_un I) h) (fun u s' ⟨v, H1, I1, r, q⟩ => ⟨v, H1, suiteE_of I1, r, q⟩) fun _ _ z => z.elim⟩
theorem su_hot {c k j jj h i : Nat} {word y x n : Str} {p pos cpos pos' : Pos} {e : Expr} {a : Addr} {oe : Obj} {cls : Value} {d : Option Addr} {pn : List (Addr × Obj)} {xe : Value → Shared → Prop} (T : XDlH X.prog X.w X.K X.mg X.base L x c k word y) (hr : Room j X.A) (hR : ∀ c', exIs T0 c' h = some true → OexC X.K (L.C c'))
    (hz : L2N.Zn cls d oe) (hw : ∃ vs, oe.data = .fields vs) (tk : L2.Takes (suiteE X a ((a, oe) :: pn) xe) W) (hot : L2H.Hot1 (suiteE X a ((a, oe) :: pn) xe).A (a, oe)) (hp : PartOk X L T0 h i e (.fld jj)) (hN : X.N[i]? = some n) (hv : Vis X.env.scope n)
    (hkj : k + 1 ≤ j := by decide) (hg : Gl X x := by rfl) (hdb : (x == ("__debug__" : Str)) = false := by decide) (he : starEach [e] X.env = (false, eval e X.env) :: starEach [] X.env := by rfl) (hpl : (backTo pos (starEach [] X.env)).any (·.1) = false := by rfl)
    (hd : (n == ("__debug__" : Str)) = false := by decide) (hcd : (n == ("__classdict__" : Str)) = false := by decide) :
    PSs (suiteE X a ((a, oe) :: pn) xe) [.Raise (some (.Call (.Name x p) [e] [] pos)) (some (.Name n cpos)) pos'] (rdSxH L T0 W h i (mHotL c word jj) a cls d) := by
  obtain ⟨fI, fd, ps, hC, iC, tI, F1, hb⟩ := T.ex
  refine ⟨fun pins s τ H D I ⟨ι, S, σ, nn, c', fs, dd, rp', rs, e1, e2, e3, e4, e5, e6, o⟩ => ?_⟩
  have o1 : OutS L W ι H (match (xdAt S nn).bind fun fs => fs[jj]? with
    | some x => match refL S x with
      | some ys => .exc (S.length + 1) σ (S ++ [.lst ys, .xd c [.str word, .ref S.length]])
      | none => .fail
    | none => .fail) D := o
  have ex : xdAt S nn = some fs := by unfold xdAt; rw [e1]
  rw [ex] at o1
  cases e7 : fs[jj]? with
  | none =>
    rw [show ((some fs : Option (List VV)).bind fun fs => fs[jj]?) = fs[jj]? from rfl, e7] at o1
    exact o1.elim
  | some z =>
    rw [show ((some fs : Option (List VV)).bind fun fs => fs[jj]?) = fs[jj]? from rfl, e7] at o1
    dsimp only at o1
    cases z with
    | ref r =>
      have e0 : refL S (.ref r) = (S[r]?).bind lstI := rfl
      cases e8 : S[r]? with
      | none => rw [e0, e8] at o1; exact o1.elim
      | some ob =>
        cases ob with
        | lst ys =>
          rw [e0, e8] at o1
          have o2 : OutS L W ι H (.exc (S.length + 1) σ (S ++ [.lst ys, .xd c [.str word, .ref S.length]])) D := o1
          have rp : Raises X oe.cls := by
            rw [hz.1, e2]
            exact raises_own (hR c' e5).exC (hR c' e5).tyC
          refine (pss_one (ps_raiseHF (X := suiteE X a ((a, oe) :: pn) xe) (W := W) hot List.mem_cons_self rp hN hv tk (L2H.pmk5_oexH (X := suiteE X a ((a, oe) :: pn) xe) hC iC tI F1 ((L2H.roomH_mark hr _).mono hkj) ⟨(a, oe), hot, List.mem_cons_self⟩ hb (fun pins σ H s e s' I h => passAt takes0 σ pins H s e s' I h) hg T.gl (pa_cons (pe_suiteE (hp a oe cls d pn hz.zc hw c' e2 e5)) pa_nil he) hdb he hpl) hd hcd)).run pins s τ H D I ⟨e6, ?_⟩
          refine ⟨ι, S, nn, fs, dd, .ref r, rp', e1, e3, e4, e6, e7, fun v rv => ⟨by simp, fun a' hn => ?_⟩⟩
          exact lot_made T hC rp' rs rv e8 o2 a' hn
        | _ => rw [e0, e8] at o1; exact o1.elim
    | _ => exact o1.elim
def goneX (i : Nat) : SR → SR
  | .nx σ S => .nx (σ.set i none) S
  | .rt v S => .rt v S
  | .bk σ S => .bk (σ.set i none) S
  | .ct σ S => .ct (σ.set i none) S
  | .exc n σ S => .exc n (σ.set i none) S
  | .fail => .fail
def hotSR (T : ExTab) (h i : Nat) (sm : Nat → SM) (n : Nat) (σ : Sg) (S : Sto) : SR := match (clsAt S n).bind fun c => exIs T c h with
  | some true => if i < σ.length then goneX i (sm n (σ.set i none) S) else .fail
  | some false => .exc n σ S
  | none => .fail
/-- try: b / except X as e: sm -/
def mTryH (T : ExTab) (h i : Nat) (sm : Nat → SM) (b : SM) : SM := fun σ S => match b σ S with
  | .exc n σ1 S1 => hotSR T h i sm n σ1 S1
  | r => r
theorem goneX_out {ι : List Addr} {H : Hp} {r : SR} {D : Ends} {i : Nat} (h : OutS L W ι H (goneX i r) D) : OutS L (fun cls d σ H => W cls d (σ.set i none) H) ι H r (gone1 D i) := by
  cases r with
  | nx σ S => exact fun ι1 H1 τ ex r1 s1 => h ι1 H1 _ ex r1 (s1.bothNone i)
  | rt v S => exact h
  | bk σ S => exact fun ι1 H1 τ ex r1 s1 => h ι1 H1 _ ex r1 (s1.bothNone i)
  | ct σ S => exact fun ι1 H1 τ ex r1 s1 => h ι1 H1 _ ex r1 (s1.bothNone i)
  | exc n σ S => exact fun ι1 H1 τ c d ex r1 s1 x1 => h ι1 H1 _ c d ex r1 (s1.bothNone i) x1
  | fail => exact h.elim
theorem ms_tryH {body : List Stmt} {x n : Str} {h i : Nat} {b0 : Stmt} {bs : List Stmt} {sm : Nat → SM} {np pos pos' : Pos} {b : SM} (st : X.stack = X.env :: X.outer) (fr : X.env.frame = some X.env.locals) (nd : X.N.Nodup) (tk : L2.Takes X W)
    (hpa : ∀ hd : Option Value, PassesOwnAt (model X.prog X.w) (X.A.mark hd) X.A X.env X.xe) (hi : X.N[i]? = some n) (hln : X.env.kindOf n = some .local) (hc : Names X x (.ref (L.C h))) (ex : ∀ c b, exIs T0 c h = some b → PySem.W.exmOne X.K (.ref (L.C c)) (.ref (L.C h)) = some b)
    (hb : ∀ (W : WX) (pn : List (Addr × Obj)) (xe : Value → Shared → Prop), L2N.Takes (X.tr pn xe) W → PassesOwn (model X.prog X.w) X.A X.env xe → MSs (X.tr pn xe) L W body b)
    (hsu : ∀ (a : Addr) (oe : Obj) (cls : Value) (d : Option Addr) (pn : List (Addr × Obj)) (xe : Value → Shared → Prop), L2N.Zn cls d oe → (∃ vs, oe.data = .fields vs) → L2.Takes (suiteE X a ((a, oe) :: pn) xe) (fun cls d σ H => W cls d (σ.set i none) H) → L2H.Hot1 (suiteE X a ((a, oe) :: pn) xe).A (a, oe) →
      PSs (suiteE X a ((a, oe) :: pn) xe) (b0 :: bs) (rdSxH L T0 (fun cls d σ H => W cls d (σ.set i none) H) h i sm a cls d)) :
    MS X L W (.Try body [.ExceptHandler (some (.Name x np)) (some n) (b0 :: bs) pos'] [] [] pos) (mTryH T0 h i sm b) := by
  refine PS.wk (ps_try_asX (tb := fun W => rdS L W b) (Wout := W) st fr nd hi hln hc hpa tk hb fun a oe cls d pn xe hz hw _ tk2 hot => hsu a oe cls d pn xe hz hw tk2 hot) fun D τ H ⟨ι, S, σ, rp, rs, o⟩ => ⟨ι, S, σ, rp, rs, ?_⟩
  have o1 : OutS L W ι H (match b σ S with
    | .exc n σ1 S1 => hotSR T0 h i sm n σ1 S1
    | r => r) D := o
  cases e : b σ S with
  | nx σ S => rw [e] at o1; exact o1
  | rt v S => rw [e] at o1; exact o1
  | bk σ S => rw [e] at o1; exact o1
  | ct σ S => rw [e] at o1; exact o1
  | fail => rw [e] at o1; exact o1.elim
  | exc m σ1 S1 =>
    rw [e] at o1
    intro ι1 H1 τ1 cls d ext r1 s1 x1
    have o2 : OutS L W ι1 H1 (hotSR T0 h i sm m σ1 S1) D := OutS.mono ext o1
    obtain ⟨c, fs, dd, e1, e2, e3, e4⟩ := x1
    have ec : clsAt S1 m = some c := by unfold clsAt; rw [e1]
    unfold hotSR at o2
    rw [ec] at o2
    have o3 : OutS L W ι1 H1 (match exIs T0 c h with
      | some true => if i < σ1.length then goneX i (sm m (σ1.set i none) S1) else .fail
      | some false => .exc m σ1 S1
      | none => .fail) D := o2
    cases e5 : exIs T0 c h with
    | none => rw [e5] at o3; exact o3.elim
    | some bb =>
      rw [e5] at o3
      refine ⟨bb, by rw [e2]; exact ex c bb e5, fun hb' a na => ?_, fun hb' => ?_⟩
      · subst hb'
        dsimp only at o3
        by_cases hf : i < σ1.length
        · rw [if_pos hf] at o3
          refine ⟨ι1, S1, σ1.set i none, m, c, fs, dd, r1, s1.gone i, e1, e2, e3, e4, e5, List.getElem?_set_self (by rw [← s1.len]; exact hf), goneX_out o3⟩
        · rw [if_neg hf] at o3
          exact o3.elim
      · subst hb'
        exact o3 ι1 H1 τ1 cls d (Ext.refl _ _) r1 s1 ⟨c, fs, dd, e1, e2, e3, e4⟩
end
end Sx
end
/-! Sx35: defs whose exceptions have no context. -/
noncomputable section
namespace Sx
open PySem PySem.Spec
open PyProof.Rows L2
theorem cxN_imp {P : Program} {w : World} {outer : List Env} {H : Hp} {s s' : Shared} {E : XK} {u : Value} (h : L2N.CX P w outer H s E u s') : L2.CX P w outer H s E u s' := by
  obtain ⟨a, B, H', cls, d, e, fl, r⟩ := h
  exact ⟨a, B, H', cls, d, e, L2H.flyingZ_imp (fun o z => z.zc) fl, r⟩
theorem fnN_weak {P : Program} {w : World} {K : PySem.W.Frag} {mg : Str → Option Value} {base : Heap} {k : Nat} {f : Addr} {fd : FuncData} {ps : List Str} {sp : Sp} (F : FnOk P w K mg base (L2N.CX P w) k f fd ps sp) : FnOk P w K mg base (L2.CX P w) k f fd ps sp := by
  refine ⟨F.len, fun A outer s H args us vs Q E hr e0 hb r hsp => codeAny_mono (F.run A outer s H args us vs Q E hr e0 hb r hsp) fun r s' h => ?_⟩
  cases r with
  | error e => exact cxN_imp h
  | ok fl => cases fl <;> exact h
theorem takesN {X : Cx} {W : WX} (t : L2.Takes X W) : L2N.Takes X W := fun u s' ⟨a, B, sI, pins, σ, H, cls, d, e, I, nb, up, sky, r⟩ => by
  refine t u s' ⟨a, B, sI, pins, σ, H, cls, d, e, I, nb, up, ?_, r⟩
  rcases sky with ⟨hB, hn, hl, oe, vs, he, hz, hd, h1⟩ | fl | hh
  · exact .inl ⟨hB, hn, hl, oe, vs, he, hz.zc, hd, h1⟩
  · exact .inr (.inl (L2H.flyingZ_imp (fun o z => z.zc) fl))
  · exact .inr (.inr ⟨hh.1, hh.2.1, hh.2.2.1, L2H.tracedZ_imp (fun o z => z.zc) hh.2.2.2⟩)
section
variable {X : Cx} {CX : CXT} {C fI : Addr} {k : Nat} {fd : FuncData} {ps : List Str} {sp : Sp}
/-- X(), its context None -/
theorem pmkN_x0 {x : Str} {p pos : Pos} (T : OexC X.K C) (iC : PySem.W.findIn X.K (.ref C) "__init__" = some (some (.ref fI))) (tI : PySem.W.typeIn X.K (.ref fI) = some (.type "function"))
    (F1 : FnOk X.prog X.w X.K X.mg X.base CX k fI fd ps sp) (hr : Room (k + 1) X.A) (hb : Binds X.K fd ps []) (hx : Passes CX X (fun _ _ _ => False)) (hg : Gl X x) (hm : X.mg x = some (.ref C)) (hdb : (x == ("__debug__" : Str)) = false := by decide) :
    L2N.PMk X (.Call (.Name x p) [] [] pos) (tMkO C sp [] tNil) := by
  intro pins s0 τ H0 Q I0 goal
  obtain ⟨nm, qn, ns, bs, bm, sn, sub, ab, col, dd, k0, k1, k2, k3, k5, isC, refs⟩ := T.cls
  refine wpAny_Call_Name_kw (ld_glob I0 hg hm ?_ hdb)
  refine PySem.W.callWith_K0 I0.kIn T.kC ?_
  obtain ⟨hp, gn, dr, tk, os⟩ := s0
  obtain ⟨_, ask⟩ := goal
  have le1 : hp.objs.size ≤ hp.objs.size + 1 := Nat.le_succ _
  have fresh : H0 (hp.objs.size + 1) = none := I0.hok.fresh le1
  have prom := ask _ fresh
  have stays : ∀ b o, hp.get? b = some o → ((hp.push (PySem.W.kdv_tup [])).push (PySem.HandSPX.excO C hp.objs.size)).get? b = some o := fun b o e => Heap.get?_push_of_some _ (Heap.get?_push_of_some _ e)
  have lies : ((hp.push (PySem.W.kdv_tup [])).push (PySem.HandSPX.excO C hp.objs.size)).get? (hp.objs.size + 1) = some (PySem.HandSPX.excO C hp.objs.size) := by heap_get
  have I2 := I0.laid (t' := tk) (a := hp.objs.size + 1) (o := exo (hp.objs.size + 1) C none) (h' := (hp.push (PySem.W.kdv_tup [])).push (PySem.HandSPX.excO C hp.objs.size)) stays le1 (exo_ok lies)
  have rel : Vals [V.ref (hp.objs.size + 1)] [Value.ref (hp.objs.size + 1)] := .cons rfl .nil
  have few : ([Value.ref (hp.objs.size + 1)] ++ []).length = ps.length := (F1.len _ _ _ _ prom)
  have run := F1.run _ X.stack _ _ ⟨[Value.ref (hp.objs.size + 1)], []⟩ [Value.ref (hp.objs.size + 1)] _ _ (fun _ _ _ => False) (hr.make C [] []) (I2.env0.make C [] []) (hb _ [Value.ref (hp.objs.size + 1)] I2.kIn few) rel prom
  refine wpAny_call (PySem.HandSPX.call_own F.excBase_ValueError (fun Y => PySem.HandSPX.refsVE_contains Y bm refs) (I0.kIn _ _ isC) (PySem.W.looks_findIn I0.kIn iC) (fun me => PySem.W.bind_fn I0.kIn me tI) (Nat.zero_le _) (codeAny_mono run fun r s' done => ?_))
  match r, done with
  | .error er, done => exact hx pins τ _ _ er s' I2 done
  | .ok (.ret u), done =>
    obtain ⟨v, H2, os2, bare2, un2, hok2, rv, ev, d, fs, ea, ed, hd1, q2⟩ := done
    subst ev
    obtain ⟨h2, g2, d2, t2, os'⟩ := s'
    obtain ⟨t0, G, J, kG, ge, hoe, na⟩ := mk_end0 (d2 := d2) (t2 := t2) I0 le1 stays un2 hok2 os2 bare2 ea ed hd1
    exact ⟨rv, hp.objs.size + 1, _, _, ⟨G, g2, d2, t2, os'⟩, _, .ref C, some d, rfl, J, kG, ge, hoe, ⟨rfl, rfl, fun vs hv => by cases hv; rfl⟩, rfl, rfl, na, rfl, bare2, raises_own T.exC T.tyC, q2⟩
  | .ok .next, done => exact done.elim
  | .ok .brk, done => exact done.elim
  | .ok .cont, done => exact done.elim
/-- X(e, ..), its context None -/
theorem pmkN_oex {x : Str} {e : Expr} {es : List Expr} {ta : TA} {p pos : Pos} (T : OexC X.K C) (iC : PySem.W.findIn X.K (.ref C) "__init__" = some (some (.ref fI))) (tI : PySem.W.typeIn X.K (.ref fI) = some (.type "function"))
    (F1 : FnOk X.prog X.w X.K X.mg X.base CX k fI fd ps sp) (hr : Room (k + 1) X.A) (hb : Binds X.K fd ps []) (hx : Passes CX X (fun _ _ _ => False)) (hg : Gl X x) (hm : X.mg x = some (.ref C)) (ha : PA X (e :: es) ta)
    (hdb : (x == ("__debug__" : Str)) = false := by decide) (he : starEach (e :: es) X.env = (false, eval e X.env) :: starEach es X.env := by rfl) (hpl : (backTo pos (starEach es X.env)).any (·.1) = false := by rfl) :
    L2N.PMk X (.Call (.Name x p) (e :: es) [] pos) (tMkO C sp [] ta) := by
  intro pins s0 τ H0 Q I0 goal
  obtain ⟨nm, qn, ns, bs, bm, sn, sub, ab, col, dd, k0, k1, k2, k3, k5, isC, refs⟩ := T.cls
  refine wpAny_Call_Name_kw (ld_glob I0 hg hm ?_ hdb)
  refine PySem.W.callWith_K (h₀ := X.base) I0.ok.mod.kin T.kC (thn (ha.run pos pins s0 τ H0 _ I0 goal) fun us s1 ⟨vs, H1, I1, vals, many, ask⟩ => ⟨I1.kIn, ?_⟩) he hpl
  show wpAny _ _ (call (.ref C) us) _ _ _
  obtain ⟨hp, gn, dr, tk, os⟩ := s1
  have le1 : hp.objs.size ≤ hp.objs.size + 1 := Nat.le_succ _
  have fresh : H1 (hp.objs.size + 1) = none := I1.hok.fresh le1
  have prom := ask _ fresh
  rw [List.append_nil] at prom
  have stays : ∀ b o, hp.get? b = some o → ((hp.push (PySem.W.kdv_tup us)).push (PySem.HandSPX.excO C hp.objs.size)).get? b = some o := fun b o e => Heap.get?_push_of_some _ (Heap.get?_push_of_some _ e)
  have lies : ((hp.push (PySem.W.kdv_tup us)).push (PySem.HandSPX.excO C hp.objs.size)).get? (hp.objs.size + 1) = some (PySem.HandSPX.excO C hp.objs.size) := by heap_get
  have I2 := I1.laid (t' := tk) (a := hp.objs.size + 1) (o := exo (hp.objs.size + 1) C none) (h' := (hp.push (PySem.W.kdv_tup us)).push (PySem.HandSPX.excO C hp.objs.size)) stays le1 (exo_ok lies)
  have rel : Vals (V.ref (hp.objs.size + 1) :: vs) (Value.ref (hp.objs.size + 1) :: us) := .cons rfl vals
  have few : (Value.ref (hp.objs.size + 1) :: us).length = ps.length := rel.length.symm.trans (F1.len _ _ _ _ prom)
  have small : us.length ≤ sizeLine := by
    rw [← Paired.length vals, sizeLine_eq]
    omega
  have run := F1.run _ X.stack _ _ ⟨Value.ref (hp.objs.size + 1) :: us, []⟩ (Value.ref (hp.objs.size + 1) :: us) _ _ (fun _ _ _ => False) (hr.make C us []) (I2.env0.make C us []) (by
    have b2 := hb _ (Value.ref (hp.objs.size + 1) :: us) I2.kIn (by rw [List.append_nil]; exact few)
    rwa [List.append_nil] at b2) rel prom
  refine wpAny_call (PySem.HandSPX.call_own F.excBase_ValueError (fun Y => PySem.HandSPX.refsVE_contains Y bm refs) (I1.kIn _ _ isC) (PySem.W.looks_findIn I1.kIn iC) (fun me => PySem.W.bind_fn I1.kIn me tI) small (codeAny_mono run fun r s' done => ?_))
  match r, done with
  | .error er, done => exact hx pins τ _ _ er s' I2 done
  | .ok (.ret u), done =>
    obtain ⟨v, H2, os2, bare2, un2, hok2, rv, ev, d, fs, ea, ed, hd1, q2⟩ := done
    subst ev
    obtain ⟨h2, g2, d2, t2, os'⟩ := s'
    obtain ⟨t0, G, J, kG, ge, hoe, na⟩ := mk_end0 (d2 := d2) (t2 := t2) I1 le1 stays un2 hok2 os2 bare2 ea ed hd1
    exact ⟨rv, hp.objs.size + 1, _, _, ⟨G, g2, d2, t2, os'⟩, _, .ref C, some d, rfl, J, kG, ge, hoe, ⟨rfl, rfl, fun vs hv => by cases hv; rfl⟩, rfl, rfl, na, rfl, bare2, raises_own T.exC T.tyC, q2⟩
  | .ok .next, done => exact done.elim
  | .ok .brk, done => exact done.elim
  | .ok .cont, done => exact done.elim
end
section
variable {P : Program} {w : World} {K : PySem.W.Frag} {mg : Str → Option Value} {base : Heap} {L : Lay}
/-- THE RULE of a def whose exceptions have no context -/
theorem fn_okMN {x qual : Str} {params : Arguments} {body : List Stmt} {scope : Scope} {dvs : List V} {kws : List (Str × V)} {f : Addr} {fd : FuncData} {N ps : List Str} {k np n : Nat} {b : SM} (F : FunD K x qual params body scope dvs kws f fd) (Sc : FnScope N ps scope) (hnp : ps.length = np) (hn : N.length = n)
    (h : ∀ (cdv : Value) (A : Around) (outer : List Env) (s : Shared) (H : Hp) (E : XK), Room k (A.deeper (envOfC qual scope s.heap.objs.size f cdv)) → L2N.Takes (cxOf (L2N.CX P w) P w K mg base N qual scope f cdv A outer s H E) (fun cls d _ H => E cls d H) →
      MSs (cxOf (L2N.CX P w) P w K mg base N qual scope f cdv A outer s H E) L (fun cls d _ H => E cls d H) body b) : FnOk P w K mg base (L2N.CX P w) (k + 1) f fd ps (spM L (fnM np n b)) := by
  subst hnp hn
  exact F.ok Sc (fun vs H Q E h => spM_len h) fun cdv A outer s H vs Q E hr hsp => ⟨_, h cdv A outer s H E hr (L2N.takes_of rfl rfl rfl (E₁ := fun e' s'' => L2N.CX P w outer H s E e' s'') rfl), spM_body hsp⟩
end
structure DfN (P : Program) (w : World) (K : PySem.W.Frag) (mg : Str → Option Value) (base : Heap) (L : Lay) (x : Str) (k : Nat) (ps : List Str) (m : FM) : Prop where
  ex : ∃ f fd, FnOk P w K mg base (L2N.CX P w) k f fd ps (spM L m) ∧ Binds K fd ps [] ∧ PySem.W.keepIn K (.ref f) = true ∧ mg x = some (.ref f)
theorem DfN.df {P : Program} {w : World} {K : PySem.W.Frag} {mg : Str → Option Value} {base : Heap} {L : Lay} {x : Str} {k : Nat} {ps : List Str} {m : FM} (D : DfN P w K mg base L x k ps m) : Df P w K mg base L x k ps m := by
  obtain ⟨f, fd, F, r⟩ := D.ex
  exact ⟨f, fd, fnN_weak F, r⟩
section
variable {X : Cx} {L : Lay} {W : WX}
theorem me_dN {k j : Nat} {ps : List Str} {m : FM} {x : Str} {p pos : Pos} {e : Expr} {es : List Expr} {a : AM} (D : DfN X.prog X.w X.K X.mg X.base L x k ps m) (hr : Room j X.A) (tk : L2N.Takes X W) (ha : MA X L W (e :: es) a) (hkj : k ≤ j := by decide) (hg : Gl X x := by rfl)
    (hdb : (x == ("__debug__" : Str)) = false := by decide) (he : starEach (e :: es) X.env = (false, eval e X.env) :: starEach es X.env := by rfl) (hpl : (backTo pos (starEach es X.env)).any (·.1) = false := by rfl) :
    ME X L W (.Call (.Name x p) (e :: es) [] pos) (mCall m a) := by
  obtain ⟨f, fd, F, b, kp, g⟩ := D.ex
  exact PE.wk (pe_callS F (hr.mono hkj) hg g kp b (L2N.passAt tk) ha hdb he hpl) fun τ H Q ⟨ι, S, σ, rp, rs, o⟩ =>
    stepA rp rs o fun xs S1 ι1 H1 vs ex r1 s1 rv o1 => ⟨ι1, S1, xs, r1, rv, o1⟩
theorem ms_raise0N {c k j : Nat} {word : Str} {x : Str} {p pos pos' : Pos} (hK : L.K = X.K) (hc : X.calm = true) (T : XDf X.prog X.w X.K X.mg X.base L x c k word []) (hr : Room j X.A) (tk : L2N.Takes X W) (hkj : k + 1 ≤ j := by decide) (hg : Gl X x := by rfl) (hdb : (x == ("__debug__" : Str)) = false := by decide) :
    MS X L W (.Raise (some (.Call (.Name x p) [] [] pos)) none pos') (mRaise c word mNil) := by
  obtain ⟨fI, fd, ps, hC, iC, tI, F1, hb, hps⟩ := T.ex
  refine PS.wk (L2N.ps_raise hc tk (pmkN_x0 hC iC tI F1 (hr.mono hkj) hb (fun pins σ H s e s' I h => passAt takes0 σ pins H s e s' I h) hg T.gl hdb)) fun D τ H ⟨ι, S, σ, rp, rs, o⟩ => ?_
  exact ⟨by simp, fun a ha => raise_rd hK T rfl (by simp) rp rs .nil o a ha hC⟩
theorem ms_raiseN {c k j n : Nat} {word : Str} {fs : List Str} {x : Str} {p pos pos' : Pos} {e : Expr} {es : List Expr} {a : AM} (hK : L.K = X.K) (hc : X.calm = true) (T : XDf X.prog X.w X.K X.mg X.base L x c k word fs) (hr : Room j X.A) (tk : L2N.Takes X W) (ha : MA X L W (e :: es) a) (hn : lenA n a) (hl : fs.length = n := by rfl) (hl2 : n ≤ 900 := by decide)
    (hkj : k + 1 ≤ j := by decide) (hg : Gl X x := by rfl) (hdb : (x == ("__debug__" : Str)) = false := by decide) (he : starEach (e :: es) X.env = (false, eval e X.env) :: starEach es X.env := by rfl) (hpl : (backTo pos (starEach es X.env)).any (·.1) = false := by rfl) :
    MS X L W (.Raise (some (.Call (.Name x p) (e :: es) [] pos)) none pos') (mRaise c word a) := by
  obtain ⟨fI, fd, ps, hC, iC, tI, F1, hb, hps⟩ := T.ex
  refine PS.wk (L2N.ps_raise hc tk (pmkN_oex hC iC tI F1 (hr.mono hkj) hb (fun pins σ H s e s' I h => passAt takes0 σ pins H s e s' I h) hg T.gl ha hdb he hpl)) fun D τ H ⟨ι, S, σ, rp, rs, o⟩ => ?_
  have key : rdA L W a τ H fun vs H1 => ∃ ι1 S1 xs, Rep L ι1 S1 H1 ∧ RS L ι1 H1 σ τ ∧ RVs L ι1 H1 xs vs ∧ xs.length = n ∧ OutS L W ι1 H1 (.exc S1.length σ (S1 ++ [.xd c (.str word :: xs)])) D := by
    refine ⟨ι, S, σ, rp, rs, ?_⟩
    have o1 : OutS L W ι H ((a σ S).toSL σ fun xs S1 => .exc S1.length σ (S1 ++ [.xd c (.str word :: xs)])) D := o
    cases e1 : a σ S with
    | ok xs S1 =>
      rw [e1] at o1
      exact fun ι1 H1 vs ex r1 rv => ⟨ι1, S1, xs, r1, rs.mono ex, rv, hn _ _ _ _ e1, OutS.mono ex o1⟩
    | exc m S1 =>
      rw [e1] at o1
      exact fun ι1 H1 c d ex r1 x1 => o1 ι1 H1 τ c d ex r1 (rs.mono ex) x1
    | fail => rw [e1] at o1; exact o1.elim
  obtain ⟨ι0, S0, σ0, r0, s0, o0⟩ := key
  refine ⟨ι0, S0, σ0, r0, s0, ?_⟩
  cases e1 : a σ0 S0 with
  | ok xs S1 =>
    rw [e1] at o0
    intro ι1 H1 vs ex r1 rv
    obtain ⟨ι2, S2, ys, q1, q2, q3, q4, q5⟩ := o0 ι1 H1 vs ex r1 rv
    refine ⟨by rw [← q3.length, q4]; omega, fun b hb' => ?_⟩
    rw [List.append_nil]
    exact raise_rd hK T (by omega) (by omega) q1 q2 q3 q5 b hb' hC
  | exc m S1 => rw [e1] at o0; exact o0
  | fail => rw [e1] at o0; exact o0
theorem ms_raiseLN {c k j : Nat} {word y : Str} {x : Str} {p pos pos' : Pos} {e : Expr} {a : EM} (hc : X.calm = true) (T : XDl X.prog X.w X.K X.mg X.base L x c k word y) (hr : Room j X.A) (tk : L2N.Takes X W) (ha : ME X L W e a)
    (hkj : k + 1 ≤ j := by decide) (hg : Gl X x := by rfl) (hdb : (x == ("__debug__" : Str)) = false := by decide) (he : starEach [e] X.env = (false, eval e X.env) :: starEach [] X.env := by rfl) (hpl : (backTo pos (starEach [] X.env)).any (·.1) = false := by rfl) :
    MS X L W (.Raise (some (.Call (.Name x p) [e] [] pos)) none pos') (mRaiseL c word a) := by
  obtain ⟨fI, fd, ps, hC, iC, tI, F1, hb⟩ := T.ex
  refine PS.wk (L2N.ps_raise hc tk (pmkN_oex hC iC tI F1 (hr.mono hkj) hb (fun pins σ H s e s' I h => passAt takes0 σ pins H s e s' I h) hg T.gl (pa_cons ha pa_nil he) hdb he hpl)) fun D τ H ⟨ι, S, σ, rp, rs, o⟩ => ?_
  refine stepS (k := fun x S1 => match refL S1 x with
    | some ys => .exc (S1.length + 1) σ (S1 ++ [.lst ys, .xd c [.str word, .ref S1.length]])
    | none => .fail) (D := D) rp rs o fun z S1 ι1 H1 v ex r1 s1 rv o1 => ⟨by simp, fun a' hn => ?_⟩
  cases z with
  | ref n =>
    have e0 : refL S1 (.ref n) = (S1[n]?).bind lstI := rfl
    cases e1 : S1[n]? with
    | none => rw [e0, e1] at o1; exact o1.elim
    | some ob =>
      cases ob with
      | lst ys =>
        rw [e0, e1] at o1
        obtain ⟨q, us, rfl, hq, h3, h4⟩ := r1.lst rv e1
        have hqa : q ≠ a' := fun z => by rw [z, hn] at h3; cases h3
        refine ⟨a', L.C c, q, us, rfl, hC, T.no _ List.mem_cons_self, T.no _ (List.mem_cons_of_mem _ List.mem_cons_self), upd_same, SqL.of (by rw [upd_ne hqa]; exact h3), hqa, fun H' d p' hpa hp xd => ?_⟩
        rw [upd_ne hpa] at hp
        have hdn := xd.dn
        have hpd : d ≠ p' := fun z => by rw [z, upd_same] at hdn; cases hdn
        rw [upd_ne hpd, upd_ne xd.ne] at hdn
        have hh : upd (del H' a') d (.xd [(y, .ref p'), ("word", .str word)]) = upd (upd H1 p' (.lst us)) d (.xd [(y, .ref p'), ("word", .str word)]) := funext fun b => by
          by_cases h1 : b = d
          · subst h1
            rw [upd_same, upd_same]
          · rw [upd_ne h1, upd_ne h1]
            by_cases h2 : b = a'
            · subst h2
              rw [del_same, upd_ne (Ne.symm hpa), hn]
            · rw [del_ne h2, xd.rest b h2 h1]
              by_cases h5 : b = p'
              · subst h5
                rw [upd_same, upd_same]
              · rw [upd_ne h5, upd_ne h5, upd_ne h2]
        refine ⟨rfl, d, _, xd.oa, xd.od, hdn, ?_⟩
        rw [hh]
        have x1 : Ext ι1 H1 (ι1 ++ [p']) (upd H1 p' (.lst us)) := Rep.newExt hp
        have rp1 := r1.new hp (o := .lst ys) (u := .lst us) ⟨us, rfl, h4.mono x1⟩
        have hd1 : upd H1 p' (.lst us) d = none := by rw [upd_ne hpd]; exact hdn
        have x2 : Ext (ι1 ++ [p']) (upd H1 p' (.lst us)) (ι1 ++ [p'] ++ [d]) (upd (upd H1 p' (.lst us)) d (.xd [(y, .ref p'), ("word", .str word)])) := Rep.newExt hd1
        have rp2 := rp1.new hd1 (o := .xd c [.str word, .ref S1.length]) (u := .xd [(y, .ref p'), ("word", .str word)]) ⟨_, rfl, fun i u f e1 e2 => by
          rw [T.att] at e2
          have hyw : wordS ≠ y := by
            have := T.nd
            rw [List.nodup_cons] at this
            exact fun z => this.1 (by rw [z]; exact List.mem_singleton_self _)
          match i with
          | 0 =>
            cases e1
            cases e2
            refine ⟨.str word, ?_, .str _⟩
            rw [List.lookup_cons, beq_false_of_ne hyw, List.lookup_cons, beq_self_eq_true]
          | 1 =>
            cases e1
            cases e2
            exact ⟨.ref p', by rw [List.lookup_cons, beq_self_eq_true], (r1.newRef (H' := upd H1 p' (.lst us))).mono x2⟩
          | i + 2 => cases e1⟩
        have o2 : OutS L W ι1 H1 (.exc (S1.length + 1) σ (S1 ++ [.lst ys, .xd c [.str word, .ref S1.length]])) D := o1
        rw [show S1 ++ [OO.lst ys, .xd c [.str word, .ref S1.length]] = S1 ++ [.lst ys] ++ [.xd c [.str word, .ref S1.length]] from by simp] at o2
        refine o2 _ _ τ _ _ (x1.trans x2) rp2 (s1.mono (x1.trans x2)) ⟨c, [.str word, .ref S1.length], d, ?_, rfl, rfl, ?_⟩
        · have := get_last (S := S1 ++ [OO.lst ys]) (o := .xd c [.str word, .ref S1.length])
          rwa [List.length_append] at this
        · have hl : (ι1 ++ [p']).length = S1.length + 1 := by rw [List.length_append, r1.len]; rfl
          rw [← hl, List.getElem?_append_right (Nat.le_refl _), Nat.sub_self]
          rfl
      | _ => rw [e0, e1] at o1; exact o1.elim
  | _ => exact o1.elim
end
end Sx
end
/-! Sx36: sorted(x), x a tuple. -/
noncomputable section
namespace Sx
open PySem PySem.Spec PyProof.Rows PySem.W
section
variable {prog : Program} {w : World} {A : Around} {E : Value → Shared → Prop} {s : Shared}
theorem collect_tup {l : Addr} {vs : List Value} {Q : List Value → Shared → Prop} (hl : s.heap.IsTuple l vs.toArray)
    (h : Q vs { s with heap := (s.heap.push (seqObj "list" #[] 0)).update s.heap.objs.size (Obj.mapSeq (· ++ vs.toArray)) }) (hsz : vs.length ≤ sizeLine) :
    wpAny (model prog w) A (collect (.ref l)) Q E s := by
  obtain ⟨o, ho, hc, n, hd⟩ := id hl
  unfold collect
  refine wpAny_bind (wpAny_runValue (codeAny_builtin entry_proto_collect' ?_))
  show wpAny _ _ (do again (.builtin "list.__iadd__" ⟨[← newList [], .ref l], []⟩)) _ _ s
  refine wpAny_bind (wpAny_newList (wpAny_pure ⟨Code.quiet_builtin _ (by decide +kernel), codeAny_builtin entry_list_iadd' ?_⟩))
  show wpAny _ _ (Builtin.List.listExtendWith (.ref s.heap.objs.size) (.ref l) (.ref s.heap.objs.size)) _ _ { s with heap := s.heap.push (seqObj "list" #[] 0) }
  have ho' : (s.heap.push (seqObj "list" #[] 0)).get? l = some o := Heap.get?_push_of_some _ ho
  unfold Builtin.List.listExtendWith
  refine wpAny_bind (wpAny_typeOf (T := "tuple") ⟨o, ho', hc⟩ ?_)
  rw [if_pos (by simp)]
  refine wpAny_bind (listItems_at ho' hd ?_)
  refine wpAny_bind (listItems_at (xs := #[]) (n := 0) (Heap.get?_push_size _ rfl) rfl ?_)
  rw [if_neg (by simp)]
  refine wpAny_bind (listUpdate_at (xs := #[]) (n := 0) (Heap.get?_push_size _ rfl) rfl ?_ (Nat.zero_le _) (by show (#[] ++ vs.toArray).size ≤ sizeLine + 1; simp only [Array.size_append, List.size_toArray, List.length_nil]; omega))
  refine wpAny_pure ?_
  show wpAny (model prog w) A (do
      let o ← load s.heap.objs.size
      match o.data with
      | .seq xs _ => pure xs.toList
      | _ => unsupported "internal:collect") Q E { s with heap := (s.heap.push (seqObj "list" #[] 0)).update s.heap.objs.size (Obj.mapSeq (· ++ vs.toArray)) }
  refine wpAny_bind (wpAny_load (get?_update_seq (Heap.get?_push_size _ rfl) _) ?_)
  show wpAny _ _ (pure ((#[] : Array Value) ++ vs.toArray).toList) Q E _
  rw [show ((#[] : Array Value) ++ vs.toArray).toList = vs by simp]
  exact wpAny_pure h
/-- sorted of a tuple is list.sort on a new list of its items -/
theorem sorted_tup_sort {l : Addr} {vs : List Value} {Q : Value → Shared → Prop} (hl : s.heap.IsTuple l vs.toArray) (hL : vs.length ≤ sizeLine)
    (body : ∀ E' : Value → Shared → Prop, wpAny (model prog w) A.in1.in1 (Builtin.«list.sort» ⟨[.ref (s.heap.objs.size + 1)], []⟩) (fun f s' => f = .done (.ret .none) ∧ Q (.ref (s.heap.objs.size + 1)) s') E' { s with heap := copyHeap s.heap vs }) :
    wpAny (model prog w) A (call (.builtin "sorted") [.ref l]) Q E s := by
  refine call_function_entry_kw kind_sorted plain_sorted entry_sorted (args_sorted1 _) ?_
  unfold Builtin.«sorted»
  refine wpAny_bind (m := checkCount "sorted" 1 1 _) (wpAny_pure ?_)
  refine wpAny_bind (collect_tup hl ?_ hL)
  refine wpAny_bind (wpAny_newList ?_ hL)
  have hsz : ((s.heap.push (seqObj "list" #[] 0)).update s.heap.objs.size (Obj.mapSeq (· ++ vs.toArray))).objs.size = s.heap.objs.size + 1 := by
    rw [Heap.size_update, size_push']
  show wpAny _ _ _ _ _ { s with heap := copyHeap s.heap vs }
  rw [hsz]
  refine wpAny_bind (wpAny_holding (wpAny_call_entry_kw slot_list_sort ⟨_, copyHeap_at s.heap vs, rfl⟩ entry_list_sort ?body (args_list_sort _)))
  case body =>
    show wpAny (model prog w) A.in1.in1 (Builtin.«list.sort» ⟨[.ref (s.heap.objs.size + 1)], []⟩) _ _ _
    refine wpAny_mono (body _) (fun f s' hf => ?_) fun _ _ e => e
    obtain ⟨rfl, hq⟩ := hf
    exact ⟨_, rfl, wpAny_pure ⟨_, rfl, hq⟩⟩
theorem sorted_tup_data {B : Type} {enc : B → PyData} {R : Value → B → Prop} {vs : List Value} {bs : List B} {l : Addr} {Q : Value → Shared → Prop} (hl : s.heap.IsTuple l vs.toArray) (e : EachIs R vs bs) (er : EachIs (fun v b => ∃ as, Reads s.heap v (enc b) as) vs bs) (hal : AllAlike (bs.map enc)) (hk : Sortable (bs.map enc)) (hL : bs.length ≤ sizeLine)
    (hu : ∀ b, b ∈ bs → A.units + 2 + (enc b).depth < cLine) (h : ∀ out, out.length = bs.length → EachIs R out (bs.mergeSort (dataLe false enc)) → Q (.ref (s.heap.objs.size + 1)) { s with heap := sortedAll s.heap vs (List.toArray out) }) :
    wpAny (model prog w) A (call (.builtin "sorted") [.ref l]) Q E s := by
  have er' : EachIs (fun v b => ∃ as, Reads (sortingHeap (copyHeap s.heap vs) (s.heap.objs.size + 1) vs) v (enc b) as) vs bs := er.mono fun _ _ ⟨as, r⟩ => ⟨as, PyProof.Rows.Reads.keeps (fun _ _ => sorting_copy_old) r⟩
  have S := SortsAt.data (prog := prog) (w := w) (A := A.in1.in1) (s := { s with heap := sortingHeap (copyHeap s.heap vs) (s.heap.objs.size + 1) vs }) (each_map (R := fun v d => ∃ as, Reads (sortingHeap (copyHeap s.heap vs) (s.heap.objs.size + 1) vs) v d as) enc er') hal hk (bound_map hu)
  have hL' : vs.length ≤ sizeLine := by rw [e.length]; exact hL
  refine sorted_tup_sort hl hL' fun E' => list_sort_vals (s := { s with heap := copyHeap s.heap vs }) (copyHeap_at s.heap vs) S hL' ⟨rfl, ?_⟩
  exact h _ (by rw [sortVals_length false rfl]; exact e.length) (sortVals_data false e er' hal)
end
open L2
open Classical in
/-- sorted(x), x a list or a tuple -/
def gSortB (x : VV) (S : Sto) : Res VV := match x with
  | .tup xs => if canSort S xs then newL (xs.mergeSort (PySem.W.dataLe false (datD S))) S else .fail
  | x => gSorted x S
theorem nxSortB : ∀ x S, NoX (gSortB x S) := fun x S => by
  cases x with
  | tup xs =>
    intro n S' e
    unfold gSortB at e
    dsimp only at e
    split at e
    · exact nxNew n S' e
    · cases e
  | _ => exact nxSorted _ S
section
variable {X : Cx} {L : Lay} {W : WX}
open Classical in
theorem cm_sortB (hK : L.K = X.K) (hu : X.A.units + 64 < cLine) : CallR X (.builtin "sorted") (rdC L (g1 gSortB)) := cr1 fun pins s σ H v us Q ι S x I r rp rv o => by
  by_cases t : ∃ xs, x = .tup xs
  · obtain ⟨xs, rfl⟩ := t
    have o1 : OutE L ι H (if canSort S xs then newL (xs.mergeSort (PySem.W.dataLe false (datD S))) S else .fail) Q (fun _ _ _ => False) := o
    by_cases c : canSort S xs
    · rw [if_pos c] at o1
      obtain ⟨c1, c2, c3, c4⟩ := c
      have hv : ∃ a vs, v = .ref a ∧ SqT X.K H a vs ∧ RVs L ι H xs vs := by
        cases rv with
        | @tup a _ vs ha rr => exact ⟨a, vs, rfl, SqT.of ha, rr⟩
      obtain ⟨a, vs, rfl, h2, h3⟩ := hv
      obtain ⟨its, rr, pl, hz⟩ := I.tuple h2
      obtain ⟨u, rfl, ru⟩ := vals1 r
      obtain rfl : u = Value.ref a := ru
      have ee := each_of h3 rr
      refine sorted_tup_data (enc := datD S) (R := fun u x => ∃ v, RelV v u ∧ RV L ι H x v) pl ee ?_ c2 c3 (sz_of c4) (fun b hb => ?_) fun out hl eo => ?_
      · refine (PySem.W.each_mem ee).mono fun u b ⟨⟨v, q1, q2⟩, hb⟩ => ?_
        obtain ⟨z1, z2⟩ := c1 b hb
        obtain ⟨d, hd⟩ := Option.isSome_iff_exists.mp z1
        have hdd : datD S b = d := by unfold datD; rw [hd]; rfl
        rw [hdd]
        exact Dp.reads I d v u (hK ▸ dat_ok rp 8 b v d hd q2) q1
      · have := (c1 b hb).2
        omega
      · obtain ⟨ws, hw1, hw2⟩ := each_back eo
        obtain ⟨cc, hcc⟩ := sortedAll_at s.heap its out.toArray
        have hfr : H (s.heap.objs.size + 1) = none := I.hok.fresh (Nat.le_succ _)
        refine ⟨.ref (s.heap.objs.size + 1), upd H (s.heap.objs.size + 1) (.lst ws), I.laid (t' := s.toks) (fun _ _ => sortedAll_old) (Nat.le_succ _) ⟨?_, out, cc, hw2, hcc⟩, rfl, newL_out rp hw1 o1 _ hfr⟩
        rw [← hw1.length, List.length_mergeSort]
        exact sz_of c4
    · rw [if_neg c] at o1
      exact o1.elim
  · refine cm_sorted hK hu pins s σ H _ us Q I r ⟨ι, S, [x], rp, .cons rv .nil, ?_⟩
    have : gSortB x S = gSorted x S := by
      cases x with
      | tup xs => exact absurd ⟨xs, rfl⟩ t
      | _ => rfl
    show OutE L ι H (gSorted x S) Q _
    rw [← this]
    exact o
end
end Sx
end
/-! the mirror, printed by mir.py -/
noncomputable section
namespace Sx.K06
open PySem L2
def T : ExTab := [(0, [0]), (12, [12, 0]), (13, [13, 0]), (17, [17, 0]), (18, [18, 0])]
def hs : List Nat := [17, 18, 13, 12]
def atts : Nat → List Str
  | 0 => ["word"]
  | 12 => ["word", "house"]
  | 13 => ["word", "one", "other"]
  | 17 => ["word", "lot"]
  | 18 => ["word", "lot"]
  | _ => []
def cname : Nat → Str
  | 0 => "SlipError"
  | 12 => "NoHouse"
  | 13 => "NoTie"
  | 17 => "NoWay"
  | 18 => "Lone"
  | _ => ""
def m_joins : FM := fnM 3 3 <|
    mRet (mOp (gEq false) (mCB (g1 gSortB) (mCons (mSl (mV 0) (mNoP) (mPart (mC (.int 2)))) (mNil))) (mCB (g1 gSorted) (mCons (mLst (mCons (mV 1) (mCons (mV 2) (mNil)))) (mNil))))
def m_round_way : FM := fnM 4 7 <|
    mSeq (mDrop (mCall Cm.m_looked_house (mCons (mV 0) (mCons (mV 2) (mNil)))))
    (mSeq (mDrop (mCall Cm.m_looked_house (mCons (mV 0) (mCons (mV 3) (mNil)))))
    (mSeq (mIfS (mTst (mOp (gEq false) (mV 2) (mV 3))) (mRaise 13 "notie" (mCons (mV 2) (mCons (mV 3) (mNil)))) (mNext))
    (mSeq (mAsg (mLc (mSeqI (mV 1)) (gmName 6) (mNot (mTst (mCall m_joins (mCons (mV 6) (mCons (mV 2) (mCons (mV 3) (mNil))))))) (mV 6) [6]) (gmName 4))
    (mTryH T 17 5 (mHotL 18 "lone" 1) (mRet (mCall Cm.m_least_way (mCons (mV 0) (mCons (mV 4) (mCons (mV 2) (mCons (mV 3) (mNil)))))))))))
def m__law_tried : FM := fnM 4 6 <|
    mSeq (mAsg (mC .non) (gmName 4))
    (mSeq (mTry T [(12, some 5, mXRetT [.str "nohouse", .fld 1]), (13, some 5, mXRetT [.str "notie", .fld 1, .fld 2]), (18, some 5, mXRetT [.str "lone", .fld 1])] (mAsg (mCall m_round_way (mCons (mV 0) (mCons (mV 1) (mCons (mV 2) (mCons (mV 3) (mNil)))))) (gmName 4)))
    (mRet (mV 4)))
def m_law : FM := fnM 1 12 <|
    mSeq (mAsg (mCall Cm.m__law_box (mCons (mV 0) (mNil))) (gmName 1))
    (mSeq (mAsg (mOp gAdd (mC (.int 2)) (mCall Cm.m__law_take (mCons (mV 1) (mCons (mC (.int 7)) (mNil))))) (gmName 2))
    (mSeq (mAsg (mCall Cm.m__law_shuffled (mCons (mV 1) (mCons (mCall Cm.m__law_some_ties (mCons (mV 1) (mCons (mV 2) (mCons (mOp gAdd (mC (.int 1)) (mCall Cm.m__law_take (mCons (mV 1) (mCons (mC (.int 7)) (mNil))))) (mNil))))) (mNil)))) (gmName 3))
    (mSeq (mAsg (mCB (g1 gList) (mCons (mV 3) (mNil))) (gmName 4))
    (mSeq (mFor (mSrc gRng1 (mCons (mV 2) (mNil))) (gmName 5) (mFor (mSrc gRng1 (mCons (mV 2) (mNil))) (gmName 8) (mSeq (mAsg (mLc (mSeqI (mV 3)) (gmName 11) (mTst (mOp (gIn true) (mSl (mV 11) (mNoP) (mPart (mC (.int 2)))) (mTup (mCons (mTup (mCons (mV 5) (mCons (mV 8) (mNil)))) (mCons (mTup (mCons (mV 8) (mCons (mV 5) (mNil)))) (mNil)))))) (mV 11) [11]) (gmName 9))
    (mSeq (mAsg (mCall Cm.m__law_least (mCons (mV 2) (mCons (mV 9) (mCons (mV 5) (mCons (mV 8) (mNil)))))) (gmName 10))
    (mSeq (mIfS (mTst (mOp (gIs false) (mV 10) (mC .non))) (mAsg (mTup (mCons (mC (.str "lone")) (mCons (mCall Cm.m__law_lot (mCons (mV 2) (mCons (mV 9) (mCons (mV 5) (mNil))))) (mNil)))) (gmName 10)) (mNext))
    (mSeq (mIfS (mTst (mOp (gEq false) (mV 5) (mV 8))) (mAsg (mTup (mCons (mC (.str "notie")) (mCons (mV 5) (mCons (mV 5) (mNil))))) (gmName 10)) (mNext))
    (mIfS (mOr (mNot (mTst (mCall (Cm.m__law_same 6) (mCons (mCall m__law_tried (mCons (mV 2) (mCons (mV 4) (mCons (mV 5) (mCons (mV 8) (mNil)))))) (mCons (mV 10) (mNil)))))) (mTst (mOp (gEq true) (mV 4) (mV 3)))) (mRet (mC (.bl false))) (mNext))))))))
    (mSeq (mAsg (mOp gIx (mLst (mCons (mUn gNeg (mC (.int 1))) (mCons (mV 2) (mCons (mOp gPow (mC (.int 10)) (mC (.int 20))) (mNil))))) (mCall Cm.m__law_take (mCons (mV 1) (mCons (mC (.int 3)) (mNil))))) (gmName 6))
    (mSeq (mAsg (mLst (mCons (mCall m__law_tried (mCons (mV 2) (mCons (mV 3) (mCons (mV 6) (mCons (mV 6) (mNil)))))) (mCons (mCall m__law_tried (mCons (mV 2) (mCons (mV 3) (mCons (mC (.int 0)) (mCons (mV 6) (mNil)))))) (mCons (mCall m__law_tried (mCons (mV 2) (mCons (mV 3) (mCons (mV 6) (mCons (mC (.int 1)) (mNil)))))) (mNil))))) (gmName 7))
    (mRet (mCall (Cm.m__law_same 6) (mCons (mV 7) (mCons (mOp gMul (mLst (mCons (mTup (mCons (mC (.str "nohouse")) (mCons (mV 6) (mNil)))) (mNil))) (mC (.int 3))) (mNil)))))))))))
end Sx.K06
end
/-! the walk, printed by mir.py -/
noncomputable section
namespace Sx.K06
open PySem PySem.Spec
open PyProof.Rows L2
def top (i : Nat) : Stmt := PySem.Challenge.pw_swapslip_k06_ways_round_ties.main.body.getD i (.Pass ⟨0, 0, 0, 0⟩)
theorem u1 {k : Nat} {A : Around} (hr : Room k A) : A.units + 1 < cLine := by have := hr.units; omega
section
variable {P : Program} {w : World} {K : PySem.W.Frag} {mg : Str → Option Value} {base : Heap} {L : Lay} {f : Addr} {fd : FuncData}
theorem sx_SlipError : FnScope ["self", "word"] ["self", "word"] (defScope (inClass (top 1) 0)) := ⟨rfl, rfl, rfl, by decide +kernel, rfl, by decide +kernel, by decide +kernel⟩
theorem xi_SlipError (F : FunD K "__init__" "SlipError.__init__" (defArgs (inClass (top 1) 0)) (defBody (inClass (top 1) 0)) (defScope (inClass (top 1) 0)) [] [] f fd) (g_ValueError : mg "ValueError" = none) (vV : PySem.W.findCls K (.type "ValueError") (.type "type") "__init__" = some (.val (.builtin "ValueError.__init__"))) : FnOk P w K mg base (L2.CX P w) 1 f fd ["self", "word"] (spX K gX0) := by
  refine F.ok sx_SlipError (fun vs H Q E h => spX0_len h) fun cdv A outer s H vs Q E hr hsp => ⟨_, pss_cons (ps_expr (pe_veinit (by rfl) g_ValueError vV (pa_cons (pv 0) (pa_cons (pv 1) pa_nil)))) (pss_one (ps_ost (pv 0) (pv 1))), ?_⟩
  obtain ⟨a, C, u, rfl, T, n0, ha, q⟩ := spX0_open hsp
  refine ⟨_, rfl, _, rfl, a, C, [u], rfl, by simp, T, ha, ?_⟩
  refine ⟨_, rfl, _, rfl, a, C, rfl, T, n0, .inl ⟨ha, fun d hd hn => ?_⟩⟩
  exact q _ d ⟨hd, hn, upd_same, by rw [upd_ne hn]; exact upd_same, fun b h1 h2 => by rw [upd_ne h1, upd_ne h2]⟩
theorem xiH_SlipError (F : FunD K "__init__" "SlipError.__init__" (defArgs (inClass (top 1) 0)) (defBody (inClass (top 1) 0)) (defScope (inClass (top 1) 0)) [] [] f fd) (g_ValueError : mg "ValueError" = none) (vV : PySem.W.findCls K (.type "ValueError") (.type "type") "__init__" = some (.val (.builtin "ValueError.__init__"))) : L2H.FnH P w K mg base (L2.CX P w) 1 f fd ["self", "word"] (spX K gX0) := by
  refine okH F sx_SlipError (fun vs H Q E h => spX0_len h) fun cdv A outer s H vs Q E p hot hr hsp => ⟨_, pss_cons (ps_expr (pe_veinit (by rfl) g_ValueError vV (pa_cons (pv 0) (pa_cons (pv 1) pa_nil)))) (pss_one (ps_ost (pv 0) (pv 1))), ?_⟩
  obtain ⟨a, C, u, rfl, T, n0, ha, q⟩ := spX0_open hsp
  refine ⟨_, rfl, _, rfl, a, C, [u], rfl, by simp, T, ha, ?_⟩
  refine ⟨_, rfl, _, rfl, a, C, rfl, T, n0, .inl ⟨ha, fun d hd hn => ?_⟩⟩
  exact q _ d ⟨hd, hn, upd_same, by rw [upd_ne hn]; exact upd_same, fun b h1 h2 => by rw [upd_ne h1, upd_ne h2]⟩
theorem sx_NoHouse : FnScope ["self", "house"] ["self", "house"] (defScope (inClass (top 2) 0)) := ⟨rfl, rfl, rfl, by decide +kernel, rfl, by decide +kernel, by decide +kernel⟩
theorem xi_NoHouse {CB fB : Addr} {fdB : FuncData} (F : FunD K "__init__" "NoHouse.__init__" (defArgs (inClass (top 2) 0)) (defBody (inClass (top 2) 0)) (defScope (inClass (top 2) 0)) [] [] f fd) (T : CFn K CB fB "__init__") (hm : mg "SlipError" = some (.ref CB)) (FB : FnOk P w K mg base (L2.CX P w) 1 fB fdB ["self", "word"] (spX K gX0)) (bB : Binds K fdB ["self", "word"] []) : FnOk P w K mg base (L2.CX P w) 2 f fd ["self", "house"] (spX K (gXA "nohouse" ["house"])) := by
  refine F.ok sx_NoHouse (fun vs H Q E h => spX_len h) fun cdv A outer s H vs Q E hr hsp => ⟨_, pss_cons (ps_expr (pe_cfn T FB hr (by rfl) hm bB (passAt takes0) (pa_cons (pv 0) (pa_cons pe_str pa_nil)))) (pss_one (ps_ost (pv 0) (pv 1))), ?_⟩
  obtain ⟨a, C, u, rfl, T, n0, n1, ha, q⟩ := spXA1 hsp
  exact ⟨_, rfl, a, C, _, _, rfl, rfl, T, fun p hp => by rw [List.mem_singleton] at hp; subst hp; exact n0, ha, fun H' d xd => ⟨_, rfl, _, rfl, a, C, rfl, T, n1, .inr ⟨d, _, xd.oa, xd.od, by simp, q _ d xd.more⟩⟩⟩
theorem sx_NoWay : FnScope ["self", "lot"] ["self", "lot"] (defScope (inClass (top 4) 0)) := ⟨rfl, rfl, rfl, by decide +kernel, rfl, by decide +kernel, by decide +kernel⟩
theorem xi_NoWay {CB fB : Addr} {fdB : FuncData} (F : FunD K "__init__" "NoWay.__init__" (defArgs (inClass (top 4) 0)) (defBody (inClass (top 4) 0)) (defScope (inClass (top 4) 0)) [] [] f fd) (T : CFn K CB fB "__init__") (hm : mg "SlipError" = some (.ref CB)) (FB : FnOk P w K mg base (L2.CX P w) 1 fB fdB ["self", "word"] (spX K gX0)) (bB : Binds K fdB ["self", "word"] []) (g_list : mg "list" = none) : FnOk P w K mg base (L2.CX P w) 2 f fd ["self", "lot"] (spXL K "noway" "lot") := by
  refine F.ok sx_NoWay (fun vs H Q E h => by obtain ⟨_, _, _, _, rfl, _⟩ := h; rfl) fun cdv A outer s H vs Q E hr hsp => ⟨_, pss_cons (ps_expr (pe_cfn T FB hr (by rfl) hm bB (passAt takes0) (pa_cons (pv 0) (pa_cons pe_str pa_nil)))) (pss_one (ps_ost (pv 0) (pe_callTy call_list_of (by rfl) g_list bo_list (pa_cons (pv 1) pa_nil)))), ?_⟩
  obtain ⟨a, C, q, us, rfl, T, n0, n1, ha, hq, hqa, k⟩ := hsp
  refine ⟨_, rfl, a, C, _, _, rfl, rfl, T, fun p hp => by rw [List.mem_singleton] at hp; subst hp; exact n0, ha, fun H' d xd => ?_⟩
  refine ⟨_, rfl, q, us, rfl, .inl (xdone_seq xd hq hqa), fun l hl => ?_⟩
  obtain ⟨h1, h2, h3, h4, h5⟩ := xdone_lot (us := us) (p := ("lot", .ref l)) xd hl
  exact ⟨_, rfl, a, C, rfl, T, n1, .inr ⟨d, _, h3, h4, by simp, k _ d l h1 h2 h5⟩⟩
theorem sx_NoTie : FnScope ["self", "one", "other"] ["self", "one", "other"] (defScope (inClass (top 3) 0)) := ⟨rfl, rfl, rfl, by decide +kernel, rfl, by decide +kernel, by decide +kernel⟩
theorem xi_NoTie {CB fB : Addr} {fdB : FuncData} (F : FunD K "__init__" "NoTie.__init__" (defArgs (inClass (top 3) 0)) (defBody (inClass (top 3) 0)) (defScope (inClass (top 3) 0)) [] [] f fd) (T : CFn K CB fB "__init__") (hm : mg "SlipError" = some (.ref CB)) (FB : FnOk P w K mg base (L2.CX P w) 1 fB fdB ["self", "word"] (spX K gX0)) (bB : Binds K fdB ["self", "word"] []) : FnOk P w K mg base (L2.CX P w) 2 f fd ["self", "one", "other"] (spX K (gXA "notie" ["one", "other"])) := by
  refine F.ok sx_NoTie (fun vs H Q E h => spX_len h) fun cdv A outer s H vs Q E hr hsp => ⟨_, pss_cons (ps_expr (pe_cfn T FB hr (by rfl) hm bB (passAt takes0) (pa_cons (pv 0) (pa_cons pe_str pa_nil)))) (pss_cons (ps_ost (pv 0) (pv 1)) (pss_one (ps_ost (pv 0) (pv 2)))), ?_⟩
  obtain ⟨a, C, u, v, rfl, T, n0, n1, n2, ha, q⟩ := spXA2 hsp
  exact ⟨_, rfl, a, C, _, _, rfl, rfl, T, fun p hp => by rw [List.mem_singleton] at hp; subst hp; exact n0, ha, fun H' d xd => ⟨_, rfl, _, rfl, a, C, rfl, T, n1, .inr ⟨d, _, xd.oa, xd.od, by simp, _, rfl, _, rfl, a, C, rfl, T, n2, .inr ⟨d, _, xd.more.oa, xd.more.od, by simp, q _ d xd.more.more⟩⟩⟩⟩
theorem sx_Lone : FnScope ["self", "lot"] ["self", "lot"] (defScope (inClass (top 5) 0)) := ⟨rfl, rfl, rfl, by decide +kernel, rfl, by decide +kernel, by decide +kernel⟩
theorem xi_Lone {CB fB : Addr} {fdB : FuncData} (F : FunD K "__init__" "Lone.__init__" (defArgs (inClass (top 5) 0)) (defBody (inClass (top 5) 0)) (defScope (inClass (top 5) 0)) [] [] f fd) (T : CFn K CB fB "__init__") (hm : mg "SlipError" = some (.ref CB)) (FB : FnOk P w K mg base (L2.CX P w) 1 fB fdB ["self", "word"] (spX K gX0)) (bB : Binds K fdB ["self", "word"] []) (g_list : mg "list" = none) : FnOk P w K mg base (L2.CX P w) 2 f fd ["self", "lot"] (spXL K "lone" "lot") := by
  refine F.ok sx_Lone (fun vs H Q E h => by obtain ⟨_, _, _, _, rfl, _⟩ := h; rfl) fun cdv A outer s H vs Q E hr hsp => ⟨_, pss_cons (ps_expr (pe_cfn T FB hr (by rfl) hm bB (passAt takes0) (pa_cons (pv 0) (pa_cons pe_str pa_nil)))) (pss_one (ps_ost (pv 0) (pe_callTy call_list_of (by rfl) g_list bo_list (pa_cons (pv 1) pa_nil)))), ?_⟩
  obtain ⟨a, C, q, us, rfl, T, n0, n1, ha, hq, hqa, k⟩ := hsp
  refine ⟨_, rfl, a, C, _, _, rfl, rfl, T, fun p hp => by rw [List.mem_singleton] at hp; subst hp; exact n0, ha, fun H' d xd => ?_⟩
  refine ⟨_, rfl, q, us, rfl, .inl (xdone_seq xd hq hqa), fun l hl => ?_⟩
  obtain ⟨h1, h2, h3, h4, h5⟩ := xdone_lot (us := us) (p := ("lot", .ref l)) xd hl
  exact ⟨_, rfl, a, C, rfl, T, n1, .inr ⟨d, _, h3, h4, by simp, k _ d l h1 h2 h5⟩⟩
theorem xiH_Lone {CB fB : Addr} {fdB : FuncData} (F : FunD K "__init__" "Lone.__init__" (defArgs (inClass (top 5) 0)) (defBody (inClass (top 5) 0)) (defScope (inClass (top 5) 0)) [] [] f fd) (T : CFn K CB fB "__init__") (hm : mg "SlipError" = some (.ref CB)) (FB : L2H.FnH P w K mg base (L2.CX P w) 1 fB fdB ["self", "word"] (spX K gX0)) (bB : Binds K fdB ["self", "word"] []) (g_list : mg "list" = none) : L2H.FnH P w K mg base (L2.CX P w) 2 f fd ["self", "lot"] (spXL K "lone" "lot") := by
  refine okH F sx_Lone (fun vs H Q E h => by obtain ⟨_, _, _, _, rfl, _⟩ := h; rfl) fun cdv A outer s H vs Q E p hot hr hsp => ⟨_, pss_cons (ps_expr (pe_cfnH T FB hr ⟨p, hot, List.mem_singleton_self _⟩ (by rfl) hm bB (passAt takes0) (pa_cons (pv 0) (pa_cons pe_str pa_nil)))) (pss_one (ps_ost (pv 0) (pe_callTy call_list_of (by rfl) g_list bo_list (pa_cons (pv 1) pa_nil)))), ?_⟩
  obtain ⟨a, C, q, us, rfl, T, n0, n1, ha, hq, hqa, k⟩ := hsp
  refine ⟨_, rfl, a, C, _, _, rfl, rfl, T, fun p hp => by rw [List.mem_singleton] at hp; subst hp; exact n0, ha, fun H' d xd => ?_⟩
  refine ⟨_, rfl, q, us, rfl, .inl (xdone_seq xd hq hqa), fun l hl => ?_⟩
  obtain ⟨h1, h2, h3, h4, h5⟩ := xdone_lot (us := us) (p := ("lot", .ref l)) xd hl
  exact ⟨_, rfl, a, C, rfl, T, n1, .inr ⟨d, _, h3, h4, by simp, k _ d l h1 h2 h5⟩⟩
theorem sc__law_box : FnScope ["_law_script"] ["_law_script"] (defScope (top 16)) := ⟨rfl, rfl, rfl, by decide +kernel, rfl, by decide +kernel, by decide +kernel⟩
theorem ok__law_box (hK : L.K = K) (F : FunD K "_law_box" "_law_box" (defArgs (top 16)) (defBody (top 16)) (defScope (top 16)) [] [] f fd) (gl : mg "_law_box" = some (.ref f)) (g_list : mg "list" = none) : Df P w K mg base L "_law_box" 1 ["_law_script"] Cm.m__law_box :=
  ⟨f, fd, fn_okM F sc__law_box rfl rfl (fun cdv A outer s H E hr tk => by
          have sc := sc__law_box
          exact (mss_one (ms_ret (me_lst (ma_cons (me_cty (cm_list hK) (nx1 nxList) (by rfl) g_list bo_list (ma_cons (me_sl hK (ev 0) mo_none (mo_some me_int)) ma_nil)) (ma_cons me_int (ma_cons me_int (ma_cons me_int ma_nil)))))))), F.bindsN (fun _ _ _ _ _ _ us hl => match us, hl with | [_], _ => rfl), F.kp, gl⟩
theorem sc__law_take : FnScope ["_law_box_here", "_law_sides", "_law_cell", "_law_seed", "_law_tail"] ["_law_box_here", "_law_sides"] (defScope (top 17)) := ⟨rfl, rfl, rfl, by decide +kernel, rfl, by decide +kernel, by decide +kernel⟩
theorem ok__law_take (hK : L.K = K) (F : FunD K "_law_take" "_law_take" (defArgs (top 17)) (defBody (top 17)) (defScope (top 17)) [] [] f fd) (gl : mg "_law_take" = some (.ref f)) (g_len : mg "len" = none) : Df P w K mg base L "_law_take" 1 ["_law_box_here", "_law_sides"] Cm.m__law_take :=
  ⟨f, fd, fn_okM F sc__law_take rfl rfl (fun cdv A outer s H E hr tk => by
          have sc := sc__law_take
          exact (mss_cons (ms_if (mt_cmpo om_gt nx_int (me_ix (u1 hr) (ev 0) me_int) me_int (nomark _)) (mss_cons (ms_asg (me_ix (u1 hr) (ev 0) me_int) (gv 4 sc.nd))
          (mss_cons (ms_asg (me_op om_fdiv nx_intC (ev 4) (ev 1)) (mg_sub (u1 hr) (ev 0) me_int))
          (mss_one (ms_ret (me_op om_mod nx_intC (ev 4) (ev 1)))))) mss_nil)
          (mss_cons (ms_asg me_int (gv 2 sc.nd))
          (mss_cons (ms_if (mt_cmpo om_lt nx_int (me_ix (u1 hr) (ev 0) me_int) (me_cb (cm_len hK) (nx1 nxLen) (by rfl) g_len bo_len (ma_cons (me_ix (u1 hr) (ev 0) me_int) ma_nil)) (nomark _)) (mss_cons (ms_asg (me_ix (u1 hr) (me_ix (u1 hr) (ev 0) me_int) (me_ix (u1 hr) (ev 0) me_int)) (gv 2 sc.nd))
          (mss_one (ms_augI (u1 hr) nx_int ipm_add (ev 0) me_int me_int))) mss_nil)
          (mss_cons (ms_if (mt_cmpo om_ge nx_int (ev 2) (me_op om_pow nx_intC me_int me_int) (nomark _)) (mss_cons (ms_asg (me_op om_fdiv nx_intC (ev 2) (ev 1)) (mg_sub (u1 hr) (ev 0) me_int))
          (mss_one (ms_ret (me_op om_mod nx_intC (ev 2) (ev 1))))) mss_nil)
          (mss_cons (ms_asg (me_ix (u1 hr) (ev 0) me_int) (gv 3 sc.nd))
          (mss_cons (ms_asg (me_op om_mod nx_intC (me_op om_add nx_add (me_op om_add nx_add (me_op om_add nx_add (me_op om_pow nx_intC (ev 3) me_int) (me_op om_mul nx_mul me_int (ev 3))) (me_op om_mul nx_mul me_int (me_op om_mod nx_intC (ev 2) me_int))) me_int) me_int) (mg_sub (u1 hr) (ev 0) me_int))
          (mss_one (ms_ret (me_op om_mod nx_intC (me_op om_fdiv nx_intC (me_ix (u1 hr) (ev 0) me_int) me_int) (ev 1))))))))))), F.bindsN (fun _ _ _ _ _ _ us hl => match us, hl with | [_, _], _ => rfl), F.kp, gl⟩
theorem sc__law_shuffled : FnScope ["_law_box_here", "_law_some", "_law_found", "_law_one"] ["_law_box_here", "_law_some"] (defScope (top 20)) := ⟨rfl, rfl, rfl, by decide +kernel, rfl, by decide +kernel, by decide +kernel⟩
theorem ok__law_shuffled (hK : L.K = K) (F : FunD K "_law_shuffled" "_law_shuffled" (defArgs (top 20)) (defBody (top 20)) (defScope (top 20)) [] [] f fd) (gl : mg "_law_shuffled" = some (.ref f)) (D__law_take : Df P w K mg base L "_law_take" 1 ["_law_box_here", "_law_sides"] Cm.m__law_take) (g_len : mg "len" = none) : Df P w K mg base L "_law_shuffled" 2 ["_law_box_here", "_law_some"] Cm.m__law_shuffled :=
  ⟨f, fd, fn_okM F sc__law_shuffled rfl rfl (fun cdv A outer s H E hr tk => by
          have sc := sc__law_shuffled
          exact (mss_cons (ms_asg (me_lst ma_nil) (gv 2 sc.nd))
          (mss_cons (ms_for (passes_of (by rfl)) (by rfl) (mi_seq hK (ev 1)) (gv 3 sc.nd) (mss_one (ms_expr (me_bm hK PySem.F.plainAttrs_list PySem.F.slot_list_insert PySem.F.type_list_insert lm_insert nxLm (ev 2) (ma_cons (me_d D__law_take hr tk (ma_cons (ev 0) (ma_cons (me_op om_add nx_add (me_cb (cm_len hK) (nx1 nxLen) (by rfl) g_len bo_len (ma_cons (ev 2) ma_nil)) me_int) ma_nil))) (ma_cons (ev 3) ma_nil))))))
          (mss_one (ms_ret (ev 2)))))), F.bindsN (fun _ _ _ _ _ _ us hl => match us, hl with | [_, _], _ => rfl), F.kp, gl⟩
theorem sc__law_same : FnScope ["_law_found", "_law_due", "_law_x", "_law_y"] ["_law_found", "_law_due"] (defScope (top 18)) := ⟨rfl, rfl, rfl, by decide +kernel, rfl, by decide +kernel, by decide +kernel⟩
theorem ok__law_same (hK : L.K = K) (F : FunD K "_law_same" "_law_same" (defArgs (top 18)) (defBody (top 18)) (defScope (top 18)) [] [] f fd) (gl : mg "_law_same" = some (.ref f)) (g_isinstance : mg "isinstance" = none) (g_tuple : mg "tuple" = none) (g_list : mg "list" = none) (g_zip : mg "zip" = none) (g_all : mg "all" = none) (g_len : mg "len" = none) (g_bool : mg "bool" = none) (g_int : mg "int" = none) (g_str : mg "str" = none) : ∀ n, Df P w K mg base L "_law_same" (1 + n) ["_law_found", "_law_due"] (Cm.m__law_same n)
  | 0 => ⟨f, fd, fn_never F sc__law_same, F.bindsN (fun _ _ _ _ _ _ us hl => match us, hl with | [_, _], _ => rfl), F.kp, gl⟩
  | n + 1 => ⟨f, fd, fn_okM F sc__law_same rfl rfl (by
    have D_self := ok__law_same hK F gl g_isinstance g_tuple g_list g_zip g_all g_len g_bool g_int g_str n
    exact fun cdv A outer s H E hr tk => by
          have sc := sc__law_same
          exact (mss_cons (ms_if (mt_tst (me_isiT (ev 1) (pa_ty (pe_bltn (v := .ty "list") (by rfl) g_list bo_list (by rfl)) (pa_ty (pe_bltn (v := .ty "tuple") (by rfl) g_tuple bo_tuple (by rfl)) pa_ty0)) (by decide) (by rfl) g_isinstance bo_isinstance)) (mss_cons (ms_if (tw (mw_or (mt_cmpo (om_ne hr.units hK) nx_eq (me_isi (ev 0) (pe_bltn (v := .ty "list") (by rfl) g_list bo_list (by rfl)) (by rfl) g_isinstance bo_isinstance) (me_isi (ev 1) (pe_bltn (v := .ty "list") (by rfl) g_list bo_list (by rfl)) (by rfl) g_isinstance bo_isinstance) (nomark _)) (mw_or1 (mt_cmpo (om_ne hr.units hK) nx_eq (me_isi (ev 0) (pe_bltn (v := .ty "tuple") (by rfl) g_tuple bo_tuple (by rfl)) (by rfl) g_isinstance bo_isinstance) (me_isi (ev 1) (pe_bltn (v := .ty "tuple") (by rfl) g_tuple bo_tuple (by rfl)) (by rfl) g_isinstance bo_isinstance) (nomark _))))) (mss_one (ms_ret me_bl)) mss_nil)
          (mss_one (ms_ret (me_and (me_cmp (om_eq hr.units hK) nx_eq (me_cb (cm_len hK) (nx1 nxLen) (by rfl) g_len bo_len (ma_cons (ev 0) ma_nil)) (me_cb (cm_len hK) (nx1 nxLen) (by rfl) g_len bo_len (ma_cons (ev 1) ma_nil)) (nomark _)) (me_one (me_cb (cm_all hK (by rfl)) (nx1 nxAll) (by rfl) g_all bo_all (ma_cons (me_lc (by rfl) sc.nd (mi_zip hK (by rfl) g_zip (ma_cons (ev 0) (ma_cons (ev 1) ma_nil))) (blkOk_by (own := [("_law_x", 2), ("_law_y", 3)]) (by kernel_rfl)) (fun _ _ _ _ _ => (mgw_tup (by rfl) (mgsw_cons (gw 2 sc.nd) (mgsw_cons (gw 3 sc.nd) mgsw_nil)))) (fun _ _ _ _ _ => mts_nil) (fun _ _ _ _ _ => (me_d D_self hr tkF (ma_cons (ev 2) (ma_cons (ev 3) ma_nil)) (hkj := Nat.le_refl _)))) ma_nil))))))) mss_nil)
          (mss_cons (ms_if (tw (mw_or (mt_cmpo (om_ne hr.units hK) nx_eq (me_cmp om_isN nx_is (ev 0) me_non (nomark _)) (me_cmp om_isN nx_is (ev 1) me_non (nomark _)) (nomark _)) (mw_or1 (mt_cmpo (om_ne hr.units hK) nx_eq (me_isi (ev 0) (pe_bltn (v := .ty "bool") (by rfl) g_bool bo_bool (by rfl)) (by rfl) g_isinstance bo_isinstance) (me_isi (ev 1) (pe_bltn (v := .ty "bool") (by rfl) g_bool bo_bool (by rfl)) (by rfl) g_isinstance bo_isinstance) (nomark _))))) (mss_one (ms_ret me_bl)) mss_nil)
          (mss_cons (ms_if (mt_cmpo (om_ne hr.units hK) nx_eq (me_isi (ev 0) (pe_bltn (v := .ty "int") (by rfl) g_int bo_int (by rfl)) (by rfl) g_isinstance bo_isinstance) (me_isi (ev 1) (pe_bltn (v := .ty "int") (by rfl) g_int bo_int (by rfl)) (by rfl) g_isinstance bo_isinstance) (nomark _)) (mss_one (ms_ret me_bl)) mss_nil)
          (mss_one (ms_ret (me_and (me_cmp (om_eq hr.units hK) nx_eq (me_isi (ev 0) (pe_bltn (v := .ty "str") (by rfl) g_str bo_str (by rfl)) (by rfl) g_isinstance bo_isinstance) (me_isi (ev 1) (pe_bltn (v := .ty "str") (by rfl) g_str bo_str (by rfl)) (by rfl) g_isinstance bo_isinstance) (nomark _)) (me_one (me_cmp (om_eq hr.units hK) nx_eq (ev 0) (ev 1) (nomark _)))))))))), F.bindsN (fun _ _ _ _ _ _ us hl => match us, hl with | [_, _], _ => rfl), F.kp, gl⟩
theorem sc__law_pairs : FnScope ["_law_many", "_law_one", "_law_other"] ["_law_many"] (defScope (top 19)) := ⟨rfl, rfl, rfl, by decide +kernel, rfl, by decide +kernel, by decide +kernel⟩
theorem ok__law_pairs (hK : L.K = K) (F : FunD K "_law_pairs" "_law_pairs" (defArgs (top 19)) (defBody (top 19)) (defScope (top 19)) [] [] f fd) (gl : mg "_law_pairs" = some (.ref f)) (g_range : mg "range" = none) (g_sum : mg "sum" = none) : Df P w K mg base L "_law_pairs" 1 ["_law_many"] Cm.m__law_pairs :=
  ⟨f, fd, fn_okM F sc__law_pairs rfl rfl (fun cdv A outer s H E hr tk => by
          have sc := sc__law_pairs
          exact (mss_one (ms_ret (me_cb (cm_sumL hK (by rfl)) (nx2 nxSumL) (by rfl) g_sum bo_sum (ma_cons (me_lc (by rfl) sc.nd (mi_rng1 (by rfl) g_range (ma_cons (ev 0) ma_nil)) (blkOk_by (own := [("_law_one", 1)]) (by kernel_rfl)) (fun _ _ _ _ _ => (gw 1 sc.nd)) (fun _ _ _ _ _ => mts_nil) (fun _ _ _ _ _ => (me_lc (by rfl) sc.nd (mi_rng2 (by rfl) g_range (ma_cons (me_op om_add nx_add (ev 1) me_int) (ma_cons (ev 0) ma_nil))) (blkOk_by (own := [("_law_other", 2)]) (by kernel_rfl)) (fun _ _ _ _ _ => (gw 2 sc.nd)) (fun _ _ _ _ _ => mts_nil) (fun _ _ _ _ _ => (me_tup (ma_cons (ev 1) (ma_cons (ev 2) ma_nil))))))) (ma_cons (me_lst ma_nil) ma_nil)))))), F.bindsN (fun _ _ _ _ _ _ us hl => match us, hl with | [_], _ => rfl), F.kp, gl⟩
theorem sc__law_some_ties : FnScope ["_law_box_here", "_law_many", "_law_odds", "_law_found", "_law_one", "_law_other"] ["_law_box_here", "_law_many", "_law_odds"] (defScope (top 21)) := ⟨rfl, rfl, rfl, by decide +kernel, rfl, by decide +kernel, by decide +kernel⟩
theorem ok__law_some_ties (hK : L.K = K) (F : FunD K "_law_some_ties" "_law_some_ties" (defArgs (top 21)) (defBody (top 21)) (defScope (top 21)) [] [] f fd) (gl : mg "_law_some_ties" = some (.ref f)) (D__law_pairs : Df P w K mg base L "_law_pairs" 1 ["_law_many"] Cm.m__law_pairs) (D__law_take : Df P w K mg base L "_law_take" 1 ["_law_box_here", "_law_sides"] Cm.m__law_take) (g_len : mg "len" = none) : Df P w K mg base L "_law_some_ties" 2 ["_law_box_here", "_law_many", "_law_odds"] Cm.m__law_some_ties :=
  ⟨f, fd, fn_okM F sc__law_some_ties rfl rfl (fun cdv A outer s H E hr tk => by
          have sc := sc__law_some_ties
          exact (mss_cons (ms_asg (me_lst ma_nil) (gv 3 sc.nd))
          (mss_cons (ms_for (passes_of (by rfl)) (by rfl) (mi_seq hK (me_d D__law_pairs hr tk (ma_cons (ev 1) ma_nil))) (mg_tup (by rfl) (mgs_cons (gv 4 sc.nd) (mgs_cons (gv 5 sc.nd) mgs_nil))) (mss_one (ms_if (tw (mw_and (mt_cmpo om_lt nx_int (me_cb (cm_len hK) (nx1 nxLen) (by rfl) g_len bo_len (ma_cons (ev 3) ma_nil)) me_int (nomark _)) (mw_and1 (mt_cmpo om_lt nx_int (me_d D__law_take hr tk (ma_cons (ev 0) (ma_cons me_int ma_nil))) (ev 2) (nomark _))))) (mss_one (ms_expr (me_bm hK PySem.F.plainAttrs_list PySem.F.slot_list_append PySem.F.type_list_append lm_append nxLm (ev 3) (ma_cons (me_tup (ma_cons (ev 4) (ma_cons (ev 5) (ma_cons (me_op om_add nx_add me_int (me_d D__law_take hr tk (ma_cons (ev 0) (ma_cons (me_ix (u1 hr) (me_lst (ma_cons me_int (ma_cons me_int ma_nil))) (me_d D__law_take hr tk (ma_cons (ev 0) (ma_cons me_int ma_nil)))) ma_nil)))) ma_nil)))) ma_nil)))) mss_nil)))
          (mss_one (ms_ret (ev 3)))))), F.bindsN (fun _ _ _ _ _ _ us hl => match us, hl with | [_, _, _], _ => rfl), F.kp, gl⟩
theorem sc_looked_house : FnScope ["many", "house"] ["many", "house"] (defScope (top 11)) := ⟨rfl, rfl, rfl, by decide +kernel, rfl, by decide +kernel, by decide +kernel⟩
theorem ok_looked_house (hK : L.K = K) (F : FunD K "looked_house" "looked_house" (defArgs (top 11)) (defBody (top 11)) (defScope (top 11)) [] [] f fd) (gl : mg "looked_house" = some (.ref f)) (X_NoHouse : XDf P w K mg base L "NoHouse" 12 2 "nohouse" ["house"]) : DfN P w K mg base L "looked_house" 4 ["many", "house"] Cm.m_looked_house :=
  ⟨f, fd, fn_okMN F sc_looked_house rfl rfl (fun cdv A outer s H E hr tk => by
          have sc := sc_looked_house
          exact (mss_one (ms_if (mt_not (mt_chain op_le op_lt me_int (ev 1) (ev 0))) (mss_one (ms_raiseN hK (by rfl) X_NoHouse hr tk (ma_cons (ev 1) ma_nil) (lenA_cons lenA_nil))) mss_nil))), F.bindsN (fun _ _ _ _ _ _ us hl => match us, hl with | [_, _], _ => rfl), F.kp, gl⟩
theorem sc_beside : FnScope ["many", "ties", "found", "one", "other", "price", "house", "row"] ["many", "ties"] (defScope (top 7)) := ⟨rfl, rfl, rfl, by decide +kernel, rfl, by decide +kernel, by decide +kernel⟩
theorem ok_beside (hK : L.K = K) (F : FunD K "beside" "beside" (defArgs (top 7)) (defBody (top 7)) (defScope (top 7)) [] [] f fd) (gl : mg "beside" = some (.ref f)) (g_range : mg "range" = none) (g_sorted : mg "sorted" = none) : DfN P w K mg base L "beside" 1 ["many", "ties"] Cm.m_beside :=
  ⟨f, fd, fn_okMN F sc_beside rfl rfl (fun cdv A outer s H E hr tk => by
          have sc := sc_beside
          exact (mss_cons (ms_setLc (i := 2) (by rfl) sc.nd (by rfl) (by rfl) (sw_true (by rfl) (by rfl) (by rfl) (by rfl)) (mi_rng1 (by rfl) g_range (ma_cons (ev 0) ma_nil)) (blkOk_by (own := [("house", 6)]) (by kernel_rfl)) (fun _ _ _ _ _ => (gw 6 sc.nd)) (fun _ _ _ _ _ => mts_nil) (fun _ _ _ _ _ => (me_lst ma_nil)))
          (mss_cons (ms_for (passes_of (by rfl)) (by rfl) (mi_seq hK (ev 1)) (mg_tup (by rfl) (mgs_cons (gv 3 sc.nd) (mgs_cons (gv 4 sc.nd) (mgs_cons (gv 5 sc.nd) mgs_nil)))) (mss_cons (ms_expr (me_bm hK PySem.F.plainAttrs_list PySem.F.slot_list_append PySem.F.type_list_append lm_append nxLm (me_ix (u1 hr) (ev 2) (ev 3)) (ma_cons (me_tup (ma_cons (ev 4) (ma_cons (ev 5) ma_nil))) ma_nil)))
          (mss_one (ms_expr (me_bm hK PySem.F.plainAttrs_list PySem.F.slot_list_append PySem.F.type_list_append lm_append nxLm (me_ix (u1 hr) (ev 2) (ev 4)) (ma_cons (me_tup (ma_cons (ev 3) (ma_cons (ev 5) ma_nil))) ma_nil))))))
          (mss_one (ms_ret (me_lc (by rfl) sc.nd (mi_seq hK (ev 2)) (blkOk_by (own := [("row", 7)]) (by kernel_rfl)) (fun _ _ _ _ _ => (gw 7 sc.nd)) (fun _ _ _ _ _ => mts_nil) (fun _ _ _ _ _ => (me_cb (cm_sorted hK hr.units) (nx1 nxSorted) (by rfl) g_sorted bo_sorted (ma_cons (ev 7) ma_nil))))))))), F.bindsN (fun _ _ _ _ _ _ us hl => match us, hl with | [_, _], _ => rfl), F.kp, gl⟩
theorem sc_far : FnScope ["many", "ties", "goal", "near", "told", "turned", "house", "other", "price"] ["many", "ties", "goal"] (defScope (top 8)) := ⟨rfl, rfl, rfl, by decide +kernel, rfl, by decide +kernel, by decide +kernel⟩
theorem ok_far (hK : L.K = K) (F : FunD K "far" "far" (defArgs (top 8)) (defBody (top 8)) (defScope (top 8)) [] [] f fd) (gl : mg "far" = some (.ref f)) (DN_looked_house : DfN P w K mg base L "looked_house" 4 ["many", "house"] Cm.m_looked_house) (DN_beside : DfN P w K mg base L "beside" 1 ["many", "ties"] Cm.m_beside) (g_range : mg "range" = none) : DfN P w K mg base L "far" 5 ["many", "ties", "goal"] Cm.m_far :=
  ⟨f, fd, fn_okMN F sc_far rfl rfl (fun cdv A outer s H E hr tk => by
          have sc := sc_far
          exact (mss_cons (ms_expr (me_dN DN_looked_house hr tk (ma_cons (ev 0) (ma_cons (ev 2) ma_nil))))
          (mss_cons (ms_asg (me_dN DN_beside hr tk (ma_cons (ev 0) (ma_cons (ev 1) ma_nil))) (gv 3 sc.nd))
          (mss_cons (ms_setLc (i := 4) (by rfl) sc.nd (by rfl) (by rfl) (sw_true (by rfl) (by rfl) (by rfl) (by rfl)) (mi_rng1 (by rfl) g_range (ma_cons (ev 0) ma_nil)) (blkOk_by (own := [("house", 6)]) (by kernel_rfl)) (fun _ _ _ _ _ => (gw 6 sc.nd)) (fun _ _ _ _ _ => mts_nil) (fun _ _ _ _ _ => me_non))
          (mss_cons (ms_asg me_int (mg_sub (u1 hr) (ev 4) (ev 2)))
          (mss_cons (ms_asg me_bl (gv 5 sc.nd))
          (mss_cons (ms_while 1000 (passes_of (by rfl)) (mt_tst (ev 5)) (mss_cons (ms_asg me_bl (gv 5 sc.nd))
          (mss_one (ms_for (passes_of (by rfl)) (by rfl) (mi_rng1 (by rfl) g_range (ma_cons (ev 0) ma_nil)) (gv 6 sc.nd) (mss_one (ms_for (passes_of (by rfl)) (by rfl) (mi_seq hK (me_ix (u1 hr) (ev 3) (ev 6))) (mg_tup (by rfl) (mgs_cons (gv 7 sc.nd) (mgs_cons (gv 8 sc.nd) mgs_nil))) (mss_one (ms_if (tw (mw_and (mt_cmpo om_notN nx_is (me_ix (u1 hr) (ev 4) (ev 7)) me_non (nomark _)) (mw_and1 (tw (mw_or (mt_cmpo om_isN nx_is (me_ix (u1 hr) (ev 4) (ev 6)) me_non (nomark _)) (mw_or1 (mt_cmpo om_lt nx_int (me_op om_add nx_add (me_ix (u1 hr) (ev 4) (ev 7)) (ev 8)) (me_ix (u1 hr) (ev 4) (ev 6)) (nomark _)))))))) (mss_cons (ms_asg (me_op om_add nx_add (me_ix (u1 hr) (ev 4) (ev 7)) (ev 8)) (mg_sub (u1 hr) (ev 4) (ev 6)))
          (mss_one (ms_asg me_bl (gv 5 sc.nd)))) mss_nil))))))))
          (mss_one (ms_ret (ev 4)))))))))), F.bindsN (fun _ _ _ _ _ _ us hl => match us, hl with | [_, _, _], _ => rfl), F.kp, gl⟩
theorem sc_nexts : FnScope ["many", "ties", "goal", "told", "near", "found", "house", "steps", "other", "price"] ["many", "ties", "goal"] (defScope (top 9)) := ⟨rfl, rfl, rfl, by decide +kernel, rfl, by decide +kernel, by decide +kernel⟩
theorem ok_nexts (hK : L.K = K) (F : FunD K "nexts" "nexts" (defArgs (top 9)) (defBody (top 9)) (defScope (top 9)) [] [] f fd) (gl : mg "nexts" = some (.ref f)) (DN_far : DfN P w K mg base L "far" 5 ["many", "ties", "goal"] Cm.m_far) (DN_beside : DfN P w K mg base L "beside" 1 ["many", "ties"] Cm.m_beside) (g_range : mg "range" = none) (g_len : mg "len" = none) : DfN P w K mg base L "nexts" 6 ["many", "ties", "goal"] Cm.m_nexts :=
  ⟨f, fd, fn_okMN F sc_nexts rfl rfl (fun cdv A outer s H E hr tk => by
          have sc := sc_nexts
          exact (mss_cons (ms_asg (me_dN DN_far hr tk (ma_cons (ev 0) (ma_cons (ev 1) (ma_cons (ev 2) ma_nil)))) (gv 3 sc.nd))
          (mss_cons (ms_asg (me_dN DN_beside hr tk (ma_cons (ev 0) (ma_cons (ev 1) ma_nil))) (gv 4 sc.nd))
          (mss_cons (ms_asg (me_lst ma_nil) (gv 5 sc.nd))
          (mss_cons (ms_for (passes_of (by rfl)) (by rfl) (mi_rng1 (by rfl) g_range (ma_cons (ev 0) ma_nil)) (gv 6 sc.nd) (mss_cons (ms_setLc (i := 7) (by rfl) sc.nd (by rfl) (by rfl) (sw_true (by rfl) (by rfl) (by rfl) (by rfl)) (mi_seq hK (me_ix (u1 hr) (ev 4) (ev 6))) (blkOk_by (own := [("other", 8), ("price", 9)]) (by kernel_rfl)) (fun _ _ _ _ _ => (mgw_tup (by rfl) (mgsw_cons (gw 8 sc.nd) (mgsw_cons (gw 9 sc.nd) mgsw_nil)))) (fun _ _ _ _ _ => (mts_one (tw (mw_and (mt_cmpo (om_ne hr.units hK) nx_eq (ev 6) (ev 2) (nomark _)) (mw_and (mt_cmpo om_notN nx_is (me_ix (u1 hr) (ev 3) (ev 6)) me_non (nomark _)) (mw_and1 (mt_cmpo (om_eq hr.units hK) nx_eq (me_op om_add nx_add (me_ix (u1 hr) (ev 3) (ev 8)) (ev 9)) (me_ix (u1 hr) (ev 3) (ev 6)) (nomark _)))))))) (fun _ _ _ _ _ => (ev 8)))
          (mss_one (ms_expr (me_bm hK PySem.F.plainAttrs_list PySem.F.slot_list_append PySem.F.type_list_append lm_append nxLm (ev 5) (ma_cons (me_if (mt_cmpo om_gt nx_int (me_cb (cm_len hK) (nx1 nxLen) (by rfl) g_len bo_len (ma_cons (ev 7) ma_nil)) me_int (nomark _)) (me_ix (u1 hr) (ev 7) me_int) me_non) ma_nil))))))
          (mss_one (ms_ret (ev 5)))))))), F.bindsN (fun _ _ _ _ _ _ us hl => match us, hl with | [_, _, _], _ => rfl), F.kp, gl⟩
theorem sc_reached : FnScope ["many", "ties", "start", "told", "house"] ["many", "ties", "start"] (defScope (top 10)) := ⟨rfl, rfl, rfl, by decide +kernel, rfl, by decide +kernel, by decide +kernel⟩
theorem ok_reached (hK : L.K = K) (F : FunD K "reached" "reached" (defArgs (top 10)) (defBody (top 10)) (defScope (top 10)) [] [] f fd) (gl : mg "reached" = some (.ref f)) (DN_far : DfN P w K mg base L "far" 5 ["many", "ties", "goal"] Cm.m_far) (g_range : mg "range" = none) : DfN P w K mg base L "reached" 6 ["many", "ties", "start"] Cm.m_reached :=
  ⟨f, fd, fn_okMN F sc_reached rfl rfl (fun cdv A outer s H E hr tk => by
          have sc := sc_reached
          exact (mss_cons (ms_asg (me_dN DN_far hr tk (ma_cons (ev 0) (ma_cons (ev 1) (ma_cons (ev 2) ma_nil)))) (gv 3 sc.nd))
          (mss_one (ms_ret (me_lc (by rfl) sc.nd (mi_rng1 (by rfl) g_range (ma_cons (ev 0) ma_nil)) (blkOk_by (own := [("house", 4)]) (by kernel_rfl)) (fun _ _ _ _ _ => (gw 4 sc.nd)) (fun _ _ _ _ _ => (mts_one (mt_cmpo om_notN nx_is (me_ix (u1 hr) (ev 3) (ev 4)) me_non (nomark _)))) (fun _ _ _ _ _ => (ev 4))))))), F.bindsN (fun _ _ _ _ _ _ us hl => match us, hl with | [_, _, _], _ => rfl), F.kp, gl⟩
theorem sc_least_way : FnScope ["many", "ties", "start", "goal", "told", "steps", "way"] ["many", "ties", "start", "goal"] (defScope (top 12)) := ⟨rfl, rfl, rfl, by decide +kernel, rfl, by decide +kernel, by decide +kernel⟩
theorem ok_least_way (hK : L.K = K) (F : FunD K "least_way" "least_way" (defArgs (top 12)) (defBody (top 12)) (defScope (top 12)) [] [] f fd) (gl : mg "least_way" = some (.ref f)) (DN_looked_house : DfN P w K mg base L "looked_house" 4 ["many", "house"] Cm.m_looked_house) (DN_far : DfN P w K mg base L "far" 5 ["many", "ties", "goal"] Cm.m_far) (DN_reached : DfN P w K mg base L "reached" 6 ["many", "ties", "start"] Cm.m_reached) (DN_nexts : DfN P w K mg base L "nexts" 6 ["many", "ties", "goal"] Cm.m_nexts) (g_tuple : mg "tuple" = none) (X_NoWay : XDl P w K mg base L "NoWay" 17 2 "noway" "lot") : DfN P w K mg base L "least_way" 7 ["many", "ties", "start", "goal"] Cm.m_least_way :=
  ⟨f, fd, fn_okMN F sc_least_way rfl rfl (fun cdv A outer s H E hr tk => by
          have sc := sc_least_way
          exact (mss_cons (ms_expr (me_dN DN_looked_house hr tk (ma_cons (ev 0) (ma_cons (ev 2) ma_nil))))
          (mss_cons (ms_expr (me_dN DN_looked_house hr tk (ma_cons (ev 0) (ma_cons (ev 3) ma_nil))))
          (mss_cons (ms_asg (me_dN DN_far hr tk (ma_cons (ev 0) (ma_cons (ev 1) (ma_cons (ev 3) ma_nil)))) (gv 4 sc.nd))
          (mss_cons (ms_if (mt_cmpo om_isN nx_is (me_ix (u1 hr) (ev 4) (ev 2)) me_non (nomark _)) (mss_one (ms_raiseLN (by rfl) X_NoWay hr tk (me_dN DN_reached hr tk (ma_cons (ev 0) (ma_cons (ev 1) (ma_cons (ev 2) ma_nil)))))) mss_nil)
          (mss_cons (ms_asg (me_dN DN_nexts hr tk (ma_cons (ev 0) (ma_cons (ev 1) (ma_cons (ev 3) ma_nil)))) (gv 5 sc.nd))
          (mss_cons (ms_asg (me_lst (ma_cons (ev 2) ma_nil)) (gv 6 sc.nd))
          (mss_cons (ms_while 1000 (passes_of (by rfl)) (mt_cmpo (om_ne hr.units hK) nx_eq (me_ix (u1 hr) (ev 6) (me_un um_neg nxNeg me_int)) (ev 3) (nomark _)) (mss_one (ms_expr (me_bm hK PySem.F.plainAttrs_list PySem.F.slot_list_append PySem.F.type_list_append lm_append nxLm (ev 6) (ma_cons (me_ix (u1 hr) (ev 5) (me_ix (u1 hr) (ev 6) (me_un um_neg nxNeg me_int))) ma_nil)))))
          (mss_one (ms_ret (me_tup (ma_cons (me_ix (u1 hr) (ev 4) (ev 2)) (ma_cons (me_cty (cm_tuple hK) (nx1 nxTuple) (by rfl) g_tuple bo_tuple (ma_cons (ev 6) ma_nil)) ma_nil))))))))))))), F.bindsN (fun _ _ _ _ _ _ us hl => match us, hl with | [_, _, _, _], _ => rfl), F.kp, gl⟩
theorem sc_joins : FnScope ["tie", "one", "other"] ["tie", "one", "other"] (defScope (top 13)) := ⟨rfl, rfl, rfl, by decide +kernel, rfl, by decide +kernel, by decide +kernel⟩
theorem ok_joins (hK : L.K = K) (F : FunD K "joins" "joins" (defArgs (top 13)) (defBody (top 13)) (defScope (top 13)) [] [] f fd) (gl : mg "joins" = some (.ref f)) (g_sorted : mg "sorted" = none) : Df P w K mg base L "joins" 1 ["tie", "one", "other"] m_joins :=
  ⟨f, fd, fn_okM F sc_joins rfl rfl (fun cdv A outer s H E hr tk => by
          have sc := sc_joins
          exact (mss_one (ms_ret (me_cmp (om_eq hr.units hK) nx_eq (me_cb (cm_sortB hK hr.units) (nx1 nxSortB) (by rfl) g_sorted bo_sorted (ma_cons (me_sl hK (ev 0) mo_none (mo_some me_int)) ma_nil)) (me_cb (cm_sorted hK hr.units) (nx1 nxSorted) (by rfl) g_sorted bo_sorted (ma_cons (me_lst (ma_cons (ev 1) (ma_cons (ev 2) ma_nil))) ma_nil)) (nomark _))))), F.bindsN (fun _ _ _ _ _ _ us hl => match us, hl with | [_, _, _], _ => rfl), F.kp, gl⟩
theorem sc_round_way : FnScope ["many", "ties", "one", "other", "left", "why", "tie"] ["many", "ties", "one", "other"] (defScope (top 14)) := ⟨rfl, rfl, rfl, by decide +kernel, rfl, by decide +kernel, by decide +kernel⟩
theorem ok_round_way (hK : L.K = K) (F : FunD K "round_way" "round_way" (defArgs (top 14)) (defBody (top 14)) (defScope (top 14)) [] [] f fd) (gl : mg "round_way" = some (.ref f)) (D_looked_house : Df P w K mg base L "looked_house" 4 ["many", "house"] Cm.m_looked_house) (D_joins : Df P w K mg base L "joins" 1 ["tie", "one", "other"] m_joins) (DN_least_way : DfN P w K mg base L "least_way" 7 ["many", "ties", "start", "goal"] Cm.m_least_way) (X_NoTie : XDf P w K mg base L "NoTie" 13 2 "notie" ["one", "other"]) (C_NoWay : mg "NoWay" = some (.ref (L.C 17))) (ET : ExT K L T hs) (hA : ∀ c, L.att c = atts c) (XH_Lone : XDlH P w K mg base L "Lone" 18 2 "lone" "lot") (O_NoWay : OexC K (L.C 17)) : Df P w K mg base L "round_way" 8 ["many", "ties", "one", "other"] m_round_way :=
  ⟨f, fd, fn_okM F sc_round_way rfl rfl (fun cdv A outer s H E hr tk => by
          have sc := sc_round_way
          exact (mss_cons (ms_expr (me_d D_looked_house hr tk (ma_cons (ev 0) (ma_cons (ev 2) ma_nil))))
          (mss_cons (ms_expr (me_d D_looked_house hr tk (ma_cons (ev 0) (ma_cons (ev 3) ma_nil))))
          (mss_cons (ms_if (mt_cmpo (om_eq hr.units hK) nx_eq (ev 2) (ev 3) (nomark _)) (mss_one (ms_raise hK (by rfl) X_NoTie hr tk (ma_cons (ev 2) (ma_cons (ev 3) ma_nil)) (lenA_cons (lenA_cons lenA_nil)))) mss_nil)
          (mss_cons (ms_setLc (i := 4) (by rfl) sc.nd (by rfl) (by rfl) (sw_true (by rfl) (by rfl) (by rfl) (by rfl)) (mi_seq hK (ev 1)) (blkOk_by (own := [("tie", 6)]) (by kernel_rfl)) (fun _ _ _ _ _ => (gw 6 sc.nd)) (fun _ _ _ _ _ => (mts_one (mt_not (mt_tst (me_d D_joins hr tkF (ma_cons (ev 6) (ma_cons (ev 2) (ma_cons (ev 3) ma_nil)))))))) (fun _ _ _ _ _ => (ev 6)))
          (mss_one (ms_tryH (T0 := T) rfl rfl sc.nd tk (fun hd => L2H.passesAt_of (K := fun e s'' => L2.CX P w outer H s E e s'') (E₁ := fun e' s'' => L2.CX P w outer H s E e' s'') rfl hd) (by rfl) (by rfl) ⟨by rfl, by decide, .inl C_NoWay⟩ (fun c b e => ET.exm c _ b e (by decide)) (fun W pn xe tk hpo => (mss_one (ms_ret (me_dN DN_least_way hr tk (ma_cons (ev 0) (ma_cons (ev 4) (ma_cons (ev 2) (ma_cons (ev 3) ma_nil)))))))) (fun a oe cls d pn xe hz hw tk2 hot => su_hot XH_Lone hr (fun c' e => by obtain ⟨p, h1, rfl, h2⟩ := exIs_mem e; rw [(by decide : ∀ p ∈ T, p.2.contains 17 = true → p.1 = 17) p h1 h2]; exact O_NoWay) hz hw tk2 hot (part_fld ET (fun c hc => by rw [hA]; exact attB_ok (at_ := atts) (by decide +kernel) c hc)) (by rfl) (Or.inl rfl))))))))), F.bindsN (fun _ _ _ _ _ _ us hl => match us, hl with | [_, _, _, _], _ => rfl), F.kp, gl⟩
theorem sc__law_tried : FnScope ["_law_many", "_law_ties", "_law_one", "_law_other", "_law_found", "e"] ["_law_many", "_law_ties", "_law_one", "_law_other"] (defScope (top 26)) := ⟨rfl, rfl, rfl, by decide +kernel, rfl, by decide +kernel, by decide +kernel⟩
theorem ok__law_tried (hK : L.K = K) (F : FunD K "_law_tried" "_law_tried" (defArgs (top 26)) (defBody (top 26)) (defScope (top 26)) [] [] f fd) (gl : mg "_law_tried" = some (.ref f)) (D_round_way : Df P w K mg base L "round_way" 8 ["many", "ties", "one", "other"] m_round_way) (C_Lone : mg "Lone" = some (.ref (L.C 18))) (C_NoTie : mg "NoTie" = some (.ref (L.C 13))) (C_NoHouse : mg "NoHouse" = some (.ref (L.C 12))) (ET : ExT K L T hs) (hA : ∀ c, L.att c = atts c) : Df P w K mg base L "_law_tried" 9 ["_law_many", "_law_ties", "_law_one", "_law_other"] m__law_tried :=
  ⟨f, fd, fn_okM F sc__law_tried rfl rfl (fun cdv A outer s H E hr tk => by
          have sc := sc__law_tried
          exact (mss_cons (ms_asg me_non (gv 4 sc.nd))
          (mss_cons (ms_try (T := T) rfl rfl sc.nd tk (fun W pn xe tk hpo => (mss_one (ms_asg (me_d D_round_way hr tk (ma_cons (ev 0) (ma_cons (ev 1) (ma_cons (ev 2) (ma_cons (ev 3) ma_nil))))) (gv 4 sc.nd)))) (.cons ⟨by rfl, by decide, .inl C_NoHouse⟩ ⟨rfl, rfl⟩ (fun c b e => ET.exm c _ b e (by decide)) (fun a oe cls d pn hz hw => su_retT hz hw (.cons part_str (.cons (part_fld ET (fun c hc => by rw [hA]; exact attB_ok (at_ := atts) (by decide +kernel) c hc)) .nil))) (.cons ⟨by rfl, by decide, .inl C_NoTie⟩ ⟨rfl, rfl⟩ (fun c b e => ET.exm c _ b e (by decide)) (fun a oe cls d pn hz hw => su_retT hz hw (.cons part_str (.cons (part_fld ET (fun c hc => by rw [hA]; exact attB_ok (at_ := atts) (by decide +kernel) c hc)) (.cons (part_fld ET (fun c hc => by rw [hA]; exact attB_ok (at_ := atts) (by decide +kernel) c hc)) .nil)))) (.cons ⟨by rfl, by decide, .inl C_Lone⟩ ⟨rfl, rfl⟩ (fun c b e => ET.exm c _ b e (by decide)) (fun a oe cls d pn hz hw => su_retT hz hw (.cons part_str (.cons (part_fld ET (fun c hc => by rw [hA]; exact attB_ok (at_ := atts) (by decide +kernel) c hc)) .nil))) .nil))))
          (mss_one (ms_ret (ev 4)))))), F.bindsN (fun _ _ _ _ _ _ us hl => match us, hl with | [_, _, _, _], _ => rfl), F.kp, gl⟩
theorem sc__law_far : FnScope ["_law_many", "_law_ties", "_law_goal", "_law_spans", "_law_both", "_law_turn", "_law_a", "_law_b", "_law_cost"] ["_law_many", "_law_ties", "_law_goal"] (defScope (top 22)) := ⟨rfl, rfl, rfl, by decide +kernel, rfl, by decide +kernel, by decide +kernel⟩
theorem ok__law_far (hK : L.K = K) (F : FunD K "_law_far" "_law_far" (defArgs (top 22)) (defBody (top 22)) (defScope (top 22)) [] [] f fd) (gl : mg "_law_far" = some (.ref f)) (g_range : mg "range" = none) : Df P w K mg base L "_law_far" 1 ["_law_many", "_law_ties", "_law_goal"] Cm.m__law_far :=
  ⟨f, fd, fn_okM F sc__law_far rfl rfl (fun cdv A outer s H E hr tk => by
          have sc := sc__law_far
          exact (mss_cons (ms_asg (me_op om_mul nx_mul (me_lst (ma_cons me_non ma_nil)) (ev 0)) (gv 3 sc.nd))
          (mss_cons (ms_asg me_int (mg_sub (u1 hr) (ev 3) (ev 2)))
          (mss_cons (ms_asg (me_op om_add nx_add (ev 1) (me_lc (by rfl) sc.nd (mi_seq hK (ev 1)) (blkOk_by (own := [("_law_a", 6), ("_law_b", 7), ("_law_cost", 8)]) (by kernel_rfl)) (fun _ _ _ _ _ => (mgw_tup (by rfl) (mgsw_cons (gw 6 sc.nd) (mgsw_cons (gw 7 sc.nd) (mgsw_cons (gw 8 sc.nd) mgsw_nil))))) (fun _ _ _ _ _ => mts_nil) (fun _ _ _ _ _ => (me_tup (ma_cons (ev 7) (ma_cons (ev 6) (ma_cons (ev 8) ma_nil))))))) (gv 4 sc.nd))
          (mss_cons (ms_for (passes_of (by rfl)) (by rfl) (mi_rng1 (by rfl) g_range (ma_cons (ev 0) ma_nil)) (gv 5 sc.nd) (mss_one (ms_for (passes_of (by rfl)) (by rfl) (mi_seq hK (ev 4)) (mg_tup (by rfl) (mgs_cons (gv 6 sc.nd) (mgs_cons (gv 7 sc.nd) (mgs_cons (gv 8 sc.nd) mgs_nil)))) (mss_one (ms_if (tw (mw_and (mt_cmpo om_notN nx_is (me_ix (u1 hr) (ev 3) (ev 7)) me_non (nomark _)) (mw_and1 (tw (mw_or (mt_cmpo om_isN nx_is (me_ix (u1 hr) (ev 3) (ev 6)) me_non (nomark _)) (mw_or1 (mt_cmpo om_lt nx_int (me_op om_add nx_add (me_ix (u1 hr) (ev 3) (ev 7)) (ev 8)) (me_ix (u1 hr) (ev 3) (ev 6)) (nomark _)))))))) (mss_one (ms_asg (me_op om_add nx_add (me_ix (u1 hr) (ev 3) (ev 7)) (ev 8)) (mg_sub (u1 hr) (ev 3) (ev 6)))) mss_nil)))))
          (mss_one (ms_ret (ev 3)))))))), F.bindsN (fun _ _ _ _ _ _ us hl => match us, hl with | [_, _, _], _ => rfl), F.kp, gl⟩
theorem sc__law_next : FnScope ["_law_many", "_law_ties", "_law_house", "_law_goal", "_law_spans", "_law_some", "_law_b", "_law_cost", "_law_a"] ["_law_many", "_law_ties", "_law_house", "_law_goal"] (defScope (top 23)) := ⟨rfl, rfl, rfl, by decide +kernel, rfl, by decide +kernel, by decide +kernel⟩
theorem ok__law_next (hK : L.K = K) (F : FunD K "_law_next" "_law_next" (defArgs (top 23)) (defBody (top 23)) (defScope (top 23)) [] [] f fd) (gl : mg "_law_next" = some (.ref f)) (D__law_far : Df P w K mg base L "_law_far" 1 ["_law_many", "_law_ties", "_law_goal"] Cm.m__law_far) (g_min : mg "min" = none) : Df P w K mg base L "_law_next" 2 ["_law_many", "_law_ties", "_law_house", "_law_goal"] Cm.m__law_next :=
  ⟨f, fd, fn_okM F sc__law_next rfl rfl (fun cdv A outer s H E hr tk => by
          have sc := sc__law_next
          exact (mss_cons (ms_asg (me_d D__law_far hr tk (ma_cons (ev 0) (ma_cons (ev 1) (ma_cons (ev 3) ma_nil)))) (gv 4 sc.nd))
          (mss_cons (ms_asg (me_op om_add nx_add (me_lc (by rfl) sc.nd (mi_seq hK (ev 1)) (blkOk_by (own := [("_law_a", 8), ("_law_b", 6), ("_law_cost", 7)]) (by kernel_rfl)) (fun _ _ _ _ _ => (mgw_tup (by rfl) (mgsw_cons (gw 8 sc.nd) (mgsw_cons (gw 6 sc.nd) (mgsw_cons (gw 7 sc.nd) mgsw_nil))))) (fun _ _ _ _ _ => (mts_one (mt_cmpo (om_eq hr.units hK) nx_eq (ev 8) (ev 2) (nomark _)))) (fun _ _ _ _ _ => (me_tup (ma_cons (ev 6) (ma_cons (ev 7) ma_nil))))) (me_lc (by rfl) sc.nd (mi_seq hK (ev 1)) (blkOk_by (own := [("_law_a", 8), ("_law_b", 6), ("_law_cost", 7)]) (by kernel_rfl)) (fun _ _ _ _ _ => (mgw_tup (by rfl) (mgsw_cons (gw 8 sc.nd) (mgsw_cons (gw 6 sc.nd) (mgsw_cons (gw 7 sc.nd) mgsw_nil))))) (fun _ _ _ _ _ => (mts_one (mt_cmpo (om_eq hr.units hK) nx_eq (ev 6) (ev 2) (nomark _)))) (fun _ _ _ _ _ => (me_tup (ma_cons (ev 8) (ma_cons (ev 7) ma_nil)))))) (gv 5 sc.nd))
          (mss_cons (ms_setLc (i := 5) (by rfl) sc.nd (by rfl) (by rfl) (sw_true (by rfl) (by rfl) (by rfl) (by rfl)) (mi_seq hK (ev 5)) (blkOk_by (own := [("_law_b", 6), ("_law_cost", 7)]) (by kernel_rfl)) (fun _ _ _ _ _ => (mgw_tup (by rfl) (mgsw_cons (gw 6 sc.nd) (mgsw_cons (gw 7 sc.nd) mgsw_nil)))) (fun _ _ _ _ _ => (mts_one (tw (mw_and (mt_cmpo om_notN nx_is (me_ix (u1 hr) (ev 4) (ev 6)) me_non (nomark _)) (mw_and1 (mt_cmpo (om_eq hr.units hK) nx_eq (me_ix (u1 hr) (ev 4) (ev 2)) (me_op om_add nx_add (me_ix (u1 hr) (ev 4) (ev 6)) (ev 7)) (nomark _))))))) (fun _ _ _ _ _ => (ev 6)))
          (mss_one (ms_ret (me_minD hK (by rfl) hr.units (by rfl) g_min bo_min (ev 5) me_non))))))), F.bindsN (fun _ _ _ _ _ _ us hl => match us, hl with | [_, _, _, _], _ => rfl), F.kp, gl⟩
theorem sc__law_least : FnScope ["_law_many", "_law_ties", "_law_start", "_law_goal", "_law_spans", "_law_way", "_law_turn"] ["_law_many", "_law_ties", "_law_start", "_law_goal"] (defScope (top 25)) := ⟨rfl, rfl, rfl, by decide +kernel, rfl, by decide +kernel, by decide +kernel⟩
theorem ok__law_least (hK : L.K = K) (F : FunD K "_law_least" "_law_least" (defArgs (top 25)) (defBody (top 25)) (defScope (top 25)) [] [] f fd) (gl : mg "_law_least" = some (.ref f)) (D__law_far : Df P w K mg base L "_law_far" 1 ["_law_many", "_law_ties", "_law_goal"] Cm.m__law_far) (D__law_next : Df P w K mg base L "_law_next" 2 ["_law_many", "_law_ties", "_law_house", "_law_goal"] Cm.m__law_next) (g_range : mg "range" = none) (g_tuple : mg "tuple" = none) : Df P w K mg base L "_law_least" 3 ["_law_many", "_law_ties", "_law_start", "_law_goal"] Cm.m__law_least :=
  ⟨f, fd, fn_okM F sc__law_least rfl rfl (fun cdv A outer s H E hr tk => by
          have sc := sc__law_least
          exact (mss_cons (ms_asg (me_d D__law_far hr tk (ma_cons (ev 0) (ma_cons (ev 1) (ma_cons (ev 3) ma_nil)))) (gv 4 sc.nd))
          (mss_cons (ms_if (mt_cmpo om_isN nx_is (me_ix (u1 hr) (ev 4) (ev 2)) me_non (nomark _)) (mss_one (ms_ret me_non)) mss_nil)
          (mss_cons (ms_asg (me_lst (ma_cons (ev 2) ma_nil)) (gv 5 sc.nd))
          (mss_cons (ms_for (passes_of (by rfl)) (by rfl) (mi_rng1 (by rfl) g_range (ma_cons (ev 0) ma_nil)) (gv 6 sc.nd) (mss_one (ms_if (mt_cmpo (om_ne hr.units hK) nx_eq (me_ix (u1 hr) (ev 5) (me_un um_neg nxNeg me_int)) (ev 3) (nomark _)) (mss_one (ms_expr (me_bm hK PySem.F.plainAttrs_list PySem.F.slot_list_append PySem.F.type_list_append lm_append nxLm (ev 5) (ma_cons (me_d D__law_next hr tk (ma_cons (ev 0) (ma_cons (ev 1) (ma_cons (me_ix (u1 hr) (ev 5) (me_un um_neg nxNeg me_int)) (ma_cons (ev 3) ma_nil))))) ma_nil)))) mss_nil)))
          (mss_one (ms_ret (me_tup (ma_cons (me_ix (u1 hr) (ev 4) (ev 2)) (ma_cons (me_cty (cm_tuple hK) (nx1 nxTuple) (by rfl) g_tuple bo_tuple (ma_cons (ev 5) ma_nil)) ma_nil)))))))))), F.bindsN (fun _ _ _ _ _ _ us hl => match us, hl with | [_, _, _, _], _ => rfl), F.kp, gl⟩
theorem sc__law_lot : FnScope ["_law_many", "_law_ties", "_law_start", "_law_house", "_law_span"] ["_law_many", "_law_ties", "_law_start"] (defScope (top 24)) := ⟨rfl, rfl, rfl, by decide +kernel, rfl, by decide +kernel, by decide +kernel⟩
theorem ok__law_lot (hK : L.K = K) (F : FunD K "_law_lot" "_law_lot" (defArgs (top 24)) (defBody (top 24)) (defScope (top 24)) [] [] f fd) (gl : mg "_law_lot" = some (.ref f)) (D__law_far : Df P w K mg base L "_law_far" 1 ["_law_many", "_law_ties", "_law_goal"] Cm.m__law_far) (g_enumerate : mg "enumerate" = none) : Df P w K mg base L "_law_lot" 2 ["_law_many", "_law_ties", "_law_start"] Cm.m__law_lot :=
  ⟨f, fd, fn_okM F sc__law_lot rfl rfl (fun cdv A outer s H E hr tk => by
          have sc := sc__law_lot
          exact (mss_one (ms_ret (me_lc (by rfl) sc.nd (mi_enum hK (by rfl) g_enumerate (ma_cons (me_d D__law_far hr tk (ma_cons (ev 0) (ma_cons (ev 1) (ma_cons (ev 2) ma_nil)))) ma_nil)) (blkOk_by (own := [("_law_house", 3), ("_law_span", 4)]) (by kernel_rfl)) (fun _ _ _ _ _ => (mgw_tup (by rfl) (mgsw_cons (gw 3 sc.nd) (mgsw_cons (gw 4 sc.nd) mgsw_nil)))) (fun _ _ _ _ _ => (mts_one (mt_cmpo om_notN nx_is (ev 4) me_non (nomark _)))) (fun _ _ _ _ _ => (ev 3)))))), F.bindsN (fun _ _ _ _ _ _ us hl => match us, hl with | [_, _, _], _ => rfl), F.kp, gl⟩
theorem sc_law : FnScope ["_law_script", "_law_box_here", "_law_many", "_law_ties", "_law_handed", "_law_one", "_law_odd", "_law_told", "_law_other", "_law_left", "_law_due", "_law_tie"] ["_law_script"] (defScope (top 27)) := ⟨rfl, rfl, rfl, by decide +kernel, rfl, by decide +kernel, by decide +kernel⟩
theorem okF_law (hK : L.K = K) (F : FunD K "law" "law" (defArgs (top 27)) (defBody (top 27)) (defScope (top 27)) [] [] f fd) (D__law_box : Df P w K mg base L "_law_box" 1 ["_law_script"] Cm.m__law_box) (D__law_take : Df P w K mg base L "_law_take" 1 ["_law_box_here", "_law_sides"] Cm.m__law_take) (D__law_shuffled : Df P w K mg base L "_law_shuffled" 2 ["_law_box_here", "_law_some"] Cm.m__law_shuffled) (D__law_some_ties : Df P w K mg base L "_law_some_ties" 2 ["_law_box_here", "_law_many", "_law_odds"] Cm.m__law_some_ties) (D__law_least : Df P w K mg base L "_law_least" 3 ["_law_many", "_law_ties", "_law_start", "_law_goal"] Cm.m__law_least) (D__law_lot : Df P w K mg base L "_law_lot" 2 ["_law_many", "_law_ties", "_law_start"] Cm.m__law_lot) (D__law_same : Df P w K mg base L "_law_same" 7 ["_law_found", "_law_due"] (Cm.m__law_same 6)) (D__law_tried : Df P w K mg base L "_law_tried" 9 ["_law_many", "_law_ties", "_law_one", "_law_other"] m__law_tried) (g_list : mg "list" = none) (g_range : mg "range" = none) : FnOk P w K mg base (L2.CX P w) 10 f fd ["_law_script"] (spM L m_law) :=
  fn_okM F sc_law rfl rfl (fun cdv A outer s H E hr tk => by
          have sc := sc_law
          exact (mss_cons (ms_asg (me_d D__law_box hr tk (ma_cons (ev 0) ma_nil)) (gv 1 sc.nd))
          (mss_cons (ms_asg (me_op om_add nx_add me_int (me_d D__law_take hr tk (ma_cons (ev 1) (ma_cons me_int ma_nil)))) (gv 2 sc.nd))
          (mss_cons (ms_asg (me_d D__law_shuffled hr tk (ma_cons (ev 1) (ma_cons (me_d D__law_some_ties hr tk (ma_cons (ev 1) (ma_cons (ev 2) (ma_cons (me_op om_add nx_add me_int (me_d D__law_take hr tk (ma_cons (ev 1) (ma_cons me_int ma_nil)))) ma_nil)))) ma_nil))) (gv 3 sc.nd))
          (mss_cons (ms_asg (me_cty (cm_list hK) (nx1 nxList) (by rfl) g_list bo_list (ma_cons (ev 3) ma_nil)) (gv 4 sc.nd))
          (mss_cons (ms_for (passes_of (by rfl)) (by rfl) (mi_rng1 (by rfl) g_range (ma_cons (ev 2) ma_nil)) (gv 5 sc.nd) (mss_one (ms_for (passes_of (by rfl)) (by rfl) (mi_rng1 (by rfl) g_range (ma_cons (ev 2) ma_nil)) (gv 8 sc.nd) (mss_cons (ms_setLc (i := 9) (by rfl) sc.nd (by rfl) (by rfl) (sw_true (by rfl) (by rfl) (by rfl) (by rfl)) (mi_seq hK (ev 3)) (blkOk_by (own := [("_law_tie", 11)]) (by kernel_rfl)) (fun _ _ _ _ _ => (gw 11 sc.nd)) (fun _ _ _ _ _ => (mts_one (mt_cmpo (om_notin hK (units65 hr)) nx_in (me_sl hK (ev 11) mo_none (mo_some me_int)) (me_tup (ma_cons (me_tup (ma_cons (ev 5) (ma_cons (ev 8) ma_nil))) (ma_cons (me_tup (ma_cons (ev 8) (ma_cons (ev 5) ma_nil))) ma_nil))) (by rfl)))) (fun _ _ _ _ _ => (ev 11)))
          (mss_cons (ms_asg (me_d D__law_least hr tk (ma_cons (ev 2) (ma_cons (ev 9) (ma_cons (ev 5) (ma_cons (ev 8) ma_nil))))) (gv 10 sc.nd))
          (mss_cons (ms_if (mt_cmpo om_isN nx_is (ev 10) me_non (nomark _)) (mss_one (ms_asg (me_tup (ma_cons me_str (ma_cons (me_d D__law_lot hr tk (ma_cons (ev 2) (ma_cons (ev 9) (ma_cons (ev 5) ma_nil)))) ma_nil))) (gv 10 sc.nd))) mss_nil)
          (mss_cons (ms_if (mt_cmpo (om_eq hr.units hK) nx_eq (ev 5) (ev 8) (nomark _)) (mss_one (ms_asg (me_tup (ma_cons me_str (ma_cons (ev 5) (ma_cons (ev 5) ma_nil)))) (gv 10 sc.nd))) mss_nil)
          (mss_one (ms_if (tw (mw_or (mt_not (mt_tst (me_d D__law_same hr tk (ma_cons (me_d D__law_tried hr tk (ma_cons (ev 2) (ma_cons (ev 4) (ma_cons (ev 5) (ma_cons (ev 8) ma_nil))))) (ma_cons (ev 10) ma_nil))))) (mw_or1 (mt_cmpo (om_ne hr.units hK) nx_eq (ev 4) (ev 3) (nomark _))))) (mss_one (ms_ret me_bl)) mss_nil)))))))))
          (mss_cons (ms_asg (me_ix (u1 hr) (me_lst (ma_cons (me_un um_neg nxNeg me_int) (ma_cons (ev 2) (ma_cons (me_op om_pow nx_intC me_int me_int) ma_nil)))) (me_d D__law_take hr tk (ma_cons (ev 1) (ma_cons me_int ma_nil)))) (gv 6 sc.nd))
          (mss_cons (ms_asg (me_lst (ma_cons (me_d D__law_tried hr tk (ma_cons (ev 2) (ma_cons (ev 3) (ma_cons (ev 6) (ma_cons (ev 6) ma_nil))))) (ma_cons (me_d D__law_tried hr tk (ma_cons (ev 2) (ma_cons (ev 3) (ma_cons me_int (ma_cons (ev 6) ma_nil))))) (ma_cons (me_d D__law_tried hr tk (ma_cons (ev 2) (ma_cons (ev 3) (ma_cons (ev 6) (ma_cons me_int ma_nil))))) ma_nil)))) (gv 7 sc.nd))
          (mss_one (ms_ret (me_d D__law_same hr tk (ma_cons (ev 7) (ma_cons (me_op om_mul nx_mul (me_lst (ma_cons (me_tup (ma_cons me_str (ma_cons (ev 6) ma_nil))) ma_nil)) me_int) ma_nil)))))))))))))
end
end Sx.K06
end
/-! CmP: what the helpers that the laws share do. -/
noncomputable section
namespace Sx
open PySem L2
structure Box (S : Sto) (b c : Nat) : Prop where
  ex : ∃ (cells : List Int) (p t s : Int), S[b]? = some (.lst [.ref c, .int p, .int t, .int s]) ∧ S[c]? = some (.lst (cells.map VV.int)) ∧ c ≠ b ∧ cells.length ≤ 100 ∧ 0 ≤ p ∧ p ≤ 100 ∧ 0 ≤ s ∧ s < 2147483549
theorem box_set {S : Sto} {b c : Nat} {cells : List Int} {o : OO} {p t s : Int} (h1 : S[b]? = some o) (h2 : S[c]? = some (.lst (cells.map VV.int))) (h3 : c ≠ b) (h4 : cells.length ≤ 100) (h5 : 0 ≤ p) (h5' : p ≤ 100) (h6 : 0 ≤ s) (h7 : s < 2147483549) :
    Box (S.set b (.lst [.ref c, .int p, .int t, .int s])) b c := ⟨cells, p, t, s, set_at h1, by rw [List.getElem?_set_ne (Ne.symm h3)]; exact h2, h3, h4, h5, h5', h6, h7⟩
theorem take_w {S : Sto} {b c : Nat} {k : Int} (hb : Box S b c) (hk : 0 < k) (hk2 : k < 1000000) : wE (Cm.m__law_take [.ref b, .int k] S) fun v S' => ∃ t : Int, v = .int t ∧ 0 ≤ t ∧ t < k ∧ Box S' b c ∧ Fr (fun n => n = b) S S' := by
  obtain ⟨cells, p, t, s, h1, h2, h3, h4, h5, h5', h6, h7⟩ := hb.ex
  have k0 : k ≠ 0 := by omega
  have kd : ∀ i : Int, ∀ S Q, wE (gFdiv (.int i) (.int k) S) Q = Q (.int (i.fdiv k)) S := fun i S Q => wE_fdiv k0 (by omega)
  have km : ∀ i : Int, ∀ S Q, wE (gMod (.int i) (.int k) S) Q = Q (.int (i.fmod k)) S := fun i S Q => wE_mod k0
  have p10 : ∀ S Q, wE (gPow (.int 10) (.int 18) S) Q = Q (.int ((10 : Int) ^ 18)) S := fun S Q => wE_pow (by decide) (by decide) (by decide)
  have ps : ∀ S Q, wE (gPow (.int s) (.int 3) S) Q = Q (.int (s ^ 3)) S := fun S Q => wE_pow (by decide) (by decide) (by omega)
  have m1 : ∀ i : Int, ∀ S Q, wE (gMul (.int 69621) (.int i) S) Q = Q (.int (69621 * i)) S := fun i S Q => wE_mulI (by unfold cMul; simp)
  have m2 : ∀ i : Int, ∀ S Q, wE (gMul (.int 48271) (.int i) S) Q = Q (.int (48271 * i)) S := fun i S Q => wE_mulI (by unfold cMul; simp)
  have md : ∀ i : Int, ∀ S Q, wE (gMod (.int i) (.int 2147483549) S) Q = Q (.int (i.fmod 2147483549)) S := fun i S Q => wE_mod (by decide)
  have d64 : ∀ i : Int, ∀ S Q, wE (gFdiv (.int i) (.int 64) S) Q = Q (.int (i.fdiv 64)) S := fun i S Q => wE_fdiv (by decide) (by decide)
  have fm : ∀ i : Int, 0 ≤ i.fmod k ∧ i.fmod k < k := fun i => ⟨Int.fmod_nonneg_of_pos i hk, Int.fmod_lt_of_pos i hk⟩
  have fs : ∀ i : Int, 0 ≤ i.fmod 2147483549 ∧ i.fmod 2147483549 < 2147483549 := fun i => ⟨Int.fmod_nonneg_of_pos i (by decide), Int.fmod_lt_of_pos i (by decide)⟩
  unfold Cm.m__law_take
  rw [wE_fn (by rfl)]
  by_cases hp : p < (cells.length : Int)
  · have hi : p.toNat < cells.length := by omega
    have ix : ∀ Q : VV → Prop, wIx (cells.map VV.int) (.int p) Q = Q (.int cells[p.toNat]) := fun Q => wIx_nat h5 (by rw [List.getElem?_map, List.getElem?_eq_getElem hi]; rfl)
    simp only [wE_ok, wE_bind, wS_seq, wS_next, wS_brk, wS_cont, wS_drop, wS_ret, wS_retN, wS_ifS, wS_asg, wS_gname, wS_gsub, wS_gnil, wS_gcons, wS_augI, wE_C, wE_nil, wE_cons, wE_tup, wE_lst, wE_op, wE_un, wE_cb, wE_isi, wE_isiT, wE_call, wE_g1, wE_g2, isB_bl, wE_tst, wE_not, wE_and, wE_or, wE_andV, wE_orV, wE_notV, wE_ifE, isI2_int, wE_int, wE_addI, wE_is, wE_mt, wE_mt0, wE_part, wE_noP, wE_sl, wE_chain, wS_for, wE_src, wE_seqI, wE_optI, wE_lc, wE_yes, wE_V0, wE_V1, wE_optR, wS_optS, wE_ix, ixW_lst, wE_get, gtW_lst, wGe1, wIx0, wIx1, wIx2, wIx3, wS_st, stW_lst, wSt0, wSt1, wSt2, wSt3, List.getElem?_cons_zero, List.getElem?_cons_succ, List.set_cons_zero, List.set_cons_succ, startM, List.map_cons, List.map_nil, List.length_cons, List.length_nil, List.replicate, List.cons_append, List.nil_append, List.set_set, h1, h2, wE_lenL h2, List.length_map, kd, km, p10, ps, m1, m2, md, d64, ix, wE_ge, set_at h1, hp, decide_true, if_true]
    split
    · exact ⟨_, rfl, (fm t).1, (fm t).2, box_set h1 h2 h3 h4 h5 h5' h6 h7, Fr.set rfl⟩
    · split
      · exact ⟨_, rfl, (fm _).1, (fm _).2, box_set h1 h2 h3 h4 (by omega) (by omega) h6 h7, Fr.set rfl⟩
      · exact ⟨_, rfl, (fm _).1, (fm _).2, box_set h1 h2 h3 h4 (by omega) (by omega) (fs _).1 (fs _).2, Fr.set rfl⟩
  · simp only [wE_ok, wE_bind, wS_seq, wS_next, wS_brk, wS_cont, wS_drop, wS_ret, wS_retN, wS_ifS, wS_asg, wS_gname, wS_gsub, wS_gnil, wS_gcons, wS_augI, wE_C, wE_nil, wE_cons, wE_tup, wE_lst, wE_op, wE_un, wE_cb, wE_isi, wE_isiT, wE_call, wE_g1, wE_g2, isB_bl, wE_tst, wE_not, wE_and, wE_or, wE_andV, wE_orV, wE_notV, wE_ifE, isI2_int, wE_int, wE_addI, wE_is, wE_mt, wE_mt0, wE_part, wE_noP, wE_sl, wE_chain, wS_for, wE_src, wE_seqI, wE_optI, wE_lc, wE_yes, wE_V0, wE_V1, wE_optR, wS_optS, wE_ix, ixW_lst, wE_get, gtW_lst, wGe1, wIx0, wIx1, wIx2, wIx3, wS_st, stW_lst, wSt0, wSt1, wSt2, wSt3, List.getElem?_cons_zero, List.getElem?_cons_succ, List.set_cons_zero, List.set_cons_succ, startM, List.map_cons, List.map_nil, List.length_cons, List.length_nil, List.replicate, List.cons_append, List.nil_append, List.set_set, h1, h2, wE_lenL h2, List.length_map, kd, km, p10, ps, m1, m2, md, d64, wE_ge, set_at h1, hp, decide_false, if_false]
    split
    · exact ⟨_, rfl, (fm t).1, (fm t).2, box_set h1 h2 h3 h4 h5 h5' h6 h7, Fr.set rfl⟩
    · split
      · rename_i z
        exact absurd z (by decide)
      · exact ⟨_, rfl, (fm _).1, (fm _).2, box_set h1 h2 h3 h4 h5 h5' (fs _).1 (fs _).2, Fr.set rfl⟩
theorem Box.lt {S : Sto} {b c : Nat} (h : Box S b c) : b < S.length := by
  obtain ⟨cells, p, t, s, h1, _⟩ := h.ex
  exact lt_of_at h1
theorem Box.lt2 {S : Sto} {b c : Nat} (h : Box S b c) : c < S.length := by
  obtain ⟨cells, p, t, s, h1, h2, _⟩ := h.ex
  exact lt_of_at h2
theorem Box.ne {S : Sto} {b c : Nat} (h : Box S b c) : c ≠ b := by
  obtain ⟨cells, p, t, s, h1, h2, h3, _⟩ := h.ex
  exact h3
/-- what leaves the box's two places as they are -/
theorem Box.fr {M : Nat → Prop} {S S' : Sto} {b c : Nat} (h : Box S b c) (f : Fr M S S') (hb : ¬ M b) (hc : ¬ M c) : Box S' b c := by
  obtain ⟨cells, p, t, s, h1, h2, h3⟩ := h.ex
  exact ⟨cells, p, t, s, f.at_ h1 hb, f.at_ h2 hc, h3⟩
theorem Box.set {S : Sto} {b c n : Nat} {o : OO} (h : Box S b c) (hb : n ≠ b) (hc : n ≠ c) : Box (S.set n o) b c := h.fr (M := fun m => m = n) (Fr.set rfl) (Ne.symm hb) (Ne.symm hc)
theorem Box.app {S T : Sto} {b c : Nat} (h : Box S b c) : Box (S ++ T) b c := h.fr (M := No) Fr.app (fun z => z) fun z => z
theorem cut_int {ns : List Int} {lo hi : Option Int} : ∃ cs : List Int, cutM (ns.map VV.int) lo hi = cs.map VV.int ∧ cs.length ≤ ns.length := by
  unfold cutM
  rw [← List.map_drop, ← List.map_take]
  exact ⟨_, rfl, by rw [List.length_take, List.length_drop]; omega⟩
theorem box_w {S : Sto} {ns : List Int} (hn : ns.length ≤ 63) : wE (Cm.m__law_box [.rol (ns.map VV.int)] S) fun v S' => ∃ b c, v = .ref b ∧ Box S' b c ∧ S.length ≤ b ∧ S.length ≤ c ∧ Fr No S S' := by
  obtain ⟨cs, e, hl⟩ := cut_int (ns := ns) (lo := none) (hi := some 63)
  unfold Cm.m__law_box
  rw [wE_fn (by rfl)]
  simp only [wE_ok, wE_bind, wS_seq, wS_next, wS_brk, wS_cont, wS_drop, wS_ret, wS_retN, wS_ifS, wS_asg, wS_gname, wS_gsub, wS_gnil, wS_gcons, wS_augI, wE_C, wE_nil, wE_cons, wE_tup, wE_lst, wE_op, wE_un, wE_cb, wE_isi, wE_isiT, wE_call, wE_g1, wE_g2, isB_bl, wE_tst, wE_not, wE_and, wE_or, wE_andV, wE_orV, wE_notV, wE_ifE, isI2_int, wE_int, wE_addI, wE_is, wE_mt, wE_mt0, wE_part, wE_noP, wE_sl, wE_chain, wS_for, wE_src, wE_seqI, wE_optI, wE_lc, wE_yes, wE_V0, wE_V1, wE_optR, wS_optS, wE_ix, ixW_lst, wE_get, gtW_lst, wGe1, wIx0, wIx1, wIx2, wIx3, wS_st, stW_lst, wSt0, wSt1, wSt2, wSt3, List.getElem?_cons_zero, List.getElem?_cons_succ, List.set_cons_zero, List.set_cons_succ, startM, List.map_cons, List.map_nil, List.length_cons, List.length_nil, List.replicate, List.cons_append, List.nil_append, List.set_set]
  show wE (gSl _ _ _ _) _
  have e1 : gSl (.rol (ns.map VV.int)) none (some 63) S = .ok (.ref S.length) (S ++ [.lst (cs.map VV.int)]) := by
    show Res.ok _ _ = _
    rw [e]
  rw [e1, wE_ok]
  rw [wE_list get_last, List.length_append, List.length_singleton]
  simp only [Nat.reduceLeDiff, if_true]
  have hl2 : (S ++ [OO.lst (cs.map VV.int)] ++ [OO.lst (cs.map VV.int)]).length = S.length + 2 := by simp
  refine ⟨_, S.length + 1, rfl, ⟨cs, 0, 0, 29, ?_, ?_, ?_, by omega, by decide, by decide, by decide, by decide⟩, ?_, by omega, ?_⟩
  · exact get_last
  · rw [List.getElem?_append_left (by rw [hl2]; omega), List.getElem?_append_right (by simp)]
    simp
  · rw [hl2]; omega
  · rw [hl2]; omega
  · rw [List.append_assoc, List.append_assoc]; exact Fr.app
/-- the pairs of houses -/
def pairsOf (many i : Nat) : List (Nat × Nat) := (List.range (many - (i + 1))).map fun j => (i, i + 1 + j)
def pairsN (many : Nat) : List (Nat × Nat) := ((List.range many).map (pairsOf many)).flatten
def pairV (p : Nat × Nat) : VV := .tup [.int (p.1 : Nat), .int (p.2 : Nat)]
theorem pairsN_mem {many : Nat} {p : Nat × Nat} (h : p ∈ pairsN many) : p.1 < p.2 ∧ p.2 < many := by
  unfold pairsN pairsOf at h
  simp only [List.mem_flatten, List.mem_map, List.mem_range] at h
  obtain ⟨l, ⟨i, hi, rfl⟩, hp⟩ := h
  simp only [List.mem_map, List.mem_range] at hp
  obtain ⟨j, hj, rfl⟩ := hp
  exact ⟨by simp only; omega, by simp only; omega⟩
theorem flat_le {α : Type} {k : Nat} : ∀ {ls : List (List α)}, (∀ l ∈ ls, l.length ≤ k) → ls.flatten.length ≤ ls.length * k
  | [], _ => by simp
  | l :: ls, h => by
    rw [List.flatten_cons, List.length_append, List.length_cons, Nat.add_mul]
    have h1 := h l List.mem_cons_self
    have h2 := flat_le fun x hx => h x (List.mem_cons_of_mem _ hx)
    omega
theorem pairsOf_len {many i : Nat} : (pairsOf many i).length = many - (i + 1) := by unfold pairsOf; simp
theorem pairsN_len {many : Nat} (h : many ≤ 20) : (pairsN many).length ≤ 400 := by
  have := flat_le (k := 20) (ls := (List.range many).map (pairsOf many)) fun l hl => by
    obtain ⟨i, hi, rfl⟩ := List.mem_map.mp hl
    rw [pairsOf_len]
    omega
  rw [List.length_map, List.length_range] at this
  unfold pairsN
  omega
theorem pairs_w {S : Sto} {many : Nat} (hm : many ≤ 20) (h0 : 0 < many) : wE (Cm.m__law_pairs [.int (many : Nat)] S) fun v S' => ∃ n, v = .ref n ∧ S'[n]? = some (.lst ((pairsN many).map pairV)) ∧ S.length ≤ n ∧ Fr No S S' := by
  unfold Cm.m__law_pairs
  rw [wE_fn (by rfl)]
  simp only [wE_ok, wE_bind, wS_seq, wS_next, wS_brk, wS_cont, wS_drop, wS_ret, wS_retN, wS_ifS, wS_asg, wS_gname, wS_gsub, wS_gnil, wS_gcons, wS_augI, wE_C, wE_nil, wE_cons, wE_tup, wE_lst, wE_op, wE_un, wE_cb, wE_isi, wE_isiT, wE_call, wE_g1, wE_g2, isB_bl, wE_tst, wE_not, wE_and, wE_or, wE_andV, wE_orV, wE_notV, wE_ifE, isI2_int, wE_int, wE_addI, wE_is, wE_mt, wE_mt0, wE_part, wE_noP, wE_sl, wE_chain, wS_for, wE_src, wE_seqI, wE_optI, wE_lc, wE_yes, wE_V0, wE_V1, wE_optR, wS_optS, wE_ix, ixW_lst, wE_get, gtW_lst, wGe1, wIx0, wIx1, wIx2, wIx3, wS_st, stW_lst, wSt0, wSt1, wSt2, wSt3, List.getElem?_cons_zero, List.getElem?_cons_succ, List.set_cons_zero, List.set_cons_succ, startM, List.map_cons, List.map_nil, List.length_cons, List.length_nil, List.replicate, List.cons_append, List.nil_append, List.set_set, rng1_nat (show many ≤ 1000000 by omega)]
  refine lc_lists (f := fun x => match x with
    | .int i => (pairsOf many i.toNat).map pairV
    | _ => []) (by simp; omega) (fun _ => trivial) (fun x ls hx => ?_) ?_
  · obtain ⟨i, hi, rfl⟩ := List.mem_map.mp hx
    have hi := List.mem_range.mp hi
    refine ⟨rfl, rfl, rfl, ?_⟩
    simp only [wE_ok, wE_bind, wS_seq, wS_next, wS_brk, wS_cont, wS_drop, wS_ret, wS_retN, wS_ifS, wS_asg, wS_gname, wS_gsub, wS_gnil, wS_gcons, wS_augI, wE_C, wE_nil, wE_cons, wE_tup, wE_lst, wE_op, wE_un, wE_cb, wE_isi, wE_isiT, wE_call, wE_g1, wE_g2, isB_bl, wE_tst, wE_not, wE_and, wE_or, wE_andV, wE_orV, wE_notV, wE_ifE, isI2_int, wE_int, wE_addI, wE_is, wE_mt, wE_mt0, wE_part, wE_noP, wE_sl, wE_chain, wS_for, wE_src, wE_seqI, wE_optI, wE_lc, wE_yes, wE_V0, wE_V1, wE_optR, wS_optS, wE_ix, ixW_lst, wE_get, gtW_lst, wGe1, wIx0, wIx1, wIx2, wIx3, wS_st, stW_lst, wSt0, wSt1, wSt2, wSt3, List.getElem?_cons_zero, List.getElem?_cons_succ, List.set_cons_zero, List.set_cons_succ, startM, List.map_cons, List.map_nil, List.length_cons, List.length_nil, List.replicate, List.cons_append, List.nil_append, List.set_set, wipeM]
    rw [show ((i : Int) + 1) = ((i + 1 : Nat) : Int) by omega, rng2_nat (by omega) (by omega)]
    simp only [wE_ok, wE_bind, wS_seq, wS_next, wS_brk, wS_cont, wS_drop, wS_ret, wS_retN, wS_ifS, wS_asg, wS_gname, wS_gsub, wS_gnil, wS_gcons, wS_augI, wE_C, wE_nil, wE_cons, wE_tup, wE_lst, wE_op, wE_un, wE_cb, wE_isi, wE_isiT, wE_call, wE_g1, wE_g2, isB_bl, wE_tst, wE_not, wE_and, wE_or, wE_andV, wE_orV, wE_notV, wE_ifE, isI2_int, wE_int, wE_addI, wE_is, wE_mt, wE_mt0, wE_part, wE_noP, wE_sl, wE_chain, wS_for, wE_src, wE_seqI, wE_optI, wE_lc, wE_yes, wE_V0, wE_V1, wE_optR, wS_optS, wE_ix, ixW_lst, wE_get, gtW_lst, wGe1, wIx0, wIx1, wIx2, wIx3, wS_st, stW_lst, wSt0, wSt1, wSt2, wSt3, List.getElem?_cons_zero, List.getElem?_cons_succ, List.set_cons_zero, List.set_cons_succ, startM, List.map_cons, List.map_nil, List.length_cons, List.length_nil, List.replicate, List.cons_append, List.nil_append, List.set_set]
    refine lc_flat (f := fun y => match y with
      | .int j => .tup [.int (i : Nat), .int j]
      | _ => .non) (by simp; omega) (fun _ => trivial) (fun y acc hy => ?_) ?_
    · obtain ⟨j, hj, rfl⟩ := List.mem_map.mp hy
      refine ⟨rfl, rfl, rfl, ?_⟩
      simp only [wE_ok, wE_bind, wS_seq, wS_next, wS_brk, wS_cont, wS_drop, wS_ret, wS_retN, wS_ifS, wS_asg, wS_gname, wS_gsub, wS_gnil, wS_gcons, wS_augI, wE_C, wE_nil, wE_cons, wE_tup, wE_lst, wE_op, wE_un, wE_cb, wE_isi, wE_isiT, wE_call, wE_g1, wE_g2, isB_bl, wE_tst, wE_not, wE_and, wE_or, wE_andV, wE_orV, wE_notV, wE_ifE, isI2_int, wE_int, wE_addI, wE_is, wE_mt, wE_mt0, wE_part, wE_noP, wE_sl, wE_chain, wS_for, wE_src, wE_seqI, wE_optI, wE_lc, wE_yes, wE_V0, wE_V1, wE_optR, wS_optS, wE_ix, ixW_lst, wE_get, gtW_lst, wGe1, wIx0, wIx1, wIx2, wIx3, wS_st, stW_lst, wSt0, wSt1, wSt2, wSt3, List.getElem?_cons_zero, List.getElem?_cons_succ, List.set_cons_zero, List.set_cons_succ, startM, List.map_cons, List.map_nil, List.length_cons, List.length_nil, List.replicate, List.cons_append, List.nil_append, List.set_set, wipeM]
      exact ⟨by first | trivial | rfl, by first | trivial | rfl⟩
    · refine ⟨by first | trivial | rfl, ?_⟩
      congr 3
      unfold pairsOf pairV
      simp
  · have hl : (laidL S ((List.range many).map fun i => (pairsOf many i).map pairV)).length = S.length + 1 + many := by rw [laidL_len]; simp
    have e : ((List.range many).map fun i => VV.int (i : Nat)).map (fun x => match x with
      | .int i => (pairsOf many i.toNat).map pairV
      | _ => []) = (List.range many).map fun i => (pairsOf many i).map pairV := by
      rw [List.map_map]
      rfl
    rw [e]
    simp only [Nat.zero_le, if_true]
    rw [wE_sumL (ns := (List.range many).map fun j => S.length + 1 + j) (ls := (List.range many).map fun i => (pairsOf many i).map pairV) (acc := [])]
    · refine ⟨_, rfl, ?_, ?_, ?_⟩
      · rw [get_last]
        congr 2
        rw [List.nil_append]
        unfold pairsN
        rw [List.map_flatten, List.map_map]
        rfl
      · rw [List.length_append, hl]; omega
      · rw [List.append_assoc]
        exact laidL_fr.trans Fr.app
    · rw [List.getElem?_append_left (by rw [hl]; omega), laidL_D, List.length_map, List.length_range, List.map_map]
      rfl
    · exact get_last
    · simp
    · intro i n l h1 h2
      rw [List.getElem?_map] at h1 h2
      have hi : i < many := by
        cases q : (List.range many)[i]? with
        | none => rw [q] at h1; cases h1
        | some z =>
          have := (List.getElem?_eq_some_iff.mp q).1
          simpa using this
      rw [List.getElem?_range hi] at h1 h2
      cases h1
      cases h2
      show (_ : Sto)[S.length + 1 + i]? = _
      rw [List.getElem?_append_left (by rw [hl]; omega)]
      exact laidL_at (by rw [List.getElem?_map, List.getElem?_range hi]; rfl)
    · simp; omega
    · simp
    · intro l hl
      obtain ⟨i, hi, rfl⟩ := List.mem_map.mp hl
      rw [List.length_map, pairsOf_len]
      omega
    · have := pairsN_len hm
      unfold pairsN at this
      rw [List.nil_append]
      refine Nat.le_trans (flat_le (k := 20) fun l hl => ?_) ?_
      · obtain ⟨i, hi, rfl⟩ := List.mem_map.mp hl
        rw [List.length_map, pairsOf_len]
        omega
      · simp; omega
    · intro z
      have := congrArg List.length z
      simp at this
      omega
end Sx
end
/-! CmP2: shuffled lists, some ties. -/
noncomputable section
namespace Sx
open PySem L2
theorem shuffled_w {S : Sto} {b c k : Nat} {xs : List VV} (hb : Box S b c) (hL : S[k]? = some (.lst xs)) (hn : k ≠ b) (hl : xs.length ≤ 500) :
    wE (Cm.m__law_shuffled [.ref b, .ref k] S) fun v S' => ∃ n ys, v = .ref n ∧ S'[n]? = some (.lst ys) ∧ ys.Perm xs ∧ Box S' b c ∧ S.length ≤ n ∧ Fr (fun n => n = b) S S' := by
  have hbl := hb.lt
  have hcl := hb.lt2
  unfold Cm.m__law_shuffled
  rw [wE_fn (by rfl)]
  simp only [wE_ok, wE_bind, wS_seq, wS_next, wS_brk, wS_cont, wS_drop, wS_ret, wS_retN, wS_ifS, wS_asg, wS_gname, wS_gsub, wS_gnil, wS_gcons, wS_augI, wE_C, wE_nil, wE_cons, wE_tup, wE_lst, wE_op, wE_un, wE_cb, wE_isi, wE_isiT, wE_call, wE_g1, wE_g2, isB_bl, wE_tst, wE_not, wE_and, wE_or, wE_andV, wE_orV, wE_notV, wE_ifE, isI2_int, wE_int, wE_addI, wE_is, wE_mt, wE_mt0, wE_part, wE_noP, wE_sl, wE_chain, wS_for, wE_src, wE_seqI, wE_optI, wE_lc, wE_yes, wE_V0, wE_V1, wE_optR, wS_optS, wE_ix, ixW_lst, wE_get, gtW_lst, wGe1, wIx0, wIx1, wIx2, wIx3, wS_st, stW_lst, wSt0, wSt1, wSt2, wSt3, List.getElem?_cons_zero, List.getElem?_cons_succ, List.set_cons_zero, List.set_cons_succ, startM, List.map_cons, List.map_nil, List.length_cons, List.length_nil, List.replicate, List.cons_append, List.nil_append, List.set_set, Nat.zero_le, if_true]
  rw [srcOf_ref (xs := xs) (by rw [List.getElem?_append_left (lt_of_at hL)]; exact hL)]
  simp only [wE_ok, wE_bind, wS_seq, wS_next, wS_brk, wS_cont, wS_drop, wS_ret, wS_retN, wS_ifS, wS_asg, wS_gname, wS_gsub, wS_gnil, wS_gcons, wS_augI, wE_C, wE_nil, wE_cons, wE_tup, wE_lst, wE_op, wE_un, wE_cb, wE_isi, wE_isiT, wE_call, wE_g1, wE_g2, isB_bl, wE_tst, wE_not, wE_and, wE_or, wE_andV, wE_orV, wE_notV, wE_ifE, isI2_int, wE_int, wE_addI, wE_is, wE_mt, wE_mt0, wE_part, wE_noP, wE_sl, wE_chain, wS_for, wE_src, wE_seqI, wE_optI, wE_lc, wE_yes, wE_V0, wE_V1, wE_optR, wS_optS, wE_ix, ixW_lst, wE_get, gtW_lst, wGe1, wIx0, wIx1, wIx2, wIx3, wS_st, stW_lst, wSt0, wSt1, wSt2, wSt3, List.getElem?_cons_zero, List.getElem?_cons_succ, List.set_cons_zero, List.set_cons_succ, startM, List.map_cons, List.map_nil, List.length_cons, List.length_nil, List.replicate, List.cons_append, List.nil_append, List.set_set]
  refine forL_inv (fun i σ S' => ∃ ys o, σ = [some (.ref b), some (.ref k), some (.ref S.length), o] ∧ S'[S.length]? = some (.lst ys) ∧ ys.Perm (xs.take i) ∧ Box S' b c ∧ Fr (fun n => n = b) S S') ?_ ?_ ?_ ?_
  · exact ⟨[], none, rfl, get_last, .refl _, hb.app, Fr.app⟩
  · rintro i σ S' ⟨ys, o, rfl, h1, h2, h3, h4⟩
    exact h4.at_ hL hn
  · rintro i x σ S' hx ⟨ys, o, rfl, h1, h2, h3, h4⟩
    have hyl : ys.length ≤ 500 := by
      rw [h2.length_eq, List.length_take]
      omega
    simp only [wE_ok, wE_bind, wS_seq, wS_next, wS_brk, wS_cont, wS_drop, wS_ret, wS_retN, wS_ifS, wS_asg, wS_gname, wS_gsub, wS_gnil, wS_gcons, wS_augI, wE_C, wE_nil, wE_cons, wE_tup, wE_lst, wE_op, wE_un, wE_cb, wE_isi, wE_isiT, wE_call, wE_g1, wE_g2, isB_bl, wE_tst, wE_not, wE_and, wE_or, wE_andV, wE_orV, wE_notV, wE_ifE, isI2_int, wE_int, wE_addI, wE_is, wE_mt, wE_mt0, wE_part, wE_noP, wE_sl, wE_chain, wS_for, wE_src, wE_seqI, wE_optI, wE_lc, wE_yes, wE_V0, wE_V1, wE_optR, wS_optS, wE_ix, ixW_lst, wE_get, gtW_lst, wGe1, wIx0, wIx1, wIx2, wIx3, wS_st, stW_lst, wSt0, wSt1, wSt2, wSt3, List.getElem?_cons_zero, List.getElem?_cons_succ, List.set_cons_zero, List.set_cons_succ, startM, List.map_cons, List.map_nil, List.length_cons, List.length_nil, List.replicate, List.cons_append, List.nil_append, List.set_set, tyB_ref h1, wE_lenL h1, if_true]
    refine wE_mono (take_w h3 (by omega) (by omega)) fun v S2 ⟨t, hv, t0, t1, h5, h6⟩ => ?_
    subst hv
    have h7 : S2[S.length]? = some (.lst ys) := h6.at_ h1 (by omega)
    rw [wE_insert h7 (by omega) t0 (by omega)]
    have e1 : S2.length = (S2.set S.length (.lst (ys.take t.toNat ++ [x] ++ ys.drop t.toNat))).length := by simp
    refine ⟨_, some x, rfl, set_at h7, ?_, ?_, ?_⟩
    · rw [List.take_add_one, hx]
      refine List.Perm.trans ?_ (h2.append_right _)
      rw [List.append_assoc]
      refine List.Perm.trans List.perm_middle ?_
      show (x :: (ys.take t.toNat ++ ys.drop t.toNat)).Perm _
      rw [List.take_append_drop]
      exact (List.perm_append_comm (l₁ := [x]) (l₂ := ys))
    · exact h5.set (by omega) (by omega)
    · exact h4.new ((h6.wk fun _ _ z => .inr z).trans (Fr.set (.inl (Nat.le_refl _))))
  · rintro σ S' ⟨ys, o, rfl, h1, h2, h3, h4⟩
    simp only [wE_ok, wE_bind, wS_seq, wS_next, wS_brk, wS_cont, wS_drop, wS_ret, wS_retN, wS_ifS, wS_asg, wS_gname, wS_gsub, wS_gnil, wS_gcons, wS_augI, wE_C, wE_nil, wE_cons, wE_tup, wE_lst, wE_op, wE_un, wE_cb, wE_isi, wE_isiT, wE_call, wE_g1, wE_g2, isB_bl, wE_tst, wE_not, wE_and, wE_or, wE_andV, wE_orV, wE_notV, wE_ifE, isI2_int, wE_int, wE_addI, wE_is, wE_mt, wE_mt0, wE_part, wE_noP, wE_sl, wE_chain, wS_for, wE_src, wE_seqI, wE_optI, wE_lc, wE_yes, wE_V0, wE_V1, wE_optR, wS_optS, wE_ix, ixW_lst, wE_get, gtW_lst, wGe1, wIx0, wIx1, wIx2, wIx3, wS_st, stW_lst, wSt0, wSt1, wSt2, wSt3, List.getElem?_cons_zero, List.getElem?_cons_succ, List.set_cons_zero, List.set_cons_succ, startM, List.map_cons, List.map_nil, List.length_cons, List.length_nil, List.replicate, List.cons_append, List.nil_append, List.set_set]
    exact ⟨_, ys, rfl, h1, by rwa [List.take_length] at h2, h3, Nat.le_refl _, h4⟩
/-- ties: two houses, a price -/
abbrev Tie := Nat × Nat × Nat
def tieV (t : Tie) : VV := .tup [.int (t.1 : Nat), .int (t.2.1 : Nat), .int (t.2.2 : Nat)]
def tieP (t : Tie) : Nat × Nat := (t.1, t.2.1)
theorem some_ties_w {S : Sto} {b c many : Nat} {odds : Int} (hb : Box S b c) (hm : many ≤ 20) (h0 : 0 < many) :
    wE (Cm.m__law_some_ties [.ref b, .int (many : Nat), .int odds] S) fun v S' => ∃ (n : Nat) (ts : List Tie), v = .ref n ∧ S'[n]? = some (.lst (ts.map tieV)) ∧ (ts.map tieP).Sublist (pairsN many) ∧ (∀ t ∈ ts, 1 ≤ t.2.2 ∧ t.2.2 ≤ 9) ∧ ts.length ≤ 14 ∧ Box S' b c ∧ S.length ≤ n ∧ Fr (fun n => n = b) S S' := by
  have hbl := hb.lt
  have hcl := hb.lt2
  unfold Cm.m__law_some_ties
  rw [wE_fn (by rfl)]
  simp only [wE_ok, wE_bind, wS_seq, wS_next, wS_brk, wS_cont, wS_drop, wS_ret, wS_retN, wS_ifS, wS_asg, wS_gname, wS_gsub, wS_gnil, wS_gcons, wS_augI, wE_C, wE_nil, wE_cons, wE_tup, wE_lst, wE_op, wE_un, wE_cb, wE_isi, wE_isiT, wE_call, wE_g1, wE_g2, isB_bl, wE_tst, wE_not, wE_and, wE_or, wE_andV, wE_orV, wE_notV, wE_ifE, isI2_int, wE_int, wE_addI, wE_is, wE_mt, wE_mt0, wE_part, wE_noP, wE_sl, wE_chain, wS_for, wE_src, wE_seqI, wE_optI, wE_lc, wE_yes, wE_V0, wE_V1, wE_optR, wS_optS, wE_ix, ixW_lst, wE_get, gtW_lst, wGe1, wIx0, wIx1, wIx2, wIx3, wS_st, stW_lst, wSt0, wSt1, wSt2, wSt3, List.getElem?_cons_zero, List.getElem?_cons_succ, List.set_cons_zero, List.set_cons_succ, startM, List.map_cons, List.map_nil, List.length_cons, List.length_nil, List.replicate, List.cons_append, List.nil_append, List.set_set, Nat.zero_le, if_true]
  refine wE_mono (pairs_w hm h0) fun v S1 ⟨q, hv, hq, hq2, hf⟩ => ?_
  subst hv
  rw [srcOf_ref hq]
  simp only [wE_ok, wE_bind, wS_seq, wS_next, wS_brk, wS_cont, wS_drop, wS_ret, wS_retN, wS_ifS, wS_asg, wS_gname, wS_gsub, wS_gnil, wS_gcons, wS_augI, wE_C, wE_nil, wE_cons, wE_tup, wE_lst, wE_op, wE_un, wE_cb, wE_isi, wE_isiT, wE_call, wE_g1, wE_g2, isB_bl, wE_tst, wE_not, wE_and, wE_or, wE_andV, wE_orV, wE_notV, wE_ifE, isI2_int, wE_int, wE_addI, wE_is, wE_mt, wE_mt0, wE_part, wE_noP, wE_sl, wE_chain, wS_for, wE_src, wE_seqI, wE_optI, wE_lc, wE_yes, wE_V0, wE_V1, wE_optR, wS_optS, wE_ix, ixW_lst, wE_get, gtW_lst, wGe1, wIx0, wIx1, wIx2, wIx3, wS_st, stW_lst, wSt0, wSt1, wSt2, wSt3, List.getElem?_cons_zero, List.getElem?_cons_succ, List.set_cons_zero, List.set_cons_succ, startM, List.map_cons, List.map_nil, List.length_cons, List.length_nil, List.replicate, List.cons_append, List.nil_append, List.set_set]
  have hf1 : Fr No S S1 := (Fr.app (T := [OO.lst []])).trans hf
  rw [List.length_append, List.length_singleton] at hq2
  refine forL_inv (fun i σ S' => ∃ (ts : List Tie) (o o' : Option VV), σ = [some (.ref b), some (.int (many : Nat)), some (.int odds), some (.ref S.length), o, o'] ∧ S'[S.length]? = some (.lst (ts.map tieV)) ∧ (ts.map tieP).Sublist ((pairsN many).take i) ∧ (∀ t ∈ ts, 1 ≤ t.2.2 ∧ t.2.2 ≤ 9) ∧ ts.length ≤ 14 ∧ Box S' b c ∧ S'[q]? = some (.lst ((pairsN many).map pairV)) ∧ S.length + 1 ≤ S'.length ∧ Fr (fun n => n = b) S S') ?_ ?_ ?_ ?_
  · refine ⟨[], none, none, rfl, hf.at_ get_last (fun z => z), by simp, (fun t ht => by cases ht), by simp, hb.fr hf1 (fun z => z) (fun z => z), hq, ?_, hf1.wk fun _ _ z => z.elim⟩
    have := hf.1
    rw [List.length_append, List.length_singleton] at this
    exact this
  · rintro i σ S' ⟨ts, o, o', rfl, h1, h2, h3, h4, h5, h6, h6', h7⟩
    exact h6
  · rintro i x σ S' hx ⟨ts, o, o', rfl, h1, h2, h3, h4, h5, h6, h6', h7⟩
    rw [List.getElem?_map] at hx
    obtain ⟨⟨i1, i2⟩, hp, rfl⟩ := Option.map_eq_some_iff.mp hx
    have skip : ∀ S2, S2[S.length]? = some (.lst (ts.map tieV)) → Box S2 b c → S2[q]? = some (.lst ((pairsN many).map pairV)) → S.length + 1 ≤ S2.length → Fr (fun n => n = b) S S2 → ∃ (ts : List Tie) (o o' : Option VV), [some (.ref b), some (.int (many : Nat)), some (.int odds), some (.ref S.length), some (VV.int (i1 : Nat)), some (VV.int (i2 : Nat))] = [some (.ref b), some (.int (many : Nat)), some (.int odds), some (.ref S.length), o, o'] ∧ S2[S.length]? = some (.lst (ts.map tieV)) ∧ (ts.map tieP).Sublist ((pairsN many).take (i + 1)) ∧ (∀ t ∈ ts, 1 ≤ t.2.2 ∧ t.2.2 ≤ 9) ∧ ts.length ≤ 14 ∧ Box S2 b c ∧ S2[q]? = some (.lst ((pairsN many).map pairV)) ∧ S.length + 1 ≤ S2.length ∧ Fr (fun n => n = b) S S2 :=
      fun S2 a1 a2 a3 a4 a5 => ⟨ts, _, _, rfl, a1, h2.trans (by rw [List.take_add_one]; exact List.sublist_append_left _ _), h3, h4, a2, a3, a4, a5⟩
    unfold pairV
    rw [wS_gtup (by rfl)]
    simp only [wE_ok, wE_bind, wS_seq, wS_next, wS_brk, wS_cont, wS_drop, wS_ret, wS_retN, wS_ifS, wS_asg, wS_gname, wS_gsub, wS_gnil, wS_gcons, wS_augI, wE_C, wE_nil, wE_cons, wE_tup, wE_lst, wE_op, wE_un, wE_cb, wE_isi, wE_isiT, wE_call, wE_g1, wE_g2, isB_bl, wE_tst, wE_not, wE_and, wE_or, wE_andV, wE_orV, wE_notV, wE_ifE, isI2_int, wE_int, wE_addI, wE_is, wE_mt, wE_mt0, wE_part, wE_noP, wE_sl, wE_chain, wS_for, wE_src, wE_seqI, wE_optI, wE_lc, wE_yes, wE_V0, wE_V1, wE_optR, wS_optS, wE_ix, ixW_lst, wE_get, gtW_lst, wGe1, wIx0, wIx1, wIx2, wIx3, wS_st, stW_lst, wSt0, wSt1, wSt2, wSt3, List.getElem?_cons_zero, List.getElem?_cons_succ, List.set_cons_zero, List.set_cons_succ, startM, List.map_cons, List.map_nil, List.length_cons, List.length_nil, List.replicate, List.cons_append, List.nil_append, List.set_set, wE_lenL h1, List.length_map]
    by_cases c1 : (ts.length : Int) < 14
    · rw [if_pos (decide_eq_true c1)]
      refine wE_mono (take_w h5 (by decide) (by decide)) fun v S2 ⟨t, hv, t0, t1, b2, f2⟩ => ?_
      subst hv
      simp only [wE_ok, wE_bind, wS_seq, wS_next, wS_brk, wS_cont, wS_drop, wS_ret, wS_retN, wS_ifS, wS_asg, wS_gname, wS_gsub, wS_gnil, wS_gcons, wS_augI, wE_C, wE_nil, wE_cons, wE_tup, wE_lst, wE_op, wE_un, wE_cb, wE_isi, wE_isiT, wE_call, wE_g1, wE_g2, isB_bl, wE_tst, wE_not, wE_and, wE_or, wE_andV, wE_orV, wE_notV, wE_ifE, isI2_int, wE_int, wE_addI, wE_is, wE_mt, wE_mt0, wE_part, wE_noP, wE_sl, wE_chain, wS_for, wE_src, wE_seqI, wE_optI, wE_lc, wE_yes, wE_V0, wE_V1, wE_optR, wS_optS, wE_ix, ixW_lst, wE_get, gtW_lst, wGe1, wIx0, wIx1, wIx2, wIx3, wS_st, stW_lst, wSt0, wSt1, wSt2, wSt3, List.getElem?_cons_zero, List.getElem?_cons_succ, List.set_cons_zero, List.set_cons_succ, startM, List.map_cons, List.map_nil, List.length_cons, List.length_nil, List.replicate, List.cons_append, List.nil_append, List.set_set]
      have g1 : S2[S.length]? = some (.lst (ts.map tieV)) := f2.at_ h1 (by omega)
      have g2 : S2[q]? = some (.lst ((pairsN many).map pairV)) := f2.at_ h6 (by omega)
      have g3 := f2.1
      by_cases c2 : t < odds
      · rw [if_pos (decide_eq_true c2)]
        simp only [wE_ok, wE_bind, wS_seq, wS_next, wS_brk, wS_cont, wS_drop, wS_ret, wS_retN, wS_ifS, wS_asg, wS_gname, wS_gsub, wS_gnil, wS_gcons, wS_augI, wE_C, wE_nil, wE_cons, wE_tup, wE_lst, wE_op, wE_un, wE_cb, wE_isi, wE_isiT, wE_call, wE_g1, wE_g2, isB_bl, wE_tst, wE_not, wE_and, wE_or, wE_andV, wE_orV, wE_notV, wE_ifE, isI2_int, wE_int, wE_addI, wE_is, wE_mt, wE_mt0, wE_part, wE_noP, wE_sl, wE_chain, wS_for, wE_src, wE_seqI, wE_optI, wE_lc, wE_yes, wE_V0, wE_V1, wE_optR, wS_optS, wE_ix, ixW_lst, wE_get, gtW_lst, wGe1, wIx0, wIx1, wIx2, wIx3, wS_st, stW_lst, wSt0, wSt1, wSt2, wSt3, List.getElem?_cons_zero, List.getElem?_cons_succ, List.set_cons_zero, List.set_cons_succ, startM, List.map_cons, List.map_nil, List.length_cons, List.length_nil, List.replicate, List.cons_append, List.nil_append, List.set_set, tyB_ref g1, if_true, Nat.reduceLeDiff]
        refine wE_mono (take_w (b2.app) (by decide) (by decide)) fun v S3 ⟨u, hv, u0, u1, b3, f3⟩ => ?_
        subst hv
        have g4 : S3[S2.length]? = some (.lst [.int 2, .int 9]) := f3.at_ get_last (by have := b2.lt; omega)
        simp only [wE_ok, wE_bind, wS_seq, wS_next, wS_brk, wS_cont, wS_drop, wS_ret, wS_retN, wS_ifS, wS_asg, wS_gname, wS_gsub, wS_gnil, wS_gcons, wS_augI, wE_C, wE_nil, wE_cons, wE_tup, wE_lst, wE_op, wE_un, wE_cb, wE_isi, wE_isiT, wE_call, wE_g1, wE_g2, isB_bl, wE_tst, wE_not, wE_and, wE_or, wE_andV, wE_orV, wE_notV, wE_ifE, isI2_int, wE_int, wE_addI, wE_is, wE_mt, wE_mt0, wE_part, wE_noP, wE_sl, wE_chain, wS_for, wE_src, wE_seqI, wE_optI, wE_lc, wE_yes, wE_V0, wE_V1, wE_optR, wS_optS, wE_ix, ixW_lst, wE_get, gtW_lst, wGe1, wIx0, wIx1, wIx2, wIx3, wS_st, stW_lst, wSt0, wSt1, wSt2, wSt3, List.getElem?_cons_zero, List.getElem?_cons_succ, List.set_cons_zero, List.set_cons_succ, startM, List.map_cons, List.map_nil, List.length_cons, List.length_nil, List.replicate, List.cons_append, List.nil_append, List.set_set, g4]
        have fin : ∀ k : Int, 0 < k → k ≤ 9 → wE (Cm.m__law_take [.ref b, .int k] S3) fun x S4 => wE (gAdd (.int 1) x S4) fun y S5 => wE (gLm lmAppend (.ref S.length) [.tup [.int (i1 : Nat), .int (i2 : Nat), y]] S5) fun _ S6 => ∃ (ts : List Tie) (o o' : Option VV), [some (.ref b), some (.int (many : Nat)), some (.int odds), some (.ref S.length), some (VV.int (i1 : Nat)), some (VV.int (i2 : Nat))] = [some (.ref b), some (.int (many : Nat)), some (.int odds), some (.ref S.length), o, o'] ∧ S6[S.length]? = some (.lst (ts.map tieV)) ∧ (ts.map tieP).Sublist ((pairsN many).take (i + 1)) ∧ (∀ t ∈ ts, 1 ≤ t.2.2 ∧ t.2.2 ≤ 9) ∧ ts.length ≤ 14 ∧ Box S6 b c ∧ S6[q]? = some (.lst ((pairsN many).map pairV)) ∧ S.length + 1 ≤ S6.length ∧ Fr (fun n => n = b) S S6 := by
          intro k k0 k9
          refine wE_mono (take_w b3 k0 (by omega)) fun v S4 ⟨w, hv, w0, w1, b4, f4⟩ => ?_
          subst hv
          simp only [wE_ok, wE_bind, wS_seq, wS_next, wS_brk, wS_cont, wS_drop, wS_ret, wS_retN, wS_ifS, wS_asg, wS_gname, wS_gsub, wS_gnil, wS_gcons, wS_augI, wE_C, wE_nil, wE_cons, wE_tup, wE_lst, wE_op, wE_un, wE_cb, wE_isi, wE_isiT, wE_call, wE_g1, wE_g2, isB_bl, wE_tst, wE_not, wE_and, wE_or, wE_andV, wE_orV, wE_notV, wE_ifE, isI2_int, wE_int, wE_addI, wE_is, wE_mt, wE_mt0, wE_part, wE_noP, wE_sl, wE_chain, wS_for, wE_src, wE_seqI, wE_optI, wE_lc, wE_yes, wE_V0, wE_V1, wE_optR, wS_optS, wE_ix, ixW_lst, wE_get, gtW_lst, wGe1, wIx0, wIx1, wIx2, wIx3, wS_st, stW_lst, wSt0, wSt1, wSt2, wSt3, List.getElem?_cons_zero, List.getElem?_cons_succ, List.set_cons_zero, List.set_cons_succ, startM, List.map_cons, List.map_nil, List.length_cons, List.length_nil, List.replicate, List.cons_append, List.nil_append, List.set_set]
          have r1 : S4[S.length]? = some (.lst (ts.map tieV)) := f4.at_ (f3.at_ (by rw [List.getElem?_append_left (lt_of_at g1)]; exact g1) (by omega)) (by omega)
          have r2 : S4[q]? = some (.lst ((pairsN many).map pairV)) := f4.at_ (f3.at_ (by rw [List.getElem?_append_left (lt_of_at g2)]; exact g2) (by omega)) (by omega)
          have r3 := lt_of_at r1
          rw [wE_append r1 (by rw [List.length_map]; omega)]
          refine ⟨ts ++ [(i1, i2, (1 + w).toNat)], _, _, rfl, ?_, ?_, ?_, ?_, b4.set (by omega) (by omega), ?_, ?_, ?_⟩
          · rw [set_at r1, List.map_append]
            congr 3
            unfold tieV
            simp only [List.map_cons, List.map_nil]
            rw [Int.toNat_of_nonneg (by omega)]
          · rw [List.map_append, List.take_add_one, hp]
            exact h2.append (List.Sublist.refl _)
          · intro t ht
            rcases List.mem_append.mp ht with ht | ht
            · exact h3 t ht
            · rw [List.mem_singleton] at ht
              subst ht
              exact ⟨by show 1 ≤ (1 + w).toNat; omega, by show (1 + w).toNat ≤ 9; omega⟩
          · rw [List.length_append, List.length_singleton]; omega
          · rw [List.getElem?_set_ne (by omega)]
            exact r2
          · rw [List.length_set]; omega
          · exact h7.new (((f2.trans ((Fr.app).trans (f3.trans f4))).wk fun _ _ z => .inr z).trans (Fr.set (.inl (Nat.le_refl _))))
        have hu : u = 0 ∨ u = 1 := by omega
        rcases hu with rfl | rfl
        · simp only [wE_ok, wE_bind, wS_seq, wS_next, wS_brk, wS_cont, wS_drop, wS_ret, wS_retN, wS_ifS, wS_asg, wS_gname, wS_gsub, wS_gnil, wS_gcons, wS_augI, wE_C, wE_nil, wE_cons, wE_tup, wE_lst, wE_op, wE_un, wE_cb, wE_isi, wE_isiT, wE_call, wE_g1, wE_g2, isB_bl, wE_tst, wE_not, wE_and, wE_or, wE_andV, wE_orV, wE_notV, wE_ifE, isI2_int, wE_int, wE_addI, wE_is, wE_mt, wE_mt0, wE_part, wE_noP, wE_sl, wE_chain, wS_for, wE_src, wE_seqI, wE_optI, wE_lc, wE_yes, wE_V0, wE_V1, wE_optR, wS_optS, wE_ix, ixW_lst, wE_get, gtW_lst, wGe1, wIx0, wIx1, wIx2, wIx3, wS_st, stW_lst, wSt0, wSt1, wSt2, wSt3, List.getElem?_cons_zero, List.getElem?_cons_succ, List.set_cons_zero, List.set_cons_succ, startM, List.map_cons, List.map_nil, List.length_cons, List.length_nil, List.replicate, List.cons_append, List.nil_append, List.set_set]
          exact fin 2 (by decide) (by decide)
        · simp only [wE_ok, wE_bind, wS_seq, wS_next, wS_brk, wS_cont, wS_drop, wS_ret, wS_retN, wS_ifS, wS_asg, wS_gname, wS_gsub, wS_gnil, wS_gcons, wS_augI, wE_C, wE_nil, wE_cons, wE_tup, wE_lst, wE_op, wE_un, wE_cb, wE_isi, wE_isiT, wE_call, wE_g1, wE_g2, isB_bl, wE_tst, wE_not, wE_and, wE_or, wE_andV, wE_orV, wE_notV, wE_ifE, isI2_int, wE_int, wE_addI, wE_is, wE_mt, wE_mt0, wE_part, wE_noP, wE_sl, wE_chain, wS_for, wE_src, wE_seqI, wE_optI, wE_lc, wE_yes, wE_V0, wE_V1, wE_optR, wS_optS, wE_ix, ixW_lst, wE_get, gtW_lst, wGe1, wIx0, wIx1, wIx2, wIx3, wS_st, stW_lst, wSt0, wSt1, wSt2, wSt3, List.getElem?_cons_zero, List.getElem?_cons_succ, List.set_cons_zero, List.set_cons_succ, startM, List.map_cons, List.map_nil, List.length_cons, List.length_nil, List.replicate, List.cons_append, List.nil_append, List.set_set]
          exact fin 9 (by decide) (by decide)
      · rw [if_neg (by simpa using c2)]
        exact skip S2 g1 b2 g2 (by omega) (h7.trans f2)
    · rw [if_neg (by simpa using c1)]
      simp only [wE_ok, wE_bind, wS_seq, wS_next, wS_brk, wS_cont, wS_drop, wS_ret, wS_retN, wS_ifS, wS_asg, wS_gname, wS_gsub, wS_gnil, wS_gcons, wS_augI, wE_C, wE_nil, wE_cons, wE_tup, wE_lst, wE_op, wE_un, wE_cb, wE_isi, wE_isiT, wE_call, wE_g1, wE_g2, isB_bl, wE_tst, wE_not, wE_and, wE_or, wE_andV, wE_orV, wE_notV, wE_ifE, isI2_int, wE_int, wE_addI, wE_is, wE_mt, wE_mt0, wE_part, wE_noP, wE_sl, wE_chain, wS_for, wE_src, wE_seqI, wE_optI, wE_lc, wE_yes, wE_V0, wE_V1, wE_optR, wS_optS, wE_ix, ixW_lst, wE_get, gtW_lst, wGe1, wIx0, wIx1, wIx2, wIx3, wS_st, stW_lst, wSt0, wSt1, wSt2, wSt3, List.getElem?_cons_zero, List.getElem?_cons_succ, List.set_cons_zero, List.set_cons_succ, startM, List.map_cons, List.map_nil, List.length_cons, List.length_nil, List.replicate, List.cons_append, List.nil_append, List.set_set, Bool.false_eq_true, if_false]
      exact skip S' h1 h5 h6 h6' h7
  · rintro σ S' ⟨ts, o, o', rfl, h1, h2, h3, h4, h5, h6, h6', h7⟩
    simp only [wE_ok, wE_bind, wS_seq, wS_next, wS_brk, wS_cont, wS_drop, wS_ret, wS_retN, wS_ifS, wS_asg, wS_gname, wS_gsub, wS_gnil, wS_gcons, wS_augI, wE_C, wE_nil, wE_cons, wE_tup, wE_lst, wE_op, wE_un, wE_cb, wE_isi, wE_isiT, wE_call, wE_g1, wE_g2, isB_bl, wE_tst, wE_not, wE_and, wE_or, wE_andV, wE_orV, wE_notV, wE_ifE, isI2_int, wE_int, wE_addI, wE_is, wE_mt, wE_mt0, wE_part, wE_noP, wE_sl, wE_chain, wS_for, wE_src, wE_seqI, wE_optI, wE_lc, wE_yes, wE_V0, wE_V1, wE_optR, wS_optS, wE_ix, ixW_lst, wE_get, gtW_lst, wGe1, wIx0, wIx1, wIx2, wIx3, wS_st, stW_lst, wSt0, wSt1, wSt2, wSt3, List.getElem?_cons_zero, List.getElem?_cons_succ, List.set_cons_zero, List.set_cons_succ, startM, List.map_cons, List.map_nil, List.length_cons, List.length_nil, List.replicate, List.cons_append, List.nil_append, List.set_set]
    rw [List.length_map, List.take_length] at h2
    exact ⟨_, ts, rfl, h1, h2, h3, h4, h5, Nat.le_refl _, h7⟩
end Sx
end
/-! CmP3: data in the store; _law_same. -/
noncomputable section
namespace Sx
open PySem L2
section
variable {Q : VV → Sto → Prop} {S : Sto}
theorem gEqB_of {x y : VV} {d e : PyData} (h1 : dat S 8 x = some d) (h2 : dat S 8 y = some e) (h3 : SeqAt.shaped d = true) (h4 : SeqAt.shaped e = true) : gEqB x y S = some (PyData.eqv d e) := by
  unfold gEqB
  rw [h1, h2]
  dsimp only
  rw [h3, h4]
  rfl
theorem wE_eqD {neg : Bool} {x y : VV} {d e : PyData} (h1 : dat S 8 x = some d) (h2 : dat S 8 y = some e) (h3 : SeqAt.shaped d = true) (h4 : SeqAt.shaped e = true) : wE (gEq neg x y S) Q = Q (.bl (if neg = true then !(PyData.eqv d e) else PyData.eqv d e)) S := by
  unfold gEq
  rw [gEqB_of h1 h2 h3 h4]
  rfl
theorem wE_eqBl {neg a b : Bool} : wE (gEq neg (.bl a) (.bl b) S) Q = Q (.bl (if neg = true then !(a == b) else a == b)) S := wE_eqD (d := .bool a) (e := .bool b) rfl rfl rfl rfl
theorem wE_eqI {neg : Bool} {i j : Int} : wE (gEq neg (.int i) (.int j) S) Q = Q (.bl (if neg = true then !(i == j) else i == j)) S := wE_eqD (d := .int i) (e := .int j) rfl rfl rfl rfl
theorem wE_isiK {u t : String} {x : VV} {b : Bool} (h : tyN S x = some t) (k : kitB t u = some b) : wE (gIsi u x S) Q = Q (.bl b) S := by
  unfold gIsi
  rw [h]
  show wE (optR ((kitB t u).map .bl) S) Q = _
  rw [k]
  rfl
theorem wE_isiTK {us : List String} {t : String} {x : VV} {b : Bool} (h : tyN S x = some t) (k : anyB t us = some b) : wE (gIsiT us x S) Q = Q (.bl b) S := by
  unfold gIsiT
  rw [h]
  show wE (optR ((anyB t us).map .bl) S) Q = _
  rw [k]
  rfl
theorem tyN_ref {n : Nat} {xs : List VV} (h : S[n]? = some (.lst xs)) : tyN S (.ref n) = some "list" := by
  unfold tyN
  dsimp only
  rw [h]
  rfl
end
/-- a value as data, no read-only list in it -/
def dtA (S : Sto) : Nat → VV → Option PyData
  | _, .non => some .none
  | _, .bl b => some (.bool b)
  | _, .int i => some (.int i)
  | _, .str x => some (.str x)
  | n + 1, .tup xs => (xs.mapM (dtA S n)).map .tuple
  | n + 1, .ref k => match S[k]? with
    | some (.lst xs) => (xs.mapM (dtA S n)).map .list
    | _ => none
  | _, _ => none
theorem mapM_some {α β : Type} {f g : α → Option β} : ∀ {xs : List α} {ys : List β}, xs.mapM f = some ys → (∀ x y, x ∈ xs → f x = some y → g x = some y) → xs.mapM g = some ys
  | [], ys, h, _ => by simpa using h
  | x :: xs, ys, h, k => by
    rw [List.mapM_cons] at h ⊢
    cases e : f x with
    | none => rw [e] at h; simp at h
    | some y =>
      rw [e] at h
      rw [k x y List.mem_cons_self e]
      cases e2 : xs.mapM f with
      | none => rw [e2] at h; simp at h
      | some zs =>
        rw [e2] at h
        rw [mapM_some e2 fun x y hx => k x y (List.mem_cons_of_mem _ hx)]
        exact h
theorem dtA_mono {S S' : Sto} (hs : ∀ (k : Nat) (xs : List VV), S[k]? = some (.lst xs) → S'[k]? = some (.lst xs)) : ∀ (n : Nat) (x : VV) (d : PyData), dtA S n x = some d → dtA S' n x = some d
  | _, .non, _, h => by unfold dtA at h ⊢; exact h
  | _, .bl b, _, h => by unfold dtA at h ⊢; exact h
  | _, .int i, _, h => by unfold dtA at h ⊢; exact h
  | _, .str x, _, h => by unfold dtA at h ⊢; exact h
  | 0, .tup _, _, h => by unfold dtA at h; cases h
  | 0, .ref _, _, h => by unfold dtA at h; cases h
  | 0, .rol _, _, h => by unfold dtA at h; cases h
  | _ + 1, .rol _, _, h => by unfold dtA at h; cases h
  | n + 1, .tup xs, d, h => by
    unfold dtA at h ⊢
    obtain ⟨ds, h1, rfl⟩ := Option.map_eq_some_iff.mp h
    rw [mapM_some h1 fun x y _ => dtA_mono hs n x y]
    rfl
  | n + 1, .ref k, d, h => by
    unfold dtA at h ⊢
    split at h
    · rename_i xs e
      obtain ⟨ds, h1, rfl⟩ := Option.map_eq_some_iff.mp h
      rw [hs k xs e]
      dsimp only
      rw [mapM_some h1 fun x y _ => dtA_mono hs n x y]
      rfl
    · cases h
theorem dtA_dat {S : Sto} : ∀ (n m : Nat) (x : VV) (d : PyData), n ≤ m → dtA S n x = some d → dat S m x = some d
  | _, _, .non, _, _, h => by unfold dtA at h; unfold dat; exact h
  | _, _, .bl b, _, _, h => by unfold dtA at h; unfold dat; exact h
  | _, _, .int i, _, _, h => by unfold dtA at h; unfold dat; exact h
  | _, _, .str x, _, _, h => by unfold dtA at h; unfold dat; exact h
  | 0, _, .tup _, _, _, h => by unfold dtA at h; cases h
  | 0, _, .ref _, _, _, h => by unfold dtA at h; cases h
  | 0, _, .rol _, _, _, h => by unfold dtA at h; cases h
  | _ + 1, _, .rol _, _, _, h => by unfold dtA at h; cases h
  | n + 1, 0, .tup xs, d, hm, h => absurd hm (by omega)
  | n + 1, 0, .ref xs, d, hm, h => absurd hm (by omega)
  | n + 1, m + 1, .tup xs, d, hm, h => by
    unfold dtA at h
    unfold dat
    obtain ⟨ds, h1, rfl⟩ := Option.map_eq_some_iff.mp h
    rw [mapM_some h1 fun x y _ => dtA_dat n m x y (by omega)]
    rfl
  | n + 1, m + 1, .ref k, d, hm, h => by
    unfold dtA at h
    unfold dat
    split at h
    · rename_i xs e
      obtain ⟨ds, h1, rfl⟩ := Option.map_eq_some_iff.mp h
      try rw [e]
      try dsimp only
      rw [mapM_some h1 fun x y _ => dtA_dat n m x y (by omega)]
      rfl
    · cases h
theorem mapM_get {α β : Type} {f : α → Option β} : ∀ {xs : List α} {ys : List β}, xs.mapM f = some ys → xs.length = ys.length ∧ ∀ (i : Nat) (x : α), xs[i]? = some x → ∃ y, ys[i]? = some y ∧ f x = some y
  | [], ys, h => by
    simp at h
    subst h
    exact ⟨rfl, fun i x hx => by simp at hx⟩
  | x :: xs, ys, h => by
    rw [List.mapM_cons] at h
    cases e : f x with
    | none => rw [e] at h; simp at h
    | some y =>
      rw [e] at h
      cases e2 : xs.mapM f with
      | none => rw [e2] at h; simp at h
      | some zs =>
        rw [e2] at h
        simp at h
        subst h
        obtain ⟨h1, h2⟩ := mapM_get e2
        refine ⟨by simp [h1], fun i z hz => ?_⟩
        cases i with
        | zero => simp at hz; subst hz; exact ⟨y, rfl, e⟩
        | succ i => exact h2 i z (by simpa using hz)
mutual
/-- data of moderate size -/
def okD : PyData → Bool
  | .none => true
  | .bool _ => true
  | .int _ => true
  | .str x => PyData.canLay0 (.str x)
  | .list xs => decide (xs.length ≤ 1000) && okDs xs
  | .tuple xs => decide (xs.length ≤ 1000) && okDs xs
  | .dict _ => false
def okDs : List PyData → Bool
  | [] => true
  | x :: xs => okD x && okDs xs
end
theorem okDs_mem : ∀ {ds : List PyData} {d : PyData}, okDs ds = true → d ∈ ds → okD d = true
  | e :: ds, d, h, hd => by
    unfold okDs at h
    rw [Bool.and_eq_true] at h
    rcases List.mem_cons.mp hd with rfl | hd
    · exact h.1
    · exact okDs_mem h.2 hd
/-- x is not a list, not a tuple: what it is -/
def tyD : PyData → String
  | .none => "NoneType"
  | .bool _ => "bool"
  | .int _ => "int"
  | .str _ => "str"
  | .list _ => "list"
  | .tuple _ => "tuple"
  | .dict _ => "dict"
theorem dtA_ty {S : Sto} {n : Nat} {x : VV} {d : PyData} (h : dtA S n x = some d) : tyN S x = some (tyD d) := by
  cases x with
  | non => unfold dtA at h; cases h; rfl
  | bl b => unfold dtA at h; cases h; rfl
  | int b => unfold dtA at h; cases h; rfl
  | str b => unfold dtA at h; cases h; rfl
  | tup xs =>
    cases n with
    | zero => unfold dtA at h; cases h
    | succ n =>
      unfold dtA at h
      obtain ⟨ds, h1, rfl⟩ := Option.map_eq_some_iff.mp h
      rfl
  | ref k =>
    cases n with
    | zero => unfold dtA at h; cases h
    | succ n =>
      unfold dtA at h
      split at h
      · rename_i xs e
        obtain ⟨ds, h1, rfl⟩ := Option.map_eq_some_iff.mp h
        exact tyN_ref e
      · cases h
  | rol xs => cases n <;> (unfold dtA at h; cases h)
theorem dtA_list {S : Sto} {n : Nat} {x : VV} {ds : List PyData} (h : dtA S n x = some (.list ds)) : ∃ m k xs, n = m + 1 ∧ x = .ref k ∧ S[k]? = some (.lst xs) ∧ xs.mapM (dtA S m) = some ds := by
  cases x with
  | ref k =>
    cases n with
    | zero => unfold dtA at h; cases h
    | succ n =>
      unfold dtA at h
      split at h
      · rename_i xs e
        obtain ⟨ds', h1, h2⟩ := Option.map_eq_some_iff.mp h
        cases h2
        exact ⟨n, k, xs, rfl, rfl, e, h1⟩
      · cases h
  | tup xs =>
    cases n with
    | zero => unfold dtA at h; cases h
    | succ n =>
      unfold dtA at h
      obtain ⟨ds', h1, h2⟩ := Option.map_eq_some_iff.mp h
      cases h2
  | rol xs => cases n <;> (unfold dtA at h; cases h)
  | _ => unfold dtA at h; cases h
theorem dtA_tuple {S : Sto} {n : Nat} {x : VV} {ds : List PyData} (h : dtA S n x = some (.tuple ds)) : ∃ m xs, n = m + 1 ∧ x = .tup xs ∧ xs.mapM (dtA S m) = some ds := by
  cases x with
  | ref k =>
    cases n with
    | zero => unfold dtA at h; cases h
    | succ n =>
      unfold dtA at h
      split at h
      · obtain ⟨ds', h1, h2⟩ := Option.map_eq_some_iff.mp h
        cases h2
      · cases h
  | tup xs =>
    cases n with
    | zero => unfold dtA at h; cases h
    | succ n =>
      unfold dtA at h
      obtain ⟨ds', h1, h2⟩ := Option.map_eq_some_iff.mp h
      cases h2
      exact ⟨n, xs, rfl, rfl, h1⟩
  | rol xs => cases n <;> (unfold dtA at h; cases h)
  | _ => unfold dtA at h; cases h
theorem dtA_no_dict {S : Sto} {n : Nat} {x : VV} {ds : List (PyData × PyData)} : dtA S n x ≠ some (.dict ds) := fun h => by
  cases x with
  | ref k =>
    cases n with
    | zero => unfold dtA at h; cases h
    | succ n =>
      unfold dtA at h
      split at h
      · obtain ⟨ds', h1, h2⟩ := Option.map_eq_some_iff.mp h
        cases h2
      · cases h
  | tup xs =>
    cases n with
    | zero => unfold dtA at h; cases h
    | succ n =>
      unfold dtA at h
      obtain ⟨ds', h1, h2⟩ := Option.map_eq_some_iff.mp h
      cases h2
  | rol xs => cases n <;> (unfold dtA at h; cases h)
  | _ => unfold dtA at h; cases h
theorem kb_NoneType_list : kitB "NoneType" "list" = some false := by kernel_rfl
theorem kb_NoneType_tuple : kitB "NoneType" "tuple" = some false := by kernel_rfl
theorem kb_NoneType_bool : kitB "NoneType" "bool" = some false := by kernel_rfl
theorem kb_NoneType_int : kitB "NoneType" "int" = some false := by kernel_rfl
theorem kb_NoneType_str : kitB "NoneType" "str" = some false := by kernel_rfl
theorem kb_bool_list : kitB "bool" "list" = some false := by kernel_rfl
theorem kb_bool_tuple : kitB "bool" "tuple" = some false := by kernel_rfl
theorem kb_bool_bool : kitB "bool" "bool" = some true := by kernel_rfl
theorem kb_bool_int : kitB "bool" "int" = some true := by kernel_rfl
theorem kb_bool_str : kitB "bool" "str" = some false := by kernel_rfl
theorem kb_int_list : kitB "int" "list" = some false := by kernel_rfl
theorem kb_int_tuple : kitB "int" "tuple" = some false := by kernel_rfl
theorem kb_int_bool : kitB "int" "bool" = some false := by kernel_rfl
theorem kb_int_int : kitB "int" "int" = some true := by kernel_rfl
theorem kb_int_str : kitB "int" "str" = some false := by kernel_rfl
theorem kb_str_list : kitB "str" "list" = some false := by kernel_rfl
theorem kb_str_tuple : kitB "str" "tuple" = some false := by kernel_rfl
theorem kb_str_bool : kitB "str" "bool" = some false := by kernel_rfl
theorem kb_str_int : kitB "str" "int" = some false := by kernel_rfl
theorem kb_str_str : kitB "str" "str" = some true := by kernel_rfl
theorem kb_list_list : kitB "list" "list" = some true := by kernel_rfl
theorem kb_list_tuple : kitB "list" "tuple" = some false := by kernel_rfl
theorem kb_list_bool : kitB "list" "bool" = some false := by kernel_rfl
theorem kb_list_int : kitB "list" "int" = some false := by kernel_rfl
theorem kb_list_str : kitB "list" "str" = some false := by kernel_rfl
theorem kb_tuple_list : kitB "tuple" "list" = some false := by kernel_rfl
theorem kb_tuple_tuple : kitB "tuple" "tuple" = some true := by kernel_rfl
theorem kb_tuple_bool : kitB "tuple" "bool" = some false := by kernel_rfl
theorem kb_tuple_int : kitB "tuple" "int" = some false := by kernel_rfl
theorem kb_tuple_str : kitB "tuple" "str" = some false := by kernel_rfl
theorem anyB_lt : anyB "list" ["list", "tuple"] = some true := by unfold anyB; rw [kb_list_list]
theorem anyB_tt : anyB "tuple" ["list", "tuple"] = some true := by unfold anyB; rw [kb_tuple_list]; dsimp only; unfold anyB; rw [kb_tuple_tuple]
theorem anyB_no {t : String} (h1 : kitB t "list" = some false) (h2 : kitB t "tuple" = some false) : anyB t ["list", "tuple"] = some false := by
  unfold anyB
  rw [h1]
  dsimp only
  unfold anyB
  rw [h2]
  rfl
theorem fr_lst {S S' : Sto} (f : Fr No S S') : ∀ (k : Nat) (xs : List VV), S[k]? = some (.lst xs) → S'[k]? = some (.lst xs) := fun k xs h => f.at_ h fun z => z
theorem shaped_atom {d : PyData} (h : d.canLay0 = true) (hd : d.depth = 0) : SeqAt.shaped d = true := by
  unfold SeqAt.shaped
  rw [h, hd]
  rfl
/-- the comparison of each item with its fellow -/
theorem same_items {S : Sto} {n : Nat} {m : FM} {σ : Sg} {x y : VV} {ok : Sto → Prop} {xs ys : List VV} {ds : List PyData} {Q : VV → Sto → Prop} (hx : xs.mapM (dtA S n) = some ds) (hy : ys.mapM (dtA S n) = some ds) (hc : okDs ds = true)
    (hσ : σ = [some x, some y, none, none]) (hok : ∀ S', Fr No S S' → ok S') (hlen : ds.length ≤ 1000)
    (ih : ∀ (S : Sto) (x y : VV) (d : PyData), dtA S n x = some d → dtA S n y = some d → okD d = true → wE (m [x, y] S) fun v S' => v = .bl true ∧ Fr No S S')
    (h : ∀ S', S'[S.length]? = some (.lst ((List.replicate ds.length true).map VV.bl)) → Fr No S S' → Q (.ref S.length) S') :
    wE (lcL ok (gmTup 2 (gmCons (gmName 2) (gmCons (gmName 3) gmNil))) mYes (mCall m (mCons (mV 2) (mCons (mV 3) mNil))) σ S.length (zipW xs ys) (S ++ [.lst []])) Q := by
  subst hσ
  obtain ⟨lx, gx⟩ := mapM_get hx
  obtain ⟨ly, gy⟩ := mapM_get hy
  have lz : (zipW xs ys).length = ds.length := by rw [zipW_len, lx, ly, Nat.min_self]
  refine lcL_inv (fun i S' => S'[S.length]? = some (.lst ((List.replicate i true).map VV.bl)) ∧ Fr No S S') ⟨get_last, Fr.app⟩ (fun i S' h => hok _ h.2) (fun i z S' hz ⟨h1, h2⟩ => ?_) fun S' ⟨h1, h2⟩ => ?_
  · obtain ⟨a, b, rfl, ha, hb⟩ := zipW_get hz
    obtain ⟨d, hd, da⟩ := gx i a ha
    obtain ⟨d', hd', db⟩ := gy i b hb
    rw [hd] at hd'
    cases hd'
    have hi := (List.getElem?_eq_some_iff.mp hd).1
    unfold wG
    rw [wS_gtup (by rfl)]
    simp only [wE_ok, wE_bind, wS_seq, wS_next, wS_brk, wS_cont, wS_drop, wS_ret, wS_retN, wS_ifS, wS_asg, wS_gname, wS_gsub, wS_gnil, wS_gcons, wS_augI, wE_C, wE_nil, wE_cons, wE_tup, wE_lst, wE_op, wE_un, wE_cb, wE_isi, wE_isiT, wE_call, wE_g1, wE_g2, isB_bl, wE_tst, wE_not, wE_and, wE_or, wE_andV, wE_orV, wE_notV, wE_ifE, isI2_int, wE_int, wE_addI, wE_is, wE_mt, wE_mt0, wE_part, wE_noP, wE_sl, wE_chain, wS_for, wE_src, wE_seqI, wE_optI, wE_lc, wE_yes, wE_V0, wE_V1, wE_optR, wS_optS, wE_ix, ixW_lst, wE_get, gtW_lst, wGe1, wIx0, wIx1, wIx2, wIx3, wS_st, stW_lst, wSt0, wSt1, wSt2, wSt3, List.getElem?_cons_zero, List.getElem?_cons_succ, List.set_cons_zero, List.set_cons_succ, startM, List.map_cons, List.map_nil, List.length_cons, List.length_nil, List.replicate, List.cons_append, List.nil_append, List.set_set, if_true]
    refine wE_mono (ih S' a b d (dtA_mono (fr_lst h2) n a d da) (dtA_mono (fr_lst h2) n b d db) (okDs_mem hc (List.mem_of_getElem? hd))) fun v S4 ⟨hv, f4⟩ => ?_
    subst hv
    have h5 := f4.at_ h1 (fun z => z)
    refine ⟨_, h5, by rw [List.length_map, List.length_replicate]; omega, ?_, ?_⟩
    · show _ = some (OO.lst ((List.replicate (i + 1) true).map VV.bl))
      rw [set_at h5, show List.replicate (i + 1) true = List.replicate i true ++ [true] from List.replicate_succ', List.map_append]
      rfl
    · exact h2.new ((f4.wk fun _ _ z => z.elim).trans (Fr.set (.inl (Nat.le_refl _))))
  · rw [lz] at h1
    exact h S' h1 h2
theorem all_true (n : Nat) : (List.replicate n true).all id = true := List.all_eq_true.mpr fun b hb => by rw [(List.mem_replicate.mp hb).2]; rfl
theorem ref_ty {S : Sto} {k : Nat} {t : String} (h : tyN S (.ref k) = some t) (h1 : t ≠ "list") (h2 : t ≠ "dict") : False := by
  have e2 : (S[k]?).bind tyO = some t := h
  cases e3 : S[k]? with
  | none => rw [e3] at e2; cases e2
  | some ob =>
    rw [e3] at e2
    cases ob with
    | lst _ => cases e2; exact h1 rfl
    | dK _ => cases e2; exact h2 rfl
    | dT _ => cases e2; exact h2 rfl
    | _ => cases e2
theorem tyN_none {S : Sto} {z : VV} (h : tyN S z = some "NoneType") : z = .non := by
  cases z with
  | non => rfl
  | ref n => exact (ref_ty h (by decide) (by decide)).elim
  | bl b => exact absurd (show some "bool" = some "NoneType" from h) (by decide)
  | int b => exact absurd (show some "int" = some "NoneType" from h) (by decide)
  | str b => exact absurd (show some "str" = some "NoneType" from h) (by decide)
  | tup b => exact absurd (show some "tuple" = some "NoneType" from h) (by decide)
  | rol b => exact absurd (show none = some "NoneType" from h) (by decide)
theorem dtA_bool {S : Sto} {n : Nat} {x : VV} {b : Bool} (h : dtA S n x = some (.bool b)) : x = .bl b := by
  cases x with
  | bl c => unfold dtA at h; cases h; rfl
  | ref k => exact (ref_ty (show tyN S (.ref k) = some "bool" from dtA_ty h) (by decide) (by decide)).elim
  | tup k => exact absurd (show some "tuple" = some "bool" from dtA_ty h) (by decide)
  | rol xs => cases n <;> (unfold dtA at h; cases h)
  | _ => unfold dtA at h; cases h
theorem dtA_int {S : Sto} {n : Nat} {x : VV} {b : Int} (h : dtA S n x = some (.int b)) : x = .int b := by
  cases x with
  | int c => unfold dtA at h; cases h; rfl
  | ref k => exact (ref_ty (show tyN S (.ref k) = some "int" from dtA_ty h) (by decide) (by decide)).elim
  | tup k => exact absurd (show some "tuple" = some "int" from dtA_ty h) (by decide)
  | rol xs => cases n <;> (unfold dtA at h; cases h)
  | _ => unfold dtA at h; cases h
theorem dtA_str {S : Sto} {n : Nat} {x : VV} {b : Str} (h : dtA S n x = some (.str b)) : x = .str b := by
  cases x with
  | str c => unfold dtA at h; cases h; rfl
  | ref k => exact (ref_ty (show tyN S (.ref k) = some "str" from dtA_ty h) (by decide) (by decide)).elim
  | tup k => exact absurd (show some "tuple" = some "str" from dtA_ty h) (by decide)
  | rol xs => cases n <;> (unfold dtA at h; cases h)
  | _ => unfold dtA at h; cases h
theorem tf (b : Bool) : (b == b) = true := by cases b <;> rfl
theorem same_atom {n : Nat} {S : Sto} {x y : VV} {d : PyData} (hx : tyN S x = some (tyD d)) (hy : tyN S y = some (tyD d)) (he : x = y) (hd : dat S 8 x = some d) (hs : SeqAt.shaped d = true) (hc : d.canLay0 = true)
    (k1 : kitB (tyD d) "list" = some false) (k2 : kitB (tyD d) "tuple" = some false) {b1 b2 b3 : Bool} (k3 : kitB (tyD d) "bool" = some b1) (k4 : kitB (tyD d) "int" = some b2) (k5 : kitB (tyD d) "str" = some b3) :
    wE (Cm.m__law_same (n + 1) [x, y] S) fun v S' => v = .bl true ∧ Fr No S S' := by
  subst he
  unfold Cm.m__law_same
  rw [wE_fn (by rfl)]
  simp only [wE_ok, wE_bind, wS_seq, wS_next, wS_brk, wS_cont, wS_drop, wS_ret, wS_retN, wS_ifS, wS_asg, wS_gname, wS_gsub, wS_gnil, wS_gcons, wS_augI, wE_C, wE_nil, wE_cons, wE_tup, wE_lst, wE_op, wE_un, wE_cb, wE_isi, wE_isiT, wE_call, wE_g1, wE_g2, isB_bl, wE_tst, wE_not, wE_and, wE_or, wE_andV, wE_orV, wE_notV, wE_ifE, isI2_int, wE_int, wE_addI, wE_is, wE_mt, wE_mt0, wE_part, wE_noP, wE_sl, wE_chain, wS_for, wE_src, wE_seqI, wE_optI, wE_lc, wE_yes, wE_V0, wE_V1, wE_optR, wS_optS, wE_ix, ixW_lst, wE_get, gtW_lst, wGe1, wIx0, wIx1, wIx2, wIx3, wS_st, stW_lst, wSt0, wSt1, wSt2, wSt3, List.getElem?_cons_zero, List.getElem?_cons_succ, List.set_cons_zero, List.set_cons_succ, startM, List.map_cons, List.map_nil, List.length_cons, List.length_nil, List.replicate, List.cons_append, List.nil_append, List.set_set, wE_isiTK hx (anyB_no k1 k2), Bool.false_eq_true, if_false, wE_eqBl, wE_isiK hx k3, wE_isiK hx k4, wE_isiK hx k5, tf, Bool.not_true, if_true, wE_eqD hd hd hs hs, SeqAt.eqv_refl d hc]
  exact ⟨trivial, Fr.refl _⟩
theorem same_w : ∀ (n : Nat) (S : Sto) (x y : VV) (d : PyData), n ≤ 7 → dtA S n x = some d → dtA S n y = some d → okD d = true →
    wE (Cm.m__law_same (n + 1) [x, y] S) fun v S' => v = .bl true ∧ Fr No S S' := by
  intro n
  induction n using Nat.strongRecOn with
  | ind n ih =>
    intro S x y d hn hx hy hd
    have tx := dtA_ty hx
    have ty := dtA_ty hy
    cases d with
    | dict ds => exact absurd hx dtA_no_dict
    | none =>
      have e : ∀ z, tyN S z = some "NoneType" → z = .non := fun z hz => tyN_none hz
      exact same_atom tx ty ((e _ tx).trans (e _ ty).symm) (dtA_dat n 8 x _ (by omega) hx) rfl rfl kb_NoneType_list kb_NoneType_tuple kb_NoneType_bool kb_NoneType_int kb_NoneType_str
    | bool b => exact same_atom tx ty ((dtA_bool hx).trans (dtA_bool hy).symm) (dtA_dat n 8 x _ (by omega) hx) rfl rfl kb_bool_list kb_bool_tuple kb_bool_bool kb_bool_int kb_bool_str
    | int i => exact same_atom tx ty ((dtA_int hx).trans (dtA_int hy).symm) (dtA_dat n 8 x _ (by omega) hx) rfl rfl kb_int_list kb_int_tuple kb_int_bool kb_int_int kb_int_str
    | str z => exact same_atom tx ty ((dtA_str hx).trans (dtA_str hy).symm) (dtA_dat n 8 x _ (by omega) hx) (shaped_atom hd rfl) hd kb_str_list kb_str_tuple kb_str_bool kb_str_int kb_str_str
    | list ds =>
      obtain ⟨m, k, xs, rfl, rfl, h1, h2⟩ := dtA_list hx
      obtain ⟨m', k', ys, hm, rfl, h3, h4⟩ := dtA_list hy
      cases hm
      unfold okD at hd
      rw [Bool.and_eq_true] at hd
      have hl := of_decide_eq_true hd.1
      unfold Cm.m__law_same
      rw [wE_fn (by rfl)]
      simp only [wE_ok, wE_bind, wS_seq, wS_next, wS_brk, wS_cont, wS_drop, wS_ret, wS_retN, wS_ifS, wS_asg, wS_gname, wS_gsub, wS_gnil, wS_gcons, wS_augI, wE_C, wE_nil, wE_cons, wE_tup, wE_lst, wE_op, wE_un, wE_cb, wE_isi, wE_isiT, wE_call, wE_g1, wE_g2, isB_bl, wE_tst, wE_not, wE_and, wE_or, wE_andV, wE_orV, wE_notV, wE_ifE, isI2_int, wE_int, wE_addI, wE_is, wE_mt, wE_mt0, wE_part, wE_noP, wE_sl, wE_chain, wS_for, wE_src, wE_seqI, wE_optI, wE_lc, wE_yes, wE_V0, wE_V1, wE_optR, wS_optS, wE_ix, ixW_lst, wE_get, gtW_lst, wGe1, wIx0, wIx1, wIx2, wIx3, wS_st, stW_lst, wSt0, wSt1, wSt2, wSt3, List.getElem?_cons_zero, List.getElem?_cons_succ, List.set_cons_zero, List.set_cons_succ, startM, List.map_cons, List.map_nil, List.length_cons, List.length_nil, List.replicate, List.cons_append, List.nil_append, List.set_set, wE_isiTK ty anyB_lt, wE_isiK tx kb_list_list, wE_isiK tx kb_list_tuple, wE_isiK ty kb_list_list, wE_isiK ty kb_list_tuple, wE_eqBl, tf, Bool.not_true, if_true, if_false, Bool.false_eq_true, wE_lenL h1, wE_lenL h3, wE_eqI, (mapM_get h2).1, (mapM_get h4).1, beq_self_eq_true]
      have ez : gZip S [.ref k, .ref k'] = some ⟨zipW xs ys, fun S' => S'[k]? = some (.lst xs) ∧ S'[k']? = some (.lst ys)⟩ := by
        show zipOf S _ _ = _
        unfold zipOf
        rw [lstSrc_ref h1, lstSrc_ref h3]
        rfl
      rw [ez]
      simp only [wE_ok, wE_bind, wS_seq, wS_next, wS_brk, wS_cont, wS_drop, wS_ret, wS_retN, wS_ifS, wS_asg, wS_gname, wS_gsub, wS_gnil, wS_gcons, wS_augI, wE_C, wE_nil, wE_cons, wE_tup, wE_lst, wE_op, wE_un, wE_cb, wE_isi, wE_isiT, wE_call, wE_g1, wE_g2, isB_bl, wE_tst, wE_not, wE_and, wE_or, wE_andV, wE_orV, wE_notV, wE_ifE, isI2_int, wE_int, wE_addI, wE_is, wE_mt, wE_mt0, wE_part, wE_noP, wE_sl, wE_chain, wS_for, wE_src, wE_seqI, wE_optI, wE_lc, wE_yes, wE_V0, wE_V1, wE_optR, wS_optS, wE_ix, ixW_lst, wE_get, gtW_lst, wGe1, wIx0, wIx1, wIx2, wIx3, wS_st, stW_lst, wSt0, wSt1, wSt2, wSt3, List.getElem?_cons_zero, List.getElem?_cons_succ, List.set_cons_zero, List.set_cons_succ, startM, List.map_cons, List.map_nil, List.length_cons, List.length_nil, List.replicate, List.cons_append, List.nil_append, List.set_set, wipeM]
      refine same_items h2 h4 hd.2 rfl (fun S' f => ⟨f.at_ h1 (fun z => z), f.at_ h3 fun z => z⟩) hl (fun S x y d a b c => ih m (Nat.lt_succ_self m) S x y d (by omega) a b c) fun S' h5 h6 => ?_
      simp only [wE_ok, wE_bind, wS_seq, wS_next, wS_brk, wS_cont, wS_drop, wS_ret, wS_retN, wS_ifS, wS_asg, wS_gname, wS_gsub, wS_gnil, wS_gcons, wS_augI, wE_C, wE_nil, wE_cons, wE_tup, wE_lst, wE_op, wE_un, wE_cb, wE_isi, wE_isiT, wE_call, wE_g1, wE_g2, isB_bl, wE_tst, wE_not, wE_and, wE_or, wE_andV, wE_orV, wE_notV, wE_ifE, isI2_int, wE_int, wE_addI, wE_is, wE_mt, wE_mt0, wE_part, wE_noP, wE_sl, wE_chain, wS_for, wE_src, wE_seqI, wE_optI, wE_lc, wE_yes, wE_V0, wE_V1, wE_optR, wS_optS, wE_ix, ixW_lst, wE_get, gtW_lst, wGe1, wIx0, wIx1, wIx2, wIx3, wS_st, stW_lst, wSt0, wSt1, wSt2, wSt3, List.getElem?_cons_zero, List.getElem?_cons_succ, List.set_cons_zero, List.set_cons_succ, startM, List.map_cons, List.map_nil, List.length_cons, List.length_nil, List.replicate, List.cons_append, List.nil_append, List.set_set, wE_allB h5, all_true]
      exact ⟨trivial, h6⟩
    | tuple ds =>
      obtain ⟨m, xs, rfl, rfl, h2⟩ := dtA_tuple hx
      obtain ⟨m', ys, hm, rfl, h4⟩ := dtA_tuple hy
      cases hm
      unfold okD at hd
      rw [Bool.and_eq_true] at hd
      have hl := of_decide_eq_true hd.1
      have lx : wE (gLen (.tup xs) S) = fun Q => Q (.int (xs.length : Nat)) S := rfl
      have ly : wE (gLen (.tup ys) S) = fun Q => Q (.int (ys.length : Nat)) S := rfl
      unfold Cm.m__law_same
      rw [wE_fn (by rfl)]
      simp only [wE_ok, wE_bind, wS_seq, wS_next, wS_brk, wS_cont, wS_drop, wS_ret, wS_retN, wS_ifS, wS_asg, wS_gname, wS_gsub, wS_gnil, wS_gcons, wS_augI, wE_C, wE_nil, wE_cons, wE_tup, wE_lst, wE_op, wE_un, wE_cb, wE_isi, wE_isiT, wE_call, wE_g1, wE_g2, isB_bl, wE_tst, wE_not, wE_and, wE_or, wE_andV, wE_orV, wE_notV, wE_ifE, isI2_int, wE_int, wE_addI, wE_is, wE_mt, wE_mt0, wE_part, wE_noP, wE_sl, wE_chain, wS_for, wE_src, wE_seqI, wE_optI, wE_lc, wE_yes, wE_V0, wE_V1, wE_optR, wS_optS, wE_ix, ixW_lst, wE_get, gtW_lst, wGe1, wIx0, wIx1, wIx2, wIx3, wS_st, stW_lst, wSt0, wSt1, wSt2, wSt3, List.getElem?_cons_zero, List.getElem?_cons_succ, List.set_cons_zero, List.set_cons_succ, startM, List.map_cons, List.map_nil, List.length_cons, List.length_nil, List.replicate, List.cons_append, List.nil_append, List.set_set, wE_isiTK ty anyB_tt, wE_isiK tx kb_tuple_list, wE_isiK tx kb_tuple_tuple, wE_isiK ty kb_tuple_list, wE_isiK ty kb_tuple_tuple, wE_eqBl, tf, Bool.not_true, if_true, if_false, Bool.false_eq_true, lx, ly, wE_eqI, (mapM_get h2).1, (mapM_get h4).1, beq_self_eq_true]
      have ez : gZip S [.tup xs, .tup ys] = some ⟨zipW xs ys, fun _ => True⟩ := rfl
      rw [ez]
      simp only [wE_ok, wE_bind, wS_seq, wS_next, wS_brk, wS_cont, wS_drop, wS_ret, wS_retN, wS_ifS, wS_asg, wS_gname, wS_gsub, wS_gnil, wS_gcons, wS_augI, wE_C, wE_nil, wE_cons, wE_tup, wE_lst, wE_op, wE_un, wE_cb, wE_isi, wE_isiT, wE_call, wE_g1, wE_g2, isB_bl, wE_tst, wE_not, wE_and, wE_or, wE_andV, wE_orV, wE_notV, wE_ifE, isI2_int, wE_int, wE_addI, wE_is, wE_mt, wE_mt0, wE_part, wE_noP, wE_sl, wE_chain, wS_for, wE_src, wE_seqI, wE_optI, wE_lc, wE_yes, wE_V0, wE_V1, wE_optR, wS_optS, wE_ix, ixW_lst, wE_get, gtW_lst, wGe1, wIx0, wIx1, wIx2, wIx3, wS_st, stW_lst, wSt0, wSt1, wSt2, wSt3, List.getElem?_cons_zero, List.getElem?_cons_succ, List.set_cons_zero, List.set_cons_succ, startM, List.map_cons, List.map_nil, List.length_cons, List.length_nil, List.replicate, List.cons_append, List.nil_append, List.set_set, wipeM]
      refine same_items h2 h4 hd.2 rfl (fun _ _ => trivial) hl (fun S x y d a b c => ih m (Nat.lt_succ_self m) S x y d (by omega) a b c) fun S' h5 h6 => ?_
      simp only [wE_ok, wE_bind, wS_seq, wS_next, wS_brk, wS_cont, wS_drop, wS_ret, wS_retN, wS_ifS, wS_asg, wS_gname, wS_gsub, wS_gnil, wS_gcons, wS_augI, wE_C, wE_nil, wE_cons, wE_tup, wE_lst, wE_op, wE_un, wE_cb, wE_isi, wE_isiT, wE_call, wE_g1, wE_g2, isB_bl, wE_tst, wE_not, wE_and, wE_or, wE_andV, wE_orV, wE_notV, wE_ifE, isI2_int, wE_int, wE_addI, wE_is, wE_mt, wE_mt0, wE_part, wE_noP, wE_sl, wE_chain, wS_for, wE_src, wE_seqI, wE_optI, wE_lc, wE_yes, wE_V0, wE_V1, wE_optR, wS_optS, wE_ix, ixW_lst, wE_get, gtW_lst, wGe1, wIx0, wIx1, wIx2, wIx3, wS_st, stW_lst, wSt0, wSt1, wSt2, wSt3, List.getElem?_cons_zero, List.getElem?_cons_succ, List.set_cons_zero, List.set_cons_succ, startM, List.map_cons, List.map_nil, List.length_cons, List.length_nil, List.replicate, List.cons_append, List.nil_append, List.set_set, wE_allB h5, all_true]
      exact ⟨trivial, h6⟩
end Sx
end
section
/-! Gr: least prices in a web. -/
namespace Gr
abbrev Ed := Nat × Nat × Int
abbrev Di := Nat → Option Int
def lim (o : Option Int) (x : Int) : Prop := match o with
  | some y => y ≤ x
  | none => False
theorem lim_mono {o : Option Int} {x y : Int} (h : lim o x) (k : x ≤ y) : lim o y := by
  cases o with
  | none => exact h
  | some z => exact Int.le_trans h k
theorem lim_ex {o : Option Int} {x : Int} (h : lim o x) : ∃ y, o = some y ∧ y ≤ x := by
  cases o with
  | none => exact h.elim
  | some z => exact ⟨z, rfl, h⟩
inductive Wk (E : List Ed) (g : Nat) : Nat → Nat → Int → Prop
  | nil : Wk E g 0 g 0
  | cons {a b : Nat} {c x : Int} {k : Nat} : (a, b, c) ∈ E → Wk E g k b x → Wk E g (k + 1) a (c + x)
def Sound (E : List Ed) (g : Nat) (d : Di) : Prop := ∀ h x, d h = some x → ∃ k, Wk E g k h x
def UpTo (E : List Ed) (g k : Nat) (d : Di) : Prop := ∀ j h x, j ≤ k → Wk E g j h x → lim (d h) x
def Le (d d0 : Di) : Prop := ∀ h x, d0 h = some x → lim (d h) x
theorem Le.refl (d : Di) : Le d d := fun h x e => by rw [e]; exact Int.le_refl x
theorem Le.trans {a b c : Di} (h : Le a b) (k : Le b c) : Le a c := fun v x e => by
  obtain ⟨y, h1, h2⟩ := lim_ex (k v x e)
  exact lim_mono (h v y h1) h2
theorem Le.lim {a b : Di} (h : Le a b) {v : Nat} {x : Int} (k : lim (b v) x) : Gr.lim (a v) x := by
  obtain ⟨y, h1, h2⟩ := lim_ex k
  exact lim_mono (h v y h1) h2
def put (d : Di) (a : Nat) (x : Int) : Di := fun h => if h = a then some x else d h
/-- does the edge better a's price -/
def bet (d : Di) (e : Ed) : Option Int := match d e.2.1 with
  | some y => match d e.1 with
    | some z => if y + e.2.2 < z then some (y + e.2.2) else none
    | none => some (y + e.2.2)
  | none => none
def rx (d : Di) (e : Ed) : Di := match bet d e with
  | some x => put d e.1 x
  | none => d
theorem bet_some {d : Di} {e : Ed} {x : Int} (h : bet d e = some x) : ∃ y, d e.2.1 = some y ∧ x = y + e.2.2 ∧ ∀ z, d e.1 = some z → x < z := by
  unfold bet at h
  split at h
  · rename_i y h1
    split at h
    · rename_i z h2
      split at h
      · rename_i h3
        cases h
        exact ⟨y, h1, rfl, fun z' e => by rw [h2] at e; cases e; exact h3⟩
      · cases h
    · rename_i h2
      cases h
      exact ⟨y, h1, rfl, fun z' e => by rw [h2] at e; cases e⟩
  · cases h
theorem bet_none {d : Di} {e : Ed} (h : bet d e = none) {y : Int} (hy : d e.2.1 = some y) : lim (d e.1) (y + e.2.2) := by
  unfold bet at h
  rw [hy] at h
  dsimp only at h
  split at h
  · rename_i z h2
    split at h
    · cases h
    · rename_i h3
      rw [h2]
      show z ≤ _
      omega
  · cases h
theorem rx_le (d : Di) (e : Ed) : Le (rx d e) d := fun h x hx => by
  unfold rx
  cases q : bet d e with
  | none => dsimp only; rw [hx]; exact Int.le_refl x
  | some y =>
    obtain ⟨z, h1, h2, h3⟩ := bet_some q
    dsimp only [put]
    by_cases hh : h = e.1
    · rw [if_pos hh]
      show y ≤ x
      have := h3 x (hh ▸ hx)
      omega
    · rw [if_neg hh, hx]
      exact Int.le_refl x
theorem rx_sound {E : List Ed} {g : Nat} {d : Di} {e : Ed} (s : Sound E g d) (he : e ∈ E) : Sound E g (rx d e) := fun h x hx => by
  unfold rx at hx
  cases q : bet d e with
  | none => rw [q] at hx; exact s h x hx
  | some y =>
    rw [q] at hx
    dsimp only [put] at hx
    by_cases hh : h = e.1
    · rw [if_pos hh] at hx
      cases hx
      obtain ⟨z, h1, h2, h3⟩ := bet_some q
      obtain ⟨k, w⟩ := s _ _ h1
      subst hh h2
      refine ⟨k + 1, ?_⟩
      rw [Int.add_comm]
      exact .cons (show (e.1, e.2.1, e.2.2) ∈ E from he) w
    · rw [if_neg hh] at hx
      exact s h x hx
theorem rx_done (d : Di) (e : Ed) {y : Int} (hy : d e.2.1 = some y) : lim (rx d e e.1) (y + e.2.2) := by
  unfold rx
  cases q : bet d e with
  | none => exact bet_none q hy
  | some x =>
    obtain ⟨z, h1, h2, h3⟩ := bet_some q
    rw [hy] at h1
    cases h1
    dsimp only [put]
    rw [if_pos rfl, h2]
    exact Int.le_refl _
theorem fold_le : ∀ (es : List Ed) (d : Di), Le (es.foldl rx d) d
  | [], d => Le.refl d
  | e :: es, d => (fold_le es (rx d e)).trans (rx_le d e)
theorem fold_sound {E : List Ed} {g : Nat} : ∀ (es : List Ed) (d : Di), (∀ e ∈ es, e ∈ E) → Sound E g d → Sound E g (es.foldl rx d)
  | [], d, _, s => s
  | e :: es, d, h, s => fold_sound es _ (fun x hx => h x (List.mem_cons_of_mem _ hx)) (rx_sound s (h e List.mem_cons_self))
theorem fold_done : ∀ (es : List Ed) (d0 d : Di), Le d d0 → ∀ e ∈ es, ∀ y, d0 e.2.1 = some y → lim (es.foldl rx d e.1) (y + e.2.2)
  | e :: es, d0, d, hl, e', he, y, hy => by
    rcases List.mem_cons.mp he with rfl | he
    · obtain ⟨z, h1, h2⟩ := lim_ex (hl _ _ hy)
      have := rx_done d e' h1
      exact lim_mono ((fold_le es (rx d e')).lim this) (by omega)
    · exact fold_done es d0 (rx d e) ((rx_le d e).trans hl) e' he y hy
/-- one turn -/
theorem turn_up {E : List Ed} {g k : Nat} {d : Di} {es : List Ed} (h : UpTo E g k d) (hes : ∀ e ∈ E, e ∈ es) : UpTo E g (k + 1) (es.foldl rx d) := fun j v x hj w => by
  cases w with
  | nil => exact (fold_le es d).lim (h 0 g 0 (Nat.zero_le _) .nil)
  | @cons a b c y i he w =>
    obtain ⟨z, h1, h2⟩ := lim_ex (h i b y (by omega) w)
    exact lim_mono (fold_done es d d (Le.refl d) _ (hes _ he) z h1) (by dsimp only; omega)
/-- where nothing betters -/
theorem fix_lim {E : List Ed} {g : Nat} {d : Di} (hg : lim (d g) 0) (hf : ∀ e ∈ E, bet d e = none) {j v : Nat} {x : Int} (w : Wk E g j v x) : lim (d v) x := by
  induction w with
  | nil => exact hg
  | @cons a b c y i he w ih =>
    obtain ⟨z, h1, h2⟩ := lim_ex ih
    exact lim_mono (bet_none (hf _ he) h1) (by dsimp only; omega)
theorem fix_up {E : List Ed} {g : Nat} {d : Di} (hg : lim (d g) 0) (hf : ∀ e ∈ E, bet d e = none) (k : Nat) : UpTo E g k d := fun _ _ _ _ w => fix_lim hg hf w
/-! walks made short -/
/-- a walk whose places, but for the goal, lie in U -/
inductive WIn (E : List Ed) (g : Nat) (U : List Nat) : Nat → Nat → Int → Prop
  | nil : WIn E g U 0 g 0
  | cons {a b : Nat} {c x : Int} {k : Nat} : a ∈ U → (a, b, c) ∈ E → WIn E g U k b x → WIn E g U (k + 1) a (c + x)
theorem WIn.wk {E : List Ed} {g : Nat} {U : List Nat} {k a : Nat} {x : Int} (w : WIn E g U k a x) : Wk E g k a x := by
  induction w with
  | nil => exact .nil
  | cons _ h _ ih => exact .cons h ih
theorem WIn.nonneg {E : List Ed} {g : Nat} {U : List Nat} (hc : ∀ e ∈ E, 0 ≤ e.2.2) {k a : Nat} {x : Int} (w : WIn E g U k a x) : 0 ≤ x := by
  induction w with
  | nil => exact Int.le_refl 0
  | cons _ h _ ih => have := hc _ h; dsimp only at this; omega
/-- the last look at h -/
theorem last_look {E : List Ed} {g : Nat} {U : List Nat} (hc : ∀ e ∈ E, 0 ≤ e.2.2) (h : Nat) {k a : Nat} {x : Int} (w : WIn E g U k a x) :
    (∃ k' x', WIn E g (U.filter (· ≠ h)) k' a x' ∧ x' ≤ x) ∨ (∃ b c k' x', h ∈ U ∧ (h, b, c) ∈ E ∧ WIn E g (U.filter (· ≠ h)) k' b x' ∧ c + x' ≤ x) := by
  induction w with
  | nil => exact .inl ⟨0, 0, .nil, Int.le_refl 0⟩
  | @cons a b c x k ha he w ih =>
    rcases ih with ⟨k', x', w', hx⟩ | ⟨b', c', k', x', h1, h2, h3, h4⟩
    · by_cases e : a = h
      · subst e
        exact .inr ⟨b, c, k', x', ha, he, w', by omega⟩
      · exact .inl ⟨k' + 1, c + x', .cons (List.mem_filter.mpr ⟨ha, by simpa using e⟩) he w', by omega⟩
    · exact .inr ⟨b', c', k', x', h1, h2, h3, by have := hc _ he; dsimp only at this; omega⟩
theorem filter_lt {U : List Nat} {h : Nat} (hm : h ∈ U) : (U.filter (· ≠ h)).length < U.length := by
  have := List.length_filter_lt_length_iff_exists (p := fun x => decide (x ≠ h)) (l := U)
  exact this.mpr ⟨h, hm, by simp⟩
theorem short_in {E : List Ed} {g : Nat} (hc : ∀ e ∈ E, 0 ≤ e.2.2) : ∀ (n : Nat) (U : List Nat), U.length ≤ n → ∀ (k a : Nat) (x : Int), WIn E g U k a x → ∃ j x', j ≤ n ∧ x' ≤ x ∧ Wk E g j a x'
  | n, U, hU, k, a, x, w => by
    cases w with
    | nil => exact ⟨0, 0, Nat.zero_le _, Int.le_refl _, .nil⟩
    | @cons a b c y k ha he w =>
      cases n with
      | zero =>
        cases U with
        | nil => cases ha
        | cons _ _ => simp at hU
      | succ n =>
        have hl := filter_lt ha
        rcases last_look hc a (WIn.cons ha he w) with ⟨k', x', w', hx⟩ | ⟨b', c', k', x', h1, h2, h3, h4⟩
        · obtain ⟨j, z, h1, h2, h3⟩ := short_in hc n (U.filter (· ≠ a)) (by omega) k' a x' w'
          exact ⟨j, z, by omega, by omega, h3⟩
        · obtain ⟨j, z, q1, q2, q3⟩ := short_in hc n (U.filter (· ≠ a)) (by omega) k' b' x' h3
          exact ⟨j + 1, c' + z, by omega, by omega, .cons h2 q3⟩
theorem Wk.inU {E : List Ed} {g : Nat} {U : List Nat} (hU : ∀ e ∈ E, e.1 ∈ U) {k a : Nat} {x : Int} (w : Wk E g k a x) : WIn E g U k a x := by
  induction w with
  | nil => exact .nil
  | cons h _ ih => exact .cons (hU _ h) h ih
/-- a walk of at most n steps is as cheap -/
theorem short {E : List Ed} {g n : Nat} (hc : ∀ e ∈ E, 0 ≤ e.2.2) (hn : ∀ e ∈ E, e.1 < n) {k a : Nat} {x : Int} (w : Wk E g k a x) : ∃ j x', j ≤ n ∧ x' ≤ x ∧ Wk E g j a x' :=
  short_in hc n (List.range n) (by rw [List.length_range]; exact Nat.le_refl _) k a x (Wk.inU (U := List.range n) (fun e he => List.mem_range.mpr (hn e he)) w)
/-- the least prices are one thing -/
theorem best_le {E : List Ed} {g n : Nat} {d d' : Di} (hc : ∀ e ∈ E, 0 ≤ e.2.2) (hn : ∀ e ∈ E, e.1 < n) (s : Sound E g d) (u : UpTo E g n d') : Le d' d := fun h x hx => by
  obtain ⟨k, w⟩ := s h x hx
  obtain ⟨j, y, h1, h2, h3⟩ := short hc hn w
  exact lim_mono (u j h y h1 h3) h2
theorem le_anti {d d' : Di} (a : Le d d') (b : Le d' d) : d = d' := by
  funext h
  cases e : d h with
  | none =>
    cases e' : d' h with
    | none => rfl
    | some y =>
      have := a h y e'
      rw [e] at this
      exact this.elim
  | some x =>
    obtain ⟨y, h1, h2⟩ := lim_ex (b h x e)
    obtain ⟨z, h3, h4⟩ := lim_ex (a h y h1)
    rw [e] at h3
    cases h3
    rw [h1]
    congr 1
    omega
theorem best_eq {E : List Ed} {g n : Nat} {d d' : Di} (hc : ∀ e ∈ E, 0 ≤ e.2.2) (hn : ∀ e ∈ E, e.1 < n) (s : Sound E g d) (s' : Sound E g d') (u : UpTo E g n d) (u' : UpTo E g n d') : d = d' :=
  le_anti (best_le hc hn s' u) (best_le hc hn s u')
/-- the least prices better nowhere -/
theorem best_fix {E : List Ed} {g n : Nat} {d : Di} (hc : ∀ e ∈ E, 0 ≤ e.2.2) (hn : ∀ e ∈ E, e.1 < n) (s : Sound E g d) (u : UpTo E g n d) : ∀ e ∈ E, bet d e = none := fun e he => by
  cases q : bet d e with
  | none => rfl
  | some x =>
    obtain ⟨y, h1, h2, h3⟩ := bet_some q
    obtain ⟨k, w⟩ := s _ _ h1
    have w2 : Wk E g (k + 1) e.1 (e.2.2 + y) := .cons (show (e.1, e.2.1, e.2.2) ∈ E from he) w
    obtain ⟨j, z, q1, q2, q3⟩ := short hc hn w2
    obtain ⟨t, q4, q5⟩ := lim_ex (u j _ z q1 q3)
    have := h3 t q4
    omega
/-- the start -/
def d0 (g : Nat) : Di := fun h => if h = g then some 0 else none
theorem d0_sound {E : List Ed} {g : Nat} : Sound E g (d0 g) := fun h x e => by
  unfold d0 at e
  by_cases q : h = g
  · rw [if_pos q] at e
    cases e
    subst q
    exact ⟨0, .nil⟩
  · rw [if_neg q] at e
    cases e
theorem d0_up {E : List Ed} {g : Nat} : UpTo E g 0 (d0 g) := fun j h x hj w => by
  cases w with
  | nil => unfold d0; rw [if_pos rfl]; exact Int.le_refl 0
  | cons _ _ => omega
theorem rx_none {d : Di} {e : Ed} (h : bet d e = none) : rx d e = d := by unfold rx; rw [h]
theorem fold_none : ∀ {es : List Ed} {d : Di}, (∀ e ∈ es, bet d e = none) → es.foldl rx d = d
  | [], _, _ => rfl
  | e :: es, d, h => by
    rw [List.foldl_cons, rx_none (h e List.mem_cons_self)]
    exact fold_none fun x hx => h x (List.mem_cons_of_mem _ hx)
end Gr
end
/-! FarP: the two ways to the least prices. -/
noncomputable section
namespace Sx
open PySem L2 Gr
def ov : Option Int → VV
  | none => .non
  | some x => .int x
def dl (n : Nat) (d : Di) : List VV := (List.range n).map fun h => ov (d h)
def edV (e : Ed) : VV := .tup [.int (e.1 : Nat), .int (e.2.1 : Nat), .int e.2.2]
def edO (t : Tie) : Ed := (t.1, t.2.1, (t.2.2 : Int))
def edR (t : Tie) : Ed := (t.2.1, t.1, (t.2.2 : Int))
def edA (ts : List Tie) : List Ed := ts.map edO ++ ts.map edR
theorem dl_len {n : Nat} {d : Di} : (dl n d).length = n := by unfold dl; simp
theorem dl_get {n a : Nat} {d : Di} (h : a < n) : (dl n d)[a]? = some (ov (d a)) := by
  unfold dl
  rw [List.getElem?_map, List.getElem?_range h]
  rfl
theorem wIx_dl {n a : Nat} {d : Di} {Q : VV → Prop} (h : a < n) : wIx (dl n d) (.int (a : Nat)) Q = Q (ov (d a)) := wIx_nat (by omega) (by rw [Int.toNat_natCast]; exact dl_get h)
theorem dl_put {n a : Nat} {d : Di} {x : Int} : (dl n d).set a (.int x) = dl n (put d a x) := by
  refine List.ext_getElem? fun i => ?_
  by_cases hi : i < n
  · by_cases e : a = i
    · subst e
      rw [List.getElem?_set_self (by rw [dl_len]; exact hi), dl_get hi]
      unfold put
      rw [if_pos rfl]
      rfl
    · rw [List.getElem?_set_ne e, dl_get hi, dl_get hi]
      unfold put
      rw [if_neg fun z => e z.symm]
  · rw [List.getElem?_eq_none (by rw [List.length_set, dl_len]; omega), List.getElem?_eq_none (by rw [dl_len]; omega)]
theorem wSt_dl {n a : Nat} {d : Di} {x : Int} {Q : List VV → Prop} (h : a < n) : wSt (dl n d) (.int (a : Nat)) (.int x) Q = Q (dl n (put d a x)) := by
  rw [wSt_nat (by omega) (by rw [dl_len]; omega), Int.toNat_natCast, dl_put]
theorem dl_none {n : Nat} : (List.replicate n [VV.non]).flatten = dl n fun _ => none := by
  induction n with
  | zero => rfl
  | succ n ih =>
    rw [show List.replicate (n + 1) [VV.non] = List.replicate n [VV.non] ++ [[VV.non]] from List.replicate_succ', List.flatten_append, ih]
    unfold dl
    rw [List.range_succ, List.map_append]
    rfl
theorem d0_put {g : Nat} : put (fun _ => none) g 0 = d0 g := rfl
theorem edA_lt {n : Nat} {ts : List Tie} (h : ∀ t ∈ ts, t.1 < n ∧ t.2.1 < n) : ∀ e ∈ edA ts, e.1 < n ∧ e.2.1 < n := fun e he => by
  rcases List.mem_append.mp he with he | he
  · obtain ⟨t, ht, rfl⟩ := List.mem_map.mp he
    exact h t ht
  · obtain ⟨t, ht, rfl⟩ := List.mem_map.mp he
    exact ⟨(h t ht).2, (h t ht).1⟩
theorem edA_pos {ts : List Tie} : ∀ e ∈ edA ts, 0 ≤ e.2.2 := fun e he => by
  rcases List.mem_append.mp he with he | he
  · obtain ⟨t, ht, rfl⟩ := List.mem_map.mp he
    exact Int.natCast_nonneg _
  · obtain ⟨t, ht, rfl⟩ := List.mem_map.mp he
    exact Int.natCast_nonneg _
/-- the store after one look at an edge -/
def rxS (S : Sto) (sp n : Nat) (d : Di) (e : Ed) : Sto := match bet d e with
  | some x => S.set sp (.lst (dl n (put d e.1 x)))
  | none => S
theorem rxS_at {S : Sto} {sp n : Nat} {d : Di} {e : Ed} (h : S[sp]? = some (.lst (dl n d))) : (rxS S sp n d e)[sp]? = some (.lst (dl n (rx d e))) := by
  unfold rxS rx
  cases bet d e with
  | none => exact h
  | some x => exact set_at h
theorem rxS_ne {S : Sto} {sp n q : Nat} {d : Di} {e : Ed} (h : sp ≠ q) : (rxS S sp n d e)[q]? = S[q]? := by
  unfold rxS
  cases bet d e with
  | none => rfl
  | some x => exact List.getElem?_set_ne h
theorem rxS_fr {M : Nat → Prop} {S : Sto} {sp n : Nat} {d : Di} {e : Ed} (h : M sp) : Fr M S (rxS S sp n d e) := by
  unfold rxS
  cases bet d e with
  | none => exact Fr.refl _
  | some x => exact Fr.set h
theorem law_far_w {S : Sto} {T n g : Nat} {ts : List Tie} (hT : S[T]? = some (.lst (ts.map tieV))) (hts : ∀ t ∈ ts, t.1 < n ∧ t.2.1 < n) (hg : g < n) (hn : n ≤ 20) (hl : ts.length ≤ 100) :
    wE (Cm.m__law_far [.int (n : Nat), .ref T, .int (g : Nat)] S) fun v S' => ∃ (r : Nat) (d : Di), v = .ref r ∧ S'[r]? = some (.lst (dl n d)) ∧ Sound (edA ts) g d ∧ UpTo (edA ts) g n d ∧ S.length ≤ r ∧ Fr No S S' := by
  unfold Cm.m__law_far
  rw [wE_fn (by rfl)]
  have hTl := lt_of_at hT
  have hl1 : (S ++ [OO.lst [VV.non]]).length = S.length + 1 := by simp
  simp only [wE_ok, wE_bind, wS_seq, wS_next, wS_brk, wS_cont, wS_drop, wS_ret, wS_retN, wS_ifS, wS_asg, wS_gname, wS_gsub, wS_gnil, wS_gcons, wS_augI, wE_C, wE_nil, wE_cons, wE_tup, wE_lst, wE_op, wE_un, wE_cb, wE_isi, wE_isiT, wE_call, wE_g1, wE_g2, isB_bl, wE_tst, wE_not, wE_and, wE_or, wE_andV, wE_orV, wE_notV, wE_ifE, isI2_int, wE_int, wE_addI, wE_is, wE_mt, wE_mt0, wE_part, wE_noP, wE_sl, wE_chain, wS_for, wE_src, wE_seqI, wE_optI, wE_lc, wE_yes, wE_V0, wE_V1, wE_optR, wS_optS, wE_ix, ixW_lst, wE_get, gtW_lst, wGe1, wIx0, wIx1, wIx2, wIx3, wS_st, stW_lst, wSt0, wSt1, wSt2, wSt3, List.getElem?_cons_zero, List.getElem?_cons_succ, List.set_cons_zero, List.set_cons_succ, startM, List.map_cons, List.map_nil, List.length_cons, List.length_nil, List.replicate, List.cons_append, List.nil_append, List.set_set, Nat.zero_le, if_true, Nat.reduceLeDiff, Nat.reduceAdd]
  rw [wE_mulL get_last (by omega) (by omega) (by decide), Int.toNat_natCast, dl_none, hl1]
  simp only [wE_ok, wE_bind, wS_seq, wS_next, wS_brk, wS_cont, wS_drop, wS_ret, wS_retN, wS_ifS, wS_asg, wS_gname, wS_gsub, wS_gnil, wS_gcons, wS_augI, wE_C, wE_nil, wE_cons, wE_tup, wE_lst, wE_op, wE_un, wE_cb, wE_isi, wE_isiT, wE_call, wE_g1, wE_g2, isB_bl, wE_tst, wE_not, wE_and, wE_or, wE_andV, wE_orV, wE_notV, wE_ifE, isI2_int, wE_int, wE_addI, wE_is, wE_mt, wE_mt0, wE_part, wE_noP, wE_sl, wE_chain, wS_for, wE_src, wE_seqI, wE_optI, wE_lc, wE_yes, wE_V0, wE_V1, wE_optR, wS_optS, wE_ix, ixW_lst, wE_get, gtW_lst, wGe1, wIx0, wIx1, wIx2, wIx3, wS_st, stW_lst, wSt0, wSt1, wSt2, wSt3, List.getElem?_cons_zero, List.getElem?_cons_succ, List.set_cons_zero, List.set_cons_succ, startM, List.map_cons, List.map_nil, List.length_cons, List.length_nil, List.replicate, List.cons_append, List.nil_append, List.set_set]
  have h1 : (S ++ [OO.lst [VV.non]] ++ [OO.lst (dl n fun _ => none)])[S.length + 1]? = some (.lst (dl n fun _ => none)) := by rw [← hl1]; exact get_last
  rw [h1]
  simp only [wE_ok, wE_bind, wS_seq, wS_next, wS_brk, wS_cont, wS_drop, wS_ret, wS_retN, wS_ifS, wS_asg, wS_gname, wS_gsub, wS_gnil, wS_gcons, wS_augI, wE_C, wE_nil, wE_cons, wE_tup, wE_lst, wE_op, wE_un, wE_cb, wE_isi, wE_isiT, wE_call, wE_g1, wE_g2, isB_bl, wE_tst, wE_not, wE_and, wE_or, wE_andV, wE_orV, wE_notV, wE_ifE, isI2_int, wE_int, wE_addI, wE_is, wE_mt, wE_mt0, wE_part, wE_noP, wE_sl, wE_chain, wS_for, wE_src, wE_seqI, wE_optI, wE_lc, wE_yes, wE_V0, wE_V1, wE_optR, wS_optS, wE_ix, ixW_lst, wE_get, gtW_lst, wGe1, wIx0, wIx1, wIx2, wIx3, wS_st, stW_lst, wSt0, wSt1, wSt2, wSt3, List.getElem?_cons_zero, List.getElem?_cons_succ, List.set_cons_zero, List.set_cons_succ, startM, List.map_cons, List.map_nil, List.length_cons, List.length_nil, List.replicate, List.cons_append, List.nil_append, List.set_set, wSt_dl hg, d0_put]
  have e1 : (S ++ [OO.lst [VV.non]] ++ [OO.lst (dl n fun _ => none)]).set (S.length + 1) (.lst (dl n (d0 g))) = S ++ [OO.lst [VV.non], .lst (dl n (d0 g))] := by
    rw [← hl1, set_last, List.append_assoc]
    rfl
  rw [e1]
  generalize hS2 : S ++ [OO.lst [VV.non], OO.lst (dl n (d0 g))] = S2
  have l2 : S2.length = S.length + 2 := by rw [← hS2]; simp
  have fr2 : Fr No S S2 := by rw [← hS2]; exact Fr.app
  have hT2 : S2[T]? = some (.lst (ts.map tieV)) := fr2.at_ hT (fun z => z)
  have hsp : S2[S.length + 1]? = some (.lst (dl n (d0 g))) := by
    rw [← hS2, List.getElem?_append_right (by omega), show S.length + 1 - S.length = 1 by omega]
    rfl
  rw [srcOf_ref hT2]
  simp only [wE_ok, wE_bind, wS_seq, wS_next, wS_brk, wS_cont, wS_drop, wS_ret, wS_retN, wS_ifS, wS_asg, wS_gname, wS_gsub, wS_gnil, wS_gcons, wS_augI, wE_C, wE_nil, wE_cons, wE_tup, wE_lst, wE_op, wE_un, wE_cb, wE_isi, wE_isiT, wE_call, wE_g1, wE_g2, isB_bl, wE_tst, wE_not, wE_and, wE_or, wE_andV, wE_orV, wE_notV, wE_ifE, isI2_int, wE_int, wE_addI, wE_is, wE_mt, wE_mt0, wE_part, wE_noP, wE_sl, wE_chain, wS_for, wE_src, wE_seqI, wE_optI, wE_lc, wE_yes, wE_V0, wE_V1, wE_optR, wS_optS, wE_ix, ixW_lst, wE_get, gtW_lst, wGe1, wIx0, wIx1, wIx2, wIx3, wS_st, stW_lst, wSt0, wSt1, wSt2, wSt3, List.getElem?_cons_zero, List.getElem?_cons_succ, List.set_cons_zero, List.set_cons_succ, startM, List.map_cons, List.map_nil, List.length_cons, List.length_nil, List.replicate, List.cons_append, List.nil_append, List.set_set, wipeM]
  refine lc_flat (f := fun x => match x with
    | .tup [a, b, c] => .tup [b, a, c]
    | _ => .non) (by simp; omega) (fun acc => by rw [List.getElem?_append_left (lt_of_at hT2)]; exact hT2) (fun x acc hx => ?_) ?_
  · obtain ⟨t, ht, rfl⟩ := List.mem_map.mp hx
    unfold tieV wG
    rw [wS_gtup (by rfl)]
    simp only [wE_ok, wE_bind, wS_seq, wS_next, wS_brk, wS_cont, wS_drop, wS_ret, wS_retN, wS_ifS, wS_asg, wS_gname, wS_gsub, wS_gnil, wS_gcons, wS_augI, wE_C, wE_nil, wE_cons, wE_tup, wE_lst, wE_op, wE_un, wE_cb, wE_isi, wE_isiT, wE_call, wE_g1, wE_g2, isB_bl, wE_tst, wE_not, wE_and, wE_or, wE_andV, wE_orV, wE_notV, wE_ifE, isI2_int, wE_int, wE_addI, wE_is, wE_mt, wE_mt0, wE_part, wE_noP, wE_sl, wE_chain, wS_for, wE_src, wE_seqI, wE_optI, wE_lc, wE_yes, wE_V0, wE_V1, wE_optR, wS_optS, wE_ix, ixW_lst, wE_get, gtW_lst, wGe1, wIx0, wIx1, wIx2, wIx3, wS_st, stW_lst, wSt0, wSt1, wSt2, wSt3, List.getElem?_cons_zero, List.getElem?_cons_succ, List.set_cons_zero, List.set_cons_succ, startM, List.map_cons, List.map_nil, List.length_cons, List.length_nil, List.replicate, List.cons_append, List.nil_append, List.set_set, if_true, Nat.reduceLeDiff, Nat.reduceAdd]
    exact ⟨by first | trivial | rfl, by first | trivial | rfl, by first | trivial | rfl, by first | trivial | rfl, by first | trivial | rfl⟩
  · have er : (ts.map tieV).map (fun x => match x with
      | .tup [a, b, c] => VV.tup [b, a, c]
      | _ => .non) = (ts.map edR).map edV := by
      rw [List.map_map, List.map_map]
      rfl
    rw [er, wE_addL (xs := ts.map tieV) (by rw [List.getElem?_append_left (lt_of_at hT2)]; exact hT2) get_last (by simp; omega)]
    have eb : ts.map tieV ++ (ts.map edR).map edV = (edA ts).map edV := by
      unfold edA
      rw [List.map_append, List.map_map (f := edO)]
      rfl
    rw [eb]
    generalize hS3 : S2 ++ [OO.lst ((ts.map edR).map edV)] = S3
    have l3 : S3.length = S.length + 3 := by rw [← hS3]; simp; omega
    have fr3 : Fr No S S3 := fr2.trans (by rw [← hS3]; exact Fr.app)
    have hsp3 : S3[S.length + 1]? = some (.lst (dl n (d0 g))) := by rw [← hS3, List.getElem?_append_left (by omega)]; exact hsp
    have hpos := edA_pos (ts := ts)
    have hed := edA_lt hts
    simp only [wE_ok, wE_bind, wS_seq, wS_next, wS_brk, wS_cont, wS_drop, wS_ret, wS_retN, wS_ifS, wS_asg, wS_gname, wS_gsub, wS_gnil, wS_gcons, wS_augI, wE_C, wE_nil, wE_cons, wE_tup, wE_lst, wE_op, wE_un, wE_cb, wE_isi, wE_isiT, wE_call, wE_g1, wE_g2, isB_bl, wE_tst, wE_not, wE_and, wE_or, wE_andV, wE_orV, wE_notV, wE_ifE, isI2_int, wE_int, wE_addI, wE_is, wE_mt, wE_mt0, wE_part, wE_noP, wE_sl, wE_chain, wS_for, wE_src, wE_seqI, wE_optI, wE_lc, wE_yes, wE_V0, wE_V1, wE_optR, wS_optS, wE_ix, ixW_lst, wE_get, gtW_lst, wGe1, wIx0, wIx1, wIx2, wIx3, wS_st, stW_lst, wSt0, wSt1, wSt2, wSt3, List.getElem?_cons_zero, List.getElem?_cons_succ, List.set_cons_zero, List.set_cons_succ, startM, List.map_cons, List.map_nil, List.length_cons, List.length_nil, List.replicate, List.cons_append, List.nil_append, List.set_set, rng1_nat (show n ≤ 1000000 by omega)]
    refine forL_inv (fun i σ S' => ∃ (d : Di) (o5 o6 o7 o8 : Option VV), σ = [some (.int (n : Nat)), some (.ref T), some (.int (g : Nat)), some (.ref (S.length + 1)), some (.ref S3.length), o5, o6, o7, o8] ∧ S'[S.length + 1]? = some (.lst (dl n d)) ∧ S'[S3.length]? = some (.lst ((edA ts).map edV)) ∧ Sound (edA ts) g d ∧ UpTo (edA ts) g i d ∧ Fr No S S') ?_ ?_ ?_ ?_
    · exact ⟨d0 g, none, none, none, none, rfl, by rw [List.getElem?_append_left (by omega)]; exact hsp3, get_last, d0_sound, d0_up, fr3.trans Fr.app⟩
    · intro i σ S' _
      trivial
    · rintro i x σ S' hx ⟨d, o5, o6, o7, o8, rfl, h1, h2, h3, h4, h5⟩
      simp only [wE_ok, wE_bind, wS_seq, wS_next, wS_brk, wS_cont, wS_drop, wS_ret, wS_retN, wS_ifS, wS_asg, wS_gname, wS_gsub, wS_gnil, wS_gcons, wS_augI, wE_C, wE_nil, wE_cons, wE_tup, wE_lst, wE_op, wE_un, wE_cb, wE_isi, wE_isiT, wE_call, wE_g1, wE_g2, isB_bl, wE_tst, wE_not, wE_and, wE_or, wE_andV, wE_orV, wE_notV, wE_ifE, isI2_int, wE_int, wE_addI, wE_is, wE_mt, wE_mt0, wE_part, wE_noP, wE_sl, wE_chain, wS_for, wE_src, wE_seqI, wE_optI, wE_lc, wE_yes, wE_V0, wE_V1, wE_optR, wS_optS, wE_ix, ixW_lst, wE_get, gtW_lst, wGe1, wIx0, wIx1, wIx2, wIx3, wS_st, stW_lst, wSt0, wSt1, wSt2, wSt3, List.getElem?_cons_zero, List.getElem?_cons_succ, List.set_cons_zero, List.set_cons_succ, startM, List.map_cons, List.map_nil, List.length_cons, List.length_nil, List.replicate, List.cons_append, List.nil_append, List.set_set]
      rw [srcOf_ref h2]
      simp only [wE_ok, wE_bind, wS_seq, wS_next, wS_brk, wS_cont, wS_drop, wS_ret, wS_retN, wS_ifS, wS_asg, wS_gname, wS_gsub, wS_gnil, wS_gcons, wS_augI, wE_C, wE_nil, wE_cons, wE_tup, wE_lst, wE_op, wE_un, wE_cb, wE_isi, wE_isiT, wE_call, wE_g1, wE_g2, isB_bl, wE_tst, wE_not, wE_and, wE_or, wE_andV, wE_orV, wE_notV, wE_ifE, isI2_int, wE_int, wE_addI, wE_is, wE_mt, wE_mt0, wE_part, wE_noP, wE_sl, wE_chain, wS_for, wE_src, wE_seqI, wE_optI, wE_lc, wE_yes, wE_V0, wE_V1, wE_optR, wS_optS, wE_ix, ixW_lst, wE_get, gtW_lst, wGe1, wIx0, wIx1, wIx2, wIx3, wS_st, stW_lst, wSt0, wSt1, wSt2, wSt3, List.getElem?_cons_zero, List.getElem?_cons_succ, List.set_cons_zero, List.set_cons_succ, startM, List.map_cons, List.map_nil, List.length_cons, List.length_nil, List.replicate, List.cons_append, List.nil_append, List.set_set]
      refine forL_inv (fun j σ S' => ∃ (o6 o7 o8 : Option VV), σ = [some (.int (n : Nat)), some (.ref T), some (.int (g : Nat)), some (.ref (S.length + 1)), some (.ref S3.length), some x, o6, o7, o8] ∧ S'[S.length + 1]? = some (.lst (dl n (((edA ts).take j).foldl rx d))) ∧ S'[S3.length]? = some (.lst ((edA ts).map edV)) ∧ Fr No S S') ?_ ?_ ?_ ?_
      · exact ⟨o6, o7, o8, rfl, h1, h2, h5⟩
      · rintro j σ S1 ⟨_, _, _, _, _, q, _⟩
        exact q
      · rintro j y σ S1 hy ⟨q6, q7, q8, rfl, k1, k2, k3⟩
        rw [List.getElem?_map] at hy
        obtain ⟨⟨a, b, c⟩, he, rfl⟩ := Option.map_eq_some_iff.mp hy
        obtain ⟨ha, hb⟩ := hed _ (List.mem_of_getElem? he)
        dsimp only at ha hb
        generalize hd : ((edA ts).take j).foldl rx d = dj at k1
        have hnext : ((edA ts).take (j + 1)).foldl rx d = rx dj (a, b, c) := by
          rw [List.take_add_one, he, List.foldl_append, hd]
          rfl
        rw [show edV (a, b, c) = .tup [.int (a : Nat), .int (b : Nat), .int c] from rfl, wS_gtup (by rfl)]
        simp only [wS_gcons, wS_gname, wS_gnil, List.set_cons_zero, List.set_cons_succ]
        refine wS_mono (P := { nx := fun σ S' => σ = [some (.int (n : Nat)), some (.ref T), some (.int (g : Nat)), some (.ref (S.length + 1)), some (.ref S3.length), some x, some (.int (a : Nat)), some (.int (b : Nat)), some (.int c)] ∧ S' = rxS S1 (S.length + 1) n dj (a, b, c) }) ?_ (fun σ S' ⟨e1, e2⟩ => ?_) (fun _ _ z => z.elim) (fun _ _ z => z.elim) (fun _ _ z => z.elim)
        · unfold rxS bet
          cases hdb : dj b with
          | none =>
            simp only [wE_ok, wE_bind, wS_seq, wS_next, wS_brk, wS_cont, wS_drop, wS_ret, wS_retN, wS_ifS, wS_asg, wS_gname, wS_gsub, wS_gnil, wS_gcons, wS_augI, wE_C, wE_nil, wE_cons, wE_tup, wE_lst, wE_op, wE_un, wE_cb, wE_isi, wE_isiT, wE_call, wE_g1, wE_g2, isB_bl, wE_tst, wE_not, wE_and, wE_or, wE_andV, wE_orV, wE_notV, wE_ifE, isI2_int, wE_int, wE_addI, wE_is, wE_mt, wE_mt0, wE_part, wE_noP, wE_sl, wE_chain, wS_for, wE_src, wE_seqI, wE_optI, wE_lc, wE_yes, wE_V0, wE_V1, wE_optR, wS_optS, wE_ix, ixW_lst, wE_get, gtW_lst, wGe1, wIx0, wIx1, wIx2, wIx3, wS_st, stW_lst, wSt0, wSt1, wSt2, wSt3, List.getElem?_cons_zero, List.getElem?_cons_succ, List.set_cons_zero, List.set_cons_succ, startM, List.map_cons, List.map_nil, List.length_cons, List.length_nil, List.replicate, List.cons_append, List.nil_append, List.set_set, k1, wIx_dl ha, wIx_dl hb, hdb, ov, isNonV, Bool.not_true, if_true, Bool.false_eq_true, if_false]
            exact ⟨trivial, trivial⟩
          | some y =>
            cases hda : dj a with
            | none =>
              simp only [wE_ok, wE_bind, wS_seq, wS_next, wS_brk, wS_cont, wS_drop, wS_ret, wS_retN, wS_ifS, wS_asg, wS_gname, wS_gsub, wS_gnil, wS_gcons, wS_augI, wE_C, wE_nil, wE_cons, wE_tup, wE_lst, wE_op, wE_un, wE_cb, wE_isi, wE_isiT, wE_call, wE_g1, wE_g2, isB_bl, wE_tst, wE_not, wE_and, wE_or, wE_andV, wE_orV, wE_notV, wE_ifE, isI2_int, wE_int, wE_addI, wE_is, wE_mt, wE_mt0, wE_part, wE_noP, wE_sl, wE_chain, wS_for, wE_src, wE_seqI, wE_optI, wE_lc, wE_yes, wE_V0, wE_V1, wE_optR, wS_optS, wE_ix, ixW_lst, wE_get, gtW_lst, wGe1, wIx0, wIx1, wIx2, wIx3, wS_st, stW_lst, wSt0, wSt1, wSt2, wSt3, List.getElem?_cons_zero, List.getElem?_cons_succ, List.set_cons_zero, List.set_cons_succ, startM, List.map_cons, List.map_nil, List.length_cons, List.length_nil, List.replicate, List.cons_append, List.nil_append, List.set_set, k1, wIx_dl ha, wIx_dl hb, hdb, hda, ov, isNonV, Bool.not_true, Bool.not_false, if_true, Bool.false_eq_true, if_false, wSt_dl ha]
              exact ⟨trivial, trivial⟩
            | some z =>
              by_cases cz : y + c < z
              · simp only [wE_ok, wE_bind, wS_seq, wS_next, wS_brk, wS_cont, wS_drop, wS_ret, wS_retN, wS_ifS, wS_asg, wS_gname, wS_gsub, wS_gnil, wS_gcons, wS_augI, wE_C, wE_nil, wE_cons, wE_tup, wE_lst, wE_op, wE_un, wE_cb, wE_isi, wE_isiT, wE_call, wE_g1, wE_g2, isB_bl, wE_tst, wE_not, wE_and, wE_or, wE_andV, wE_orV, wE_notV, wE_ifE, isI2_int, wE_int, wE_addI, wE_is, wE_mt, wE_mt0, wE_part, wE_noP, wE_sl, wE_chain, wS_for, wE_src, wE_seqI, wE_optI, wE_lc, wE_yes, wE_V0, wE_V1, wE_optR, wS_optS, wE_ix, ixW_lst, wE_get, gtW_lst, wGe1, wIx0, wIx1, wIx2, wIx3, wS_st, stW_lst, wSt0, wSt1, wSt2, wSt3, List.getElem?_cons_zero, List.getElem?_cons_succ, List.set_cons_zero, List.set_cons_succ, startM, List.map_cons, List.map_nil, List.length_cons, List.length_nil, List.replicate, List.cons_append, List.nil_append, List.set_set, k1, wIx_dl ha, wIx_dl hb, hdb, hda, ov, isNonV, Bool.not_true, Bool.not_false, if_true, Bool.false_eq_true, if_false, wSt_dl ha, cz, decide_true]
                exact ⟨trivial, trivial⟩
              · simp only [wE_ok, wE_bind, wS_seq, wS_next, wS_brk, wS_cont, wS_drop, wS_ret, wS_retN, wS_ifS, wS_asg, wS_gname, wS_gsub, wS_gnil, wS_gcons, wS_augI, wE_C, wE_nil, wE_cons, wE_tup, wE_lst, wE_op, wE_un, wE_cb, wE_isi, wE_isiT, wE_call, wE_g1, wE_g2, isB_bl, wE_tst, wE_not, wE_and, wE_or, wE_andV, wE_orV, wE_notV, wE_ifE, isI2_int, wE_int, wE_addI, wE_is, wE_mt, wE_mt0, wE_part, wE_noP, wE_sl, wE_chain, wS_for, wE_src, wE_seqI, wE_optI, wE_lc, wE_yes, wE_V0, wE_V1, wE_optR, wS_optS, wE_ix, ixW_lst, wE_get, gtW_lst, wGe1, wIx0, wIx1, wIx2, wIx3, wS_st, stW_lst, wSt0, wSt1, wSt2, wSt3, List.getElem?_cons_zero, List.getElem?_cons_succ, List.set_cons_zero, List.set_cons_succ, startM, List.map_cons, List.map_nil, List.length_cons, List.length_nil, List.replicate, List.cons_append, List.nil_append, List.set_set, k1, wIx_dl ha, wIx_dl hb, hdb, hda, ov, isNonV, Bool.not_true, Bool.not_false, if_true, Bool.false_eq_true, if_false, wSt_dl ha, cz, decide_false]
                exact ⟨trivial, trivial⟩
        · subst e1 e2
          exact ⟨_, _, _, rfl, by rw [hnext]; exact rxS_at k1, by rw [rxS_ne (by omega)]; exact k2, k3.new (rxS_fr (.inl (by omega)))⟩
      · rintro σ S1 ⟨q6, q7, q8, rfl, k1, k2, k3⟩
        rw [List.length_map, List.take_length] at k1
        exact ⟨_, _, _, _, _, rfl, k1, k2, fold_sound _ _ (fun _ h => h) h3, turn_up h4 fun _ h => h, k3⟩
    · rintro σ S' ⟨d, o5, o6, o7, o8, rfl, h1, h2, h3, h4, h5⟩
      simp only [wE_ok, wE_bind, wS_seq, wS_next, wS_brk, wS_cont, wS_drop, wS_ret, wS_retN, wS_ifS, wS_asg, wS_gname, wS_gsub, wS_gnil, wS_gcons, wS_augI, wE_C, wE_nil, wE_cons, wE_tup, wE_lst, wE_op, wE_un, wE_cb, wE_isi, wE_isiT, wE_call, wE_g1, wE_g2, isB_bl, wE_tst, wE_not, wE_and, wE_or, wE_andV, wE_orV, wE_notV, wE_ifE, isI2_int, wE_int, wE_addI, wE_is, wE_mt, wE_mt0, wE_part, wE_noP, wE_sl, wE_chain, wS_for, wE_src, wE_seqI, wE_optI, wE_lc, wE_yes, wE_V0, wE_V1, wE_optR, wS_optS, wE_ix, ixW_lst, wE_get, gtW_lst, wGe1, wIx0, wIx1, wIx2, wIx3, wS_st, stW_lst, wSt0, wSt1, wSt2, wSt3, List.getElem?_cons_zero, List.getElem?_cons_succ, List.set_cons_zero, List.set_cons_succ, startM, List.map_cons, List.map_nil, List.length_cons, List.length_nil, List.replicate, List.cons_append, List.nil_append, List.set_set]
      rw [List.length_map, List.length_range] at h4
      exact ⟨_, d, rfl, h1, h3, h4, by omega, h5⟩
end Sx
end
/-! FarQ: beside, far. -/
noncomputable section
namespace Sx
open PySem L2 Gr
/-- a block whose items lay one list each, told by a relation -/
theorem lc_listsE {Q : VV → Sto → Prop} {S : Sto} {ok : Sto → Prop} {items : List VV} {g : GM} {t : TM} {e : EM} {σ : Sg} (R : Nat → VV → List VV → Prop) (hl : items.length ≤ 100000) (hok : ∀ ls, ok (laidL S ls))
    (step : ∀ i x ls, items[i]? = some x → wG (g x σ (laidL S ls)) fun σ2 S2 => S2 = laidL S ls ∧ wE (t σ2 S2) fun c S3 => c = true ∧ S3 = S2 ∧ wE (e σ2 S3) fun y S4 => y = .ref S3.length ∧ ∃ l, R i x l ∧ S4 = S3 ++ [.lst l])
    (h : ∀ ls : List (List VV), ls.length = items.length → (∀ i x l, items[i]? = some x → ls[i]? = some l → R i x l) → Q (.ref S.length) (laidL S ls)) : wE (lcL ok g t e σ S.length items (S ++ [.lst []])) Q := by
  refine lcL_inv (fun i S' => ∃ ls : List (List VV), S' = laidL S ls ∧ ls.length = i ∧ ∀ j x l, items[j]? = some x → ls[j]? = some l → R j x l) ⟨[], rfl, rfl, fun j x l _ h => by simp at h⟩ (fun i S' e => ?_) (fun i x S' hx e => ?_) fun S' e => ?_
  · obtain ⟨ls, rfl, _⟩ := e
    exact hok _
  · obtain ⟨ls, rfl, h1, h2⟩ := e
    obtain ⟨hi, hxe⟩ := List.getElem?_eq_some_iff.mp hx
    refine wS_mono (step i x ls hx) (fun σ2 S2 ⟨e2, h3⟩ => wE_mono h3 fun c S3 ⟨e3, e4, h4⟩ => ?_) (fun _ _ z => z) (fun _ _ z => z) (fun _ _ z => z)
    rw [if_pos e3]
    refine wE_mono h4 fun y S4 ⟨e5, l, hR, e6⟩ => ?_
    subst e6 e4 e2 e5
    refine ⟨(List.range ls.length).map fun j => VV.ref (S.length + 1 + j), ?_, ?_, ls ++ [l], ?_, by simp [h1], ?_⟩
    · rw [List.getElem?_append_left (by rw [laidL_len]; omega)]
      exact laidL_D
    · rw [List.length_map, List.length_range]; omega
    · exact laidL_next
    · intro j x' l' hj hl'
      by_cases hjl : j < ls.length
      · rw [List.getElem?_append_left hjl] at hl'
        exact h2 j x' l' hj hl'
      · rw [List.getElem?_append_right (by omega)] at hl'
        have hj0 : j - ls.length = 0 := by
          have := (List.getElem?_eq_some_iff.mp hl').1
          simp at this
          omega
        rw [hj0] at hl'
        cases hl'
        have : j = i := by omega
        subst this
        rw [hx] at hj
        cases hj
        exact hR
  · obtain ⟨ls, rfl, h1, h2⟩ := e
    exact h ls h1 h2
abbrev Pr := Nat × Int
def prV (p : Pr) : VV := .tup [.int (p.1 : Nat), .int p.2]
theorem prV_dat (S : Sto) (p : Pr) : dat S 8 (prV p) = some (.tuple [.int (p.1 : Nat), .int p.2]) := rfl
theorem pr_can (S : Sto) {rs : List Pr} (h : rs.length ≤ 100000) : canSort S (rs.map prV) := by
  have e : ∀ p : Pr, datD S (prV p) = .tuple [.int (p.1 : Nat), .int p.2] := fun p => by unfold datD; rw [prV_dat]; rfl
  refine ⟨fun x hx => ?_, fun d hd d' hd' => ?_, .inl fun d hd => ?_, by rw [List.length_map]; exact h⟩
  · obtain ⟨p, _, rfl⟩ := List.mem_map.mp hx
    rw [prV_dat, e]
    exact ⟨rfl, by simp [PyData.depth, PyData.depthAll]⟩
  · obtain ⟨x, hx, rfl⟩ := List.mem_map.mp hd
    obtain ⟨p, _, rfl⟩ := List.mem_map.mp hx
    obtain ⟨x', hx', rfl⟩ := List.mem_map.mp hd'
    obtain ⟨p', _, rfl⟩ := List.mem_map.mp hx'
    rw [e, e]
    rfl
  · obtain ⟨x, hx, rfl⟩ := List.mem_map.mp hd
    obtain ⟨p, _, rfl⟩ := List.mem_map.mp hx
    exact ⟨_, _, e p⟩
theorem map_perm {α : Type} {f : α → VV} {l m : List VV} (h : l.Perm m) : ∀ rs : List α, m = rs.map f → ∃ ys : List α, l = ys.map f ∧ ys.Perm rs := by
  induction h with
  | nil => exact fun rs e => ⟨rs, e, .refl _⟩
  | cons x _ ih =>
    intro rs e
    cases rs with
    | nil => cases e
    | cons r rs =>
      rw [List.map_cons] at e
      obtain ⟨rfl, e2⟩ := List.cons.inj e
      obtain ⟨ys, h1, h2⟩ := ih rs e2
      exact ⟨r :: ys, by rw [h1]; rfl, h2.cons r⟩
  | swap x y l =>
    intro rs e
    cases rs with
    | nil => cases e
    | cons r rs =>
      cases rs with
      | nil => cases e
      | cons q rs =>
        rw [List.map_cons, List.map_cons] at e
        obtain ⟨rfl, e2⟩ := List.cons.inj e
        obtain ⟨rfl, rfl⟩ := List.cons.inj e2
        exact ⟨q :: r :: rs, rfl, .swap _ _ _⟩
  | trans _ _ ih1 ih2 =>
    intro rs e
    obtain ⟨ys, h1, h2⟩ := ih2 rs e
    obtain ⟨zs, h3, h4⟩ := ih1 ys h1
    exact ⟨zs, h3, h4.trans h2⟩
theorem pr_le {S : Sto} {p q : Pr} (h : PySem.W.dataLe false (datD S) (prV p) (prV q) = true) : p.1 ≤ q.1 := by
  have e : ∀ p : Pr, datD S (prV p) = .tuple [.int (p.1 : Nat), .int p.2] := fun p => by unfold datD; rw [prV_dat]; rfl
  have h1 : (!PySem.W.dataLt (datD S (prV q)) (datD S (prV p))) = true := h
  rw [e, e, PySem.W.dataLt_ii] at h1
  by_cases c : p.1 ≤ q.1
  · exact c
  · rw [decide_eq_true (.inl (by omega))] at h1
    cases h1
/-- rows in rising order of their first figures -/
abbrev PrSrt (ys : List Pr) : Prop := ys.Pairwise fun p q => p.1 ≤ q.1
theorem pr_sorted (S : Sto) (rs : List Pr) : ∃ ys : List Pr, (rs.map prV).mergeSort (PySem.W.dataLe false (datD S)) = ys.map prV ∧ ys.Perm rs ∧ PrSrt ys := by
  obtain ⟨ys, h1, h2⟩ := map_perm (List.mergeSort_perm (rs.map prV) (PySem.W.dataLe false (datD S))) rs rfl
  refine ⟨ys, h1, h2, ?_⟩
  have T := PySem.W.sortLe_total (PyProof.Rows.listOrd PyProof.Rows.itemOrd) false fun b => PySem.W.keyToks (datD S b)
  have hs := List.pairwise_mergeSort (le := PySem.W.dataLe false (datD S)) (fun a b c => T.trans a b c) (fun a b => by
    have := T.total a b
    rw [Bool.or_eq_true]
    exact this) (rs.map prV)
  rw [h1] at hs
  exact (List.pairwise_map.mp hs).imp fun h => pr_le h
theorem edA_mem {ts : List Tie} {e : Ed} : e ∈ edA ts ↔ ∃ t ∈ ts, edO t = e ∨ edR t = e := by
  unfold edA
  rw [List.mem_append, List.mem_map, List.mem_map]
  exact ⟨fun h => h.elim (fun ⟨t, a, b⟩ => ⟨t, a, .inl b⟩) fun ⟨t, a, b⟩ => ⟨t, a, .inr b⟩, fun ⟨t, a, b⟩ => b.elim (fun b => .inl ⟨t, a, b⟩) fun b => .inr ⟨t, a, b⟩⟩
theorem edA_snoc {ts : List Tie} {t : Tie} {e : Ed} : e ∈ edA (ts ++ [t]) ↔ e ∈ edA ts ∨ edO t = e ∨ edR t = e := by
  rw [edA_mem, edA_mem]
  constructor
  · rintro ⟨u, hu, h⟩
    rcases List.mem_append.mp hu with hu | hu
    · exact .inl ⟨u, hu, h⟩
    · rw [List.mem_singleton] at hu
      subst hu
      exact .inr h
  · rintro (⟨u, hu, h⟩ | h)
    · exact ⟨u, List.mem_append_left _ hu, h⟩
    · exact ⟨t, List.mem_append_right _ (List.mem_singleton.mpr rfl), h⟩
/-- the rows of neighbours -/
def Near (S : Sto) (N n : Nat) (E : List Ed) (rows : Nat → List Pr) : Prop := ∃ r : Nat → Nat, S[N]? = some (.lst ((List.range n).map fun h => VV.ref (r h))) ∧ (∀ h, h < n → S[r h]? = some (.lst ((rows h).map prV))) ∧ (∀ h, h < n → ∀ o p, (o, p) ∈ rows h ↔ (h, o, p) ∈ E) ∧ ∀ h, h < n → PrSrt (rows h) ∧ (rows h).length ≤ 1000
theorem range_at {n i x : Nat} (h : (List.range n)[i]? = some x) : i < n ∧ x = i := by
  obtain ⟨h1, h2⟩ := List.getElem?_eq_some_iff.mp h
  rw [List.length_range] at h1
  rw [List.getElem_range] at h2
  exact ⟨h1, h2.symm⟩
theorem beside_w {S : Sto} {T n : Nat} {ts : List Tie} (hT : S[T]? = some (.lst (ts.map tieV))) (hts : ∀ t ∈ ts, t.1 < n ∧ t.2.1 < n) (hn : n ≤ 20) (hl : ts.length ≤ 100) :
    wE (Cm.m_beside [.int (n : Nat), .ref T] S) fun v S' => ∃ (N : Nat) (rows : Nat → List Pr), v = .ref N ∧ Near S' N n (edA ts) rows ∧ S.length ≤ N ∧ Fr No S S' := by
  unfold Cm.m_beside
  rw [wE_fn (by rfl)]
  have hTl := lt_of_at hT
  simp only [wE_ok, wE_bind, wS_seq, wS_next, wS_brk, wS_cont, wS_drop, wS_ret, wS_retN, wS_ifS, wS_asg, wS_gname, wS_gsub, wS_gnil, wS_gcons, wS_augI, wE_C, wE_nil, wE_cons, wE_tup, wE_lst, wE_op, wE_un, wE_cb, wE_isi, wE_isiT, wE_call, wE_g1, wE_g2, isB_bl, wE_tst, wE_not, wE_and, wE_or, wE_andV, wE_orV, wE_notV, wE_ifE, isI2_int, wE_int, wE_addI, wE_is, wE_mt, wE_mt0, wE_part, wE_noP, wE_sl, wE_chain, wS_for, wE_src, wE_seqI, wE_optI, wE_lc, wE_yes, wE_V0, wE_V1, wE_optR, wS_optS, wE_ix, ixW_lst, wE_get, gtW_lst, wGe1, wIx0, wIx1, wIx2, wIx3, wS_st, stW_lst, wSt0, wSt1, wSt2, wSt3, List.getElem?_cons_zero, List.getElem?_cons_succ, List.set_cons_zero, List.set_cons_succ, startM, List.map_cons, List.map_nil, List.length_cons, List.length_nil, List.replicate, List.cons_append, List.nil_append, List.set_set, rng1_nat (show n ≤ 1000000 by omega), wipeM]
  refine lc_lists (f := fun _ => []) (by simp; omega) (fun _ => trivial) (fun x ls hx => ?_) ?_
  · refine ⟨rfl, rfl, rfl, ?_⟩
    simp only [wE_ok, wE_bind, wS_seq, wS_next, wS_brk, wS_cont, wS_drop, wS_ret, wS_retN, wS_ifS, wS_asg, wS_gname, wS_gsub, wS_gnil, wS_gcons, wS_augI, wE_C, wE_nil, wE_cons, wE_tup, wE_lst, wE_op, wE_un, wE_cb, wE_isi, wE_isiT, wE_call, wE_g1, wE_g2, isB_bl, wE_tst, wE_not, wE_and, wE_or, wE_andV, wE_orV, wE_notV, wE_ifE, isI2_int, wE_int, wE_addI, wE_is, wE_mt, wE_mt0, wE_part, wE_noP, wE_sl, wE_chain, wS_for, wE_src, wE_seqI, wE_optI, wE_lc, wE_yes, wE_V0, wE_V1, wE_optR, wS_optS, wE_ix, ixW_lst, wE_get, gtW_lst, wGe1, wIx0, wIx1, wIx2, wIx3, wS_st, stW_lst, wSt0, wSt1, wSt2, wSt3, List.getElem?_cons_zero, List.getElem?_cons_succ, List.set_cons_zero, List.set_cons_succ, startM, List.map_cons, List.map_nil, List.length_cons, List.length_nil, List.replicate, List.cons_append, List.nil_append, List.set_set, Nat.zero_le, if_true]
    exact ⟨trivial, trivial⟩
  · have hm : ((List.range n).map fun i => VV.int (i : Nat)).map (fun _ => ([] : List VV)) = (List.range n).map fun _ => [] := by rw [List.map_map]; rfl
    rw [hm]
    generalize hS1 : laidL S ((List.range n).map fun _ => []) = S1
    have l1 : S1.length = S.length + 1 + n := by rw [← hS1, laidL_len]; simp
    have f1 : Fr No S S1 := by rw [← hS1]; exact laidL_fr
    have d1 : S1[S.length]? = some (.lst ((List.range n).map fun h => VV.ref (S.length + 1 + h))) := by rw [← hS1, laidL_D]; simp
    have r1 : ∀ h, h < n → S1[S.length + 1 + h]? = some (.lst []) := fun h hh => by
      rw [← hS1]
      exact laidL_at (by rw [List.getElem?_map, List.getElem?_range hh]; rfl)
    have hT1 := f1.at_ hT (fun z => z)
    rw [srcOf_ref hT1]
    simp only [wE_ok, wE_bind, wS_seq, wS_next, wS_brk, wS_cont, wS_drop, wS_ret, wS_retN, wS_ifS, wS_asg, wS_gname, wS_gsub, wS_gnil, wS_gcons, wS_augI, wE_C, wE_nil, wE_cons, wE_tup, wE_lst, wE_op, wE_un, wE_cb, wE_isi, wE_isiT, wE_call, wE_g1, wE_g2, isB_bl, wE_tst, wE_not, wE_and, wE_or, wE_andV, wE_orV, wE_notV, wE_ifE, isI2_int, wE_int, wE_addI, wE_is, wE_mt, wE_mt0, wE_part, wE_noP, wE_sl, wE_chain, wS_for, wE_src, wE_seqI, wE_optI, wE_lc, wE_yes, wE_V0, wE_V1, wE_optR, wS_optS, wE_ix, ixW_lst, wE_get, gtW_lst, wGe1, wIx0, wIx1, wIx2, wIx3, wS_st, stW_lst, wSt0, wSt1, wSt2, wSt3, List.getElem?_cons_zero, List.getElem?_cons_succ, List.set_cons_zero, List.set_cons_succ, startM, List.map_cons, List.map_nil, List.length_cons, List.length_nil, List.replicate, List.cons_append, List.nil_append, List.set_set]
    refine forL_inv (fun i σ S' => ∃ (rows : Nat → List Pr) (o3 o4 o5 o6 o7 : Option VV), σ = [some (.int (n : Nat)), some (.ref T), some (.ref S.length), o3, o4, o5, o6, o7] ∧ S'[S.length]? = some (.lst ((List.range n).map fun h => VV.ref (S.length + 1 + h))) ∧ (∀ h, h < n → S'[S.length + 1 + h]? = some (.lst ((rows h).map prV)) ∧ (rows h).length ≤ 2 * i) ∧ (∀ h, h < n → ∀ o p, (o, p) ∈ rows h ↔ (h, o, p) ∈ edA (ts.take i)) ∧ Fr No S S') ?_ ?_ ?_ ?_
    · exact ⟨fun _ => [], _, _, _, _, _, rfl, d1, fun h hh => ⟨r1 h hh, by simp⟩, fun h hh o p => by simp [edA], f1⟩
    · rintro i σ S' ⟨_, _, _, _, _, _, _, _, _, _, f⟩
      exact f.at_ hT (fun z => z)
    · rintro i x σ S' hx ⟨rows, o3, o4, o5, o6, o7, rfl, h1, h2, h3, h4⟩
      rw [List.getElem?_map] at hx
      obtain ⟨⟨a, b, c⟩, ht, rfl⟩ := Option.map_eq_some_iff.mp hx
      obtain ⟨ha, hb⟩ := hts _ (List.mem_of_getElem? ht)
      dsimp only at ha hb
      have hi : i < ts.length := (List.getElem?_eq_some_iff.mp ht).1
      rw [show tieV (a, b, c) = .tup [.int (a : Nat), .int (b : Nat), .int (c : Nat)] from rfl, wS_gtup (by rfl)]
      have ixr : ∀ (h : Nat) (Q : VV → Prop), h < n → wIx ((List.range n).map fun h => VV.ref (S.length + 1 + h)) (.int (h : Nat)) Q = Q (.ref (S.length + 1 + h)) := fun h Q hh => wIx_nat (by omega) (by rw [Int.toNat_natCast, List.getElem?_map, List.getElem?_range hh]; rfl)
      obtain ⟨ra, la⟩ := h2 a ha
      simp only [wE_ok, wE_bind, wS_seq, wS_next, wS_brk, wS_cont, wS_drop, wS_ret, wS_retN, wS_ifS, wS_asg, wS_gname, wS_gsub, wS_gnil, wS_gcons, wS_augI, wE_C, wE_nil, wE_cons, wE_tup, wE_lst, wE_op, wE_un, wE_cb, wE_isi, wE_isiT, wE_call, wE_g1, wE_g2, isB_bl, wE_tst, wE_not, wE_and, wE_or, wE_andV, wE_orV, wE_notV, wE_ifE, isI2_int, wE_int, wE_addI, wE_is, wE_mt, wE_mt0, wE_part, wE_noP, wE_sl, wE_chain, wS_for, wE_src, wE_seqI, wE_optI, wE_lc, wE_yes, wE_V0, wE_V1, wE_optR, wS_optS, wE_ix, ixW_lst, wE_get, gtW_lst, wGe1, wIx0, wIx1, wIx2, wIx3, wS_st, stW_lst, wSt0, wSt1, wSt2, wSt3, List.getElem?_cons_zero, List.getElem?_cons_succ, List.set_cons_zero, List.set_cons_succ, startM, List.map_cons, List.map_nil, List.length_cons, List.length_nil, List.replicate, List.cons_append, List.nil_append, List.set_set, h1, ixr a _ ha, tyB_ref ra, if_true, Nat.reduceLeDiff, Nat.reduceAdd]
      rw [wE_append ra (by rw [List.length_map]; omega)]
      generalize hS2 : S'.set (S.length + 1 + a) (.lst ((rows a).map prV ++ [.tup [.int (b : Nat), .int (c : Nat)]])) = S2
      have h1' : S2[S.length]? = some (.lst ((List.range n).map fun h => VV.ref (S.length + 1 + h))) := by rw [← hS2, List.getElem?_set_ne (by omega)]; exact h1
      have f2 : Fr No S S2 := by rw [← hS2]; exact h4.new (Fr.set (.inl (by omega)))
      let rows2 : Nat → List Pr := fun h => if h = a then rows a ++ [(b, (c : Int))] else rows h
      have h2' : ∀ h, h < n → S2[S.length + 1 + h]? = some (.lst ((rows2 h).map prV)) ∧ (rows2 h).length ≤ 2 * i + 1 := fun h hh => by
        obtain ⟨rh, lh⟩ := h2 h hh
        by_cases e : h = a
        · subst e
          have : rows2 h = rows h ++ [(b, (c : Int))] := if_pos rfl
          rw [this]
          refine ⟨?_, by rw [List.length_append, List.length_singleton]; omega⟩
          rw [← hS2, set_at rh, List.map_append]
          rfl
        · have : rows2 h = rows h := if_neg e
          rw [this]
          exact ⟨by rw [← hS2, List.getElem?_set_ne (by omega)]; exact rh, by omega⟩
      obtain ⟨rb, lb⟩ := h2' b hb
      simp only [wE_ok, wE_bind, wS_seq, wS_next, wS_brk, wS_cont, wS_drop, wS_ret, wS_retN, wS_ifS, wS_asg, wS_gname, wS_gsub, wS_gnil, wS_gcons, wS_augI, wE_C, wE_nil, wE_cons, wE_tup, wE_lst, wE_op, wE_un, wE_cb, wE_isi, wE_isiT, wE_call, wE_g1, wE_g2, isB_bl, wE_tst, wE_not, wE_and, wE_or, wE_andV, wE_orV, wE_notV, wE_ifE, isI2_int, wE_int, wE_addI, wE_is, wE_mt, wE_mt0, wE_part, wE_noP, wE_sl, wE_chain, wS_for, wE_src, wE_seqI, wE_optI, wE_lc, wE_yes, wE_V0, wE_V1, wE_optR, wS_optS, wE_ix, ixW_lst, wE_get, gtW_lst, wGe1, wIx0, wIx1, wIx2, wIx3, wS_st, stW_lst, wSt0, wSt1, wSt2, wSt3, List.getElem?_cons_zero, List.getElem?_cons_succ, List.set_cons_zero, List.set_cons_succ, startM, List.map_cons, List.map_nil, List.length_cons, List.length_nil, List.replicate, List.cons_append, List.nil_append, List.set_set, h1', ixr b _ hb, tyB_ref rb, if_true, Nat.reduceLeDiff, Nat.reduceAdd]
      rw [wE_append rb (by rw [List.length_map]; omega)]
      refine ⟨fun h => if h = b then rows2 b ++ [(a, (c : Int))] else rows2 h, _, _, _, _, _, rfl, by rw [List.getElem?_set_ne (by omega)]; exact h1', fun h hh => ?_, fun h hh o p => ?_, f2.new (Fr.set (.inl (by omega)))⟩
      · obtain ⟨rh, lh⟩ := h2' h hh
        by_cases e : h = b
        · subst e
          dsimp only
          rw [if_pos rfl]
          refine ⟨?_, by rw [List.length_append, List.length_singleton]; omega⟩
          rw [set_at rh, List.map_append]
          rfl
        · dsimp only
          rw [if_neg e]
          exact ⟨by rw [List.getElem?_set_ne (by omega)]; exact rh, by omega⟩
      · rw [List.take_add_one, ht]
        show _ ↔ (h, o, p) ∈ edA (ts.take i ++ [(a, b, c)])
        rw [edA_snoc, ← h3 h hh]
        have e2 : (o, p) ∈ rows2 h ↔ (o, p) ∈ rows h ∨ edO (a, b, c) = (h, o, p) := by
          by_cases e : h = a
          · subst e
            have : rows2 h = rows h ++ [(b, (c : Int))] := if_pos rfl
            rw [this, List.mem_append, List.mem_singleton]
            simp [edO, eq_comm]
          · have : rows2 h = rows h := if_neg e
            rw [this]
            simp [edO]
            intro z
            exact absurd z.symm e
        by_cases e : h = b
        · subst e
          dsimp only
          rw [if_pos rfl, List.mem_append, List.mem_singleton, e2]
          simp [edR, eq_comm, or_assoc]
        · dsimp only
          rw [if_neg e, e2]
          have : edR (a, b, c) ≠ (h, o, p) := fun z => e (by
            have := congrArg Prod.fst z
            exact this.symm)
          exact ⟨fun z => z.elim .inl fun z => .inr (.inl z), fun z => z.elim .inl fun z => z.elim .inr fun z => absurd z this⟩
    · rintro σ S' ⟨rows, o3, o4, o5, o6, o7, rfl, h1, h2, h3, h4⟩
      rw [List.length_map] at h2
      rw [List.length_map, List.take_length] at h3
      simp only [wE_ok, wE_bind, wS_seq, wS_next, wS_brk, wS_cont, wS_drop, wS_ret, wS_retN, wS_ifS, wS_asg, wS_gname, wS_gsub, wS_gnil, wS_gcons, wS_augI, wE_C, wE_nil, wE_cons, wE_tup, wE_lst, wE_op, wE_un, wE_cb, wE_isi, wE_isiT, wE_call, wE_g1, wE_g2, isB_bl, wE_tst, wE_not, wE_and, wE_or, wE_andV, wE_orV, wE_notV, wE_ifE, isI2_int, wE_int, wE_addI, wE_is, wE_mt, wE_mt0, wE_part, wE_noP, wE_sl, wE_chain, wS_for, wE_src, wE_seqI, wE_optI, wE_lc, wE_yes, wE_V0, wE_V1, wE_optR, wS_optS, wE_ix, ixW_lst, wE_get, gtW_lst, wGe1, wIx0, wIx1, wIx2, wIx3, wS_st, stW_lst, wSt0, wSt1, wSt2, wSt3, List.getElem?_cons_zero, List.getElem?_cons_succ, List.set_cons_zero, List.set_cons_succ, startM, List.map_cons, List.map_nil, List.length_cons, List.length_nil, List.replicate, List.cons_append, List.nil_append, List.set_set]
      rw [srcOf_ref h1]
      simp only [wE_ok, wE_bind, wS_seq, wS_next, wS_brk, wS_cont, wS_drop, wS_ret, wS_retN, wS_ifS, wS_asg, wS_gname, wS_gsub, wS_gnil, wS_gcons, wS_augI, wE_C, wE_nil, wE_cons, wE_tup, wE_lst, wE_op, wE_un, wE_cb, wE_isi, wE_isiT, wE_call, wE_g1, wE_g2, isB_bl, wE_tst, wE_not, wE_and, wE_or, wE_andV, wE_orV, wE_notV, wE_ifE, isI2_int, wE_int, wE_addI, wE_is, wE_mt, wE_mt0, wE_part, wE_noP, wE_sl, wE_chain, wS_for, wE_src, wE_seqI, wE_optI, wE_lc, wE_yes, wE_V0, wE_V1, wE_optR, wS_optS, wE_ix, ixW_lst, wE_get, gtW_lst, wGe1, wIx0, wIx1, wIx2, wIx3, wS_st, stW_lst, wSt0, wSt1, wSt2, wSt3, List.getElem?_cons_zero, List.getElem?_cons_succ, List.set_cons_zero, List.set_cons_succ, startM, List.map_cons, List.map_nil, List.length_cons, List.length_nil, List.replicate, List.cons_append, List.nil_append, List.set_set, wipeM]
      have hS' : S.length + 1 + n ≤ S'.length ∨ n = 0 := by
        by_cases z : n = 0
        · exact .inr z
        · have := lt_of_at (h2 (n - 1) (by omega)).1
          exact .inl (by omega)
      refine lc_listsE (fun i _ l => ∃ ys : List Pr, l = ys.map prV ∧ ys.Perm (rows i) ∧ PrSrt ys) (by simp; omega) (fun ls => by rw [laidL_old (lt_of_at h1)]; exact h1) (fun i x ls hx => ?_) fun ls hls hR => ?_
      · rw [List.getElem?_map] at hx
        obtain ⟨h, hh, rfl⟩ := Option.map_eq_some_iff.mp hx
        obtain ⟨hi, rfl⟩ := range_at hh
        obtain ⟨rh, lh⟩ := h2 h hi
        refine ⟨rfl, rfl, rfl, ?_⟩
        have rh' : (laidL S' ls)[S.length + 1 + h]? = some (.lst ((rows h).map prV)) := by rw [laidL_old (lt_of_at rh)]; exact rh
        simp only [wE_ok, wE_bind, wS_seq, wS_next, wS_brk, wS_cont, wS_drop, wS_ret, wS_retN, wS_ifS, wS_asg, wS_gname, wS_gsub, wS_gnil, wS_gcons, wS_augI, wE_C, wE_nil, wE_cons, wE_tup, wE_lst, wE_op, wE_un, wE_cb, wE_isi, wE_isiT, wE_call, wE_g1, wE_g2, isB_bl, wE_tst, wE_not, wE_and, wE_or, wE_andV, wE_orV, wE_notV, wE_ifE, isI2_int, wE_int, wE_addI, wE_is, wE_mt, wE_mt0, wE_part, wE_noP, wE_sl, wE_chain, wS_for, wE_src, wE_seqI, wE_optI, wE_lc, wE_yes, wE_V0, wE_V1, wE_optR, wS_optS, wE_ix, ixW_lst, wE_get, gtW_lst, wGe1, wIx0, wIx1, wIx2, wIx3, wS_st, stW_lst, wSt0, wSt1, wSt2, wSt3, List.getElem?_cons_zero, List.getElem?_cons_succ, List.set_cons_zero, List.set_cons_succ, startM, List.map_cons, List.map_nil, List.length_cons, List.length_nil, List.replicate, List.cons_append, List.nil_append, List.set_set]
        rw [wE_sorted rh' (pr_can _ (by omega))]
        obtain ⟨ys, e1, e2, e3⟩ := pr_sorted (laidL S' ls) (rows h)
        exact ⟨rfl, _, ⟨ys, e1, e2, e3⟩, rfl⟩
      · rw [List.length_map, List.length_range] at hls
        have hch : ∀ h, h < n → ∃ ys : List Pr, ls[h]? = some (ys.map prV) ∧ ys.Perm (rows h) ∧ PrSrt ys := fun h hh => by
          have hl' : h < ls.length := by omega
          obtain ⟨ys, e1, e2⟩ := hR h (.ref (S.length + 1 + h)) ls[h] (by rw [List.getElem?_map, List.getElem?_range hh]; rfl) (List.getElem?_eq_getElem hl')
          exact ⟨ys, by rw [List.getElem?_eq_getElem hl', e1], e2⟩
        have hch2 : ∃ f : Nat → List Pr, ∀ h, h < n → ls[h]? = some ((f h).map prV) ∧ (f h).Perm (rows h) ∧ PrSrt (f h) :=
          ⟨fun h => if hh : h < n then (hch h hh).choose else [], fun h hh => by dsimp only; rw [dif_pos hh]; exact (hch h hh).choose_spec⟩
        obtain ⟨f, hf⟩ := hch2
        refine ⟨_, f, rfl, ⟨fun h => S'.length + 1 + h, ?_, fun h hh => laidL_at (hf h hh).1, fun h hh o p => ?_, fun h hh => ⟨(hf h hh).2.2, by rw [(hf h hh).2.1.length_eq]; have := (h2 h hh).2; omega⟩⟩, h4.1, h4.trans laidL_fr⟩
        · rw [laidL_D, hls]
        · rw [(hf h hh).2.1.mem_iff]
          exact h3 h hh o p
end Sx
end
/-! FarR: far. -/
noncomputable section
namespace Sx
open PySem L2 Gr
def rowE (rows : Nat → List Pr) (h : Nat) : List Ed := (rows h).map fun p => (h, p.1, p.2)
def rowsE (rows : Nat → List Pr) (i : Nat) : List Ed := ((List.range i).map (rowE rows)).flatten
theorem rowsE_succ {rows : Nat → List Pr} {i : Nat} : rowsE rows (i + 1) = rowsE rows i ++ rowE rows i := by
  unfold rowsE
  rw [List.range_succ, List.map_append, List.flatten_append]
  simp
theorem rowsE_mem {rows : Nat → List Pr} {i h o : Nat} {p : Int} : (h, o, p) ∈ rowsE rows i ↔ h < i ∧ (o, p) ∈ rows h := by
  unfold rowsE rowE
  simp only [List.mem_flatten, List.mem_map, List.mem_range]
  constructor
  · rintro ⟨l, ⟨k, hk, rfl⟩, hm⟩
    obtain ⟨q, hq, e⟩ := List.mem_map.mp hm
    cases e
    exact ⟨hk, hq⟩
  · rintro ⟨h1, h2⟩
    exact ⟨_, ⟨h, h1, rfl⟩, List.mem_map.mpr ⟨(o, p), h2, rfl⟩⟩
theorem Near.fr {M : Nat → Prop} {S S' : Sto} {N n : Nat} {E : List Ed} {rows : Nat → List Pr} (h : ∃ r : Nat → Nat, S[N]? = some (.lst ((List.range n).map fun h => VV.ref (r h))) ∧ (∀ h, h < n → S[r h]? = some (.lst ((rows h).map prV)))) (f : Fr No S S') :
    ∃ r : Nat → Nat, S'[N]? = some (.lst ((List.range n).map fun h => VV.ref (r h))) ∧ (∀ h, h < n → S'[r h]? = some (.lst ((rows h).map prV))) := by
  obtain ⟨r, h1, h2⟩ := h
  exact ⟨r, f.at_ h1 (fun z => z), fun h hh => f.at_ (h2 h hh) fun z => z⟩
/-- what is known of a turn so far: its start d, the edges seen, the flag -/
structure Tn (E : List Ed) (d : Di) (done : List Ed) (f : Bool) : Prop where
  no : f = false → done.foldl rx d = d ∧ ∀ e ∈ done, bet d e = none
  yes : f = true → ∃ e ∈ E, bet d e ≠ none
theorem Tn.step {E : List Ed} {d : Di} {done : List Ed} {f : Bool} (t : Tn E d done f) {e : Ed} (he : e ∈ E) : Tn E d (done ++ [e]) (match bet (done.foldl rx d) e with
    | some _ => true
    | none => f) := by
  cases q : bet (done.foldl rx d) e with
  | some x =>
    refine ⟨fun z => (by cases z), fun _ => ?_⟩
    cases f with
    | true => exact t.yes rfl
    | false =>
      rw [(t.no rfl).1] at q
      exact ⟨e, he, by rw [q]; exact fun z => nomatch z⟩
  | none =>
    refine ⟨fun z => ?_, fun z => t.yes z⟩
    dsimp only at z
    obtain ⟨h1, h2⟩ := t.no z
    rw [List.foldl_append]
    rw [h1] at q ⊢
    refine ⟨rx_none q, fun e' he' => ?_⟩
    rcases List.mem_append.mp he' with he' | he'
    · exact h2 e' he'
    · rw [List.mem_singleton] at he'
      rw [he']
      exact q
theorem far_w {S : Sto} {T n g : Nat} {ts : List Tie} (hT : S[T]? = some (.lst (ts.map tieV))) (hts : ∀ t ∈ ts, t.1 < n ∧ t.2.1 < n) (hg : g < n) (hn : n ≤ 20) (hl : ts.length ≤ 100) :
    wE (Cm.m_far [.int (n : Nat), .ref T, .int (g : Nat)] S) fun v S' => ∃ (r : Nat) (d : Di), v = .ref r ∧ S'[r]? = some (.lst (dl n d)) ∧ Sound (edA ts) g d ∧ UpTo (edA ts) g n d ∧ S.length ≤ r ∧ Fr No S S' := by
  unfold Cm.m_far
  rw [wE_fn (by rfl)]
  simp only [wS_seq, wS_drop, wE_call, wE_cons, wE_nil, wE_V0, wE_V1, startM, List.map_cons, List.map_nil, List.length_cons, List.length_nil, List.replicate, List.cons_append, List.nil_append]
  have hlk : wE (Cm.m_looked_house [.int (n : Nat), .int (g : Nat)] S) fun _ S' => S' = S := by
    unfold Cm.m_looked_house
    rw [wE_fn (by rfl)]
    have c1 : (0 : Int) ≤ (g : Nat) := by omega
    have c2 : ((g : Nat) : Int) < (n : Nat) := by omega
    simp only [wE_ok, wE_bind, wS_seq, wS_next, wS_brk, wS_cont, wS_drop, wS_ret, wS_retN, wS_ifS, wS_asg, wS_gname, wS_gsub, wS_gnil, wS_gcons, wS_augI, wE_C, wE_nil, wE_cons, wE_tup, wE_lst, wE_op, wE_un, wE_cb, wE_isi, wE_isiT, wE_call, wE_g1, wE_g2, isB_bl, wE_tst, wE_not, wE_and, wE_or, wE_andV, wE_orV, wE_notV, wE_ifE, isI2_int, wE_int, wE_addI, wE_is, wE_mt, wE_mt0, wE_part, wE_noP, wE_sl, wE_chain, wS_for, wE_src, wE_seqI, wE_optI, wE_lc, wE_yes, wE_V0, wE_V1, wE_optR, wS_optS, wE_ix, ixW_lst, wE_get, gtW_lst, wGe1, wIx0, wIx1, wIx2, wIx3, wS_st, stW_lst, wSt0, wSt1, wSt2, wSt3, List.getElem?_cons_zero, List.getElem?_cons_succ, List.set_cons_zero, List.set_cons_succ, startM, List.map_cons, List.map_nil, List.length_cons, List.length_nil, List.replicate, List.cons_append, List.nil_append, List.set_set, c1, c2, decide_true, if_true, Bool.not_true, Bool.false_eq_true, if_false]
  refine wE_mono hlk fun _ S0 e0 => ?_
  subst e0
  simp only [wS_asg, wE_call, wE_cons, wE_nil, wE_V0, wE_V1, wS_gname, List.set_cons_zero, List.set_cons_succ]
  refine wE_mono (beside_w hT hts hn hl) fun v S1 ⟨N, rows, hv, ⟨r, n1, n2, n3, _⟩, hN, f1⟩ => ?_
  subst hv
  have hpos := edA_pos (ts := ts)
  have hed := edA_lt hts
  simp only [wE_ok, wE_bind, wS_seq, wS_next, wS_brk, wS_cont, wS_drop, wS_ret, wS_retN, wS_ifS, wS_asg, wS_gname, wS_gsub, wS_gnil, wS_gcons, wS_augI, wE_C, wE_nil, wE_cons, wE_tup, wE_lst, wE_op, wE_un, wE_cb, wE_isi, wE_isiT, wE_call, wE_g1, wE_g2, isB_bl, wE_tst, wE_not, wE_and, wE_or, wE_andV, wE_orV, wE_notV, wE_ifE, isI2_int, wE_int, wE_addI, wE_is, wE_mt, wE_mt0, wE_part, wE_noP, wE_sl, wE_chain, wS_for, wE_src, wE_seqI, wE_optI, wE_lc, wE_yes, wE_V0, wE_V1, wE_optR, wS_optS, wE_ix, ixW_lst, wE_get, gtW_lst, wGe1, wIx0, wIx1, wIx2, wIx3, wS_st, stW_lst, wSt0, wSt1, wSt2, wSt3, List.getElem?_cons_zero, List.getElem?_cons_succ, List.set_cons_zero, List.set_cons_succ, startM, List.map_cons, List.map_nil, List.length_cons, List.length_nil, List.replicate, List.cons_append, List.nil_append, List.set_set, rng1_nat (show n ≤ 1000000 by omega), wipeM]
  refine lc_flat (f := fun _ => .non) (by simp; omega) (fun _ => trivial) (fun x acc hx => ?_) ?_
  · exact ⟨rfl, rfl, rfl, rfl, rfl⟩
  · have em : ((List.range n).map fun i => VV.int (i : Nat)).map (fun _ => VV.non) = dl n fun _ => none := by rw [List.map_map]; rfl
    rw [em]
    have hl1 := f1.1
    simp only [wE_ok, wE_bind, wS_seq, wS_next, wS_brk, wS_cont, wS_drop, wS_ret, wS_retN, wS_ifS, wS_asg, wS_gname, wS_gsub, wS_gnil, wS_gcons, wS_augI, wE_C, wE_nil, wE_cons, wE_tup, wE_lst, wE_op, wE_un, wE_cb, wE_isi, wE_isiT, wE_call, wE_g1, wE_g2, isB_bl, wE_tst, wE_not, wE_and, wE_or, wE_andV, wE_orV, wE_notV, wE_ifE, isI2_int, wE_int, wE_addI, wE_is, wE_mt, wE_mt0, wE_part, wE_noP, wE_sl, wE_chain, wS_for, wE_src, wE_seqI, wE_optI, wE_lc, wE_yes, wE_V0, wE_V1, wE_optR, wS_optS, wE_ix, ixW_lst, wE_get, gtW_lst, wGe1, wIx0, wIx1, wIx2, wIx3, wS_st, stW_lst, wSt0, wSt1, wSt2, wSt3, List.getElem?_cons_zero, List.getElem?_cons_succ, List.set_cons_zero, List.set_cons_succ, startM, List.map_cons, List.map_nil, List.length_cons, List.length_nil, List.replicate, List.cons_append, List.nil_append, List.set_set, get_last, wSt_dl hg, d0_put, set_last]
    refine while_inv (fun m σ S' => ∃ (d : Di) (f : Bool) (o6 o7 o8 : Option VV), σ = [some (.int (n : Nat)), some (.ref T), some (.int (g : Nat)), some (.ref N), some (.ref S1.length), some (.bl f), o6, o7, o8] ∧ S'[S1.length]? = some (.lst (dl n d)) ∧ Fr No S1 S' ∧ Sound (edA ts) g d ∧ ((f = true ∧ ∃ k, UpTo (edA ts) g k d ∧ k + m = n + 1 ∧ k ≤ n) ∨ (f = false ∧ UpTo (edA ts) g n d))) ?_ 1000 (n + 1) _ _ (by omega) ?_
    · rintro m σ S' ⟨d, f, o6, o7, o8, rfl, h1, h2, h3, h4⟩
      cases f with
      | false =>
        simp only [wE_ok, wE_bind, wS_seq, wS_next, wS_brk, wS_cont, wS_drop, wS_ret, wS_retN, wS_ifS, wS_asg, wS_gname, wS_gsub, wS_gnil, wS_gcons, wS_augI, wE_C, wE_nil, wE_cons, wE_tup, wE_lst, wE_op, wE_un, wE_cb, wE_isi, wE_isiT, wE_call, wE_g1, wE_g2, isB_bl, wE_tst, wE_not, wE_and, wE_or, wE_andV, wE_orV, wE_notV, wE_ifE, isI2_int, wE_int, wE_addI, wE_is, wE_mt, wE_mt0, wE_part, wE_noP, wE_sl, wE_chain, wS_for, wE_src, wE_seqI, wE_optI, wE_lc, wE_yes, wE_V0, wE_V1, wE_optR, wS_optS, wE_ix, ixW_lst, wE_get, gtW_lst, wGe1, wIx0, wIx1, wIx2, wIx3, wS_st, stW_lst, wSt0, wSt1, wSt2, wSt3, List.getElem?_cons_zero, List.getElem?_cons_succ, List.set_cons_zero, List.set_cons_succ, startM, List.map_cons, List.map_nil, List.length_cons, List.length_nil, List.replicate, List.cons_append, List.nil_append, List.set_set, Bool.false_eq_true, if_false]
        rcases h4 with ⟨z, _⟩ | ⟨_, h4⟩
        · cases z
        · exact ⟨_, d, rfl, h1, h3, h4, by omega, f1.trans h2⟩
      | true =>
        simp only [wE_ok, wE_bind, wS_seq, wS_next, wS_brk, wS_cont, wS_drop, wS_ret, wS_retN, wS_ifS, wS_asg, wS_gname, wS_gsub, wS_gnil, wS_gcons, wS_augI, wE_C, wE_nil, wE_cons, wE_tup, wE_lst, wE_op, wE_un, wE_cb, wE_isi, wE_isiT, wE_call, wE_g1, wE_g2, isB_bl, wE_tst, wE_not, wE_and, wE_or, wE_andV, wE_orV, wE_notV, wE_ifE, isI2_int, wE_int, wE_addI, wE_is, wE_mt, wE_mt0, wE_part, wE_noP, wE_sl, wE_chain, wS_for, wE_src, wE_seqI, wE_optI, wE_lc, wE_yes, wE_V0, wE_V1, wE_optR, wS_optS, wE_ix, ixW_lst, wE_get, gtW_lst, wGe1, wIx0, wIx1, wIx2, wIx3, wS_st, stW_lst, wSt0, wSt1, wSt2, wSt3, List.getElem?_cons_zero, List.getElem?_cons_succ, List.set_cons_zero, List.set_cons_succ, startM, List.map_cons, List.map_nil, List.length_cons, List.length_nil, List.replicate, List.cons_append, List.nil_append, List.set_set, if_true]
        obtain ⟨k, u4, h5, h6⟩ : ∃ k, UpTo (edA ts) g k d ∧ k + m = n + 1 ∧ k ≤ n := h4.elim (fun z => z.2) fun z => nomatch z.1
        refine ⟨by omega, ?_⟩
        simp only [wE_ok, wE_bind, wS_seq, wS_next, wS_brk, wS_cont, wS_drop, wS_ret, wS_retN, wS_ifS, wS_asg, wS_gname, wS_gsub, wS_gnil, wS_gcons, wS_augI, wE_C, wE_nil, wE_cons, wE_tup, wE_lst, wE_op, wE_un, wE_cb, wE_isi, wE_isiT, wE_call, wE_g1, wE_g2, isB_bl, wE_tst, wE_not, wE_and, wE_or, wE_andV, wE_orV, wE_notV, wE_ifE, isI2_int, wE_int, wE_addI, wE_is, wE_mt, wE_mt0, wE_part, wE_noP, wE_sl, wE_chain, wS_for, wE_src, wE_seqI, wE_optI, wE_lc, wE_yes, wE_V0, wE_V1, wE_optR, wS_optS, wE_ix, ixW_lst, wE_get, gtW_lst, wGe1, wIx0, wIx1, wIx2, wIx3, wS_st, stW_lst, wSt0, wSt1, wSt2, wSt3, List.getElem?_cons_zero, List.getElem?_cons_succ, List.set_cons_zero, List.set_cons_succ, startM, List.map_cons, List.map_nil, List.length_cons, List.length_nil, List.replicate, List.cons_append, List.nil_append, List.set_set, rng1_nat (show n ≤ 1000000 by omega)]
        refine forL_inv (fun i σ S' => ∃ (f : Bool) (o6 o7 o8 : Option VV), σ = [some (.int (n : Nat)), some (.ref T), some (.int (g : Nat)), some (.ref N), some (.ref S1.length), some (.bl f), o6, o7, o8] ∧ S'[S1.length]? = some (.lst (dl n ((rowsE rows i).foldl rx d))) ∧ Fr No S1 S' ∧ Tn (edA ts) d (rowsE rows i) f) ?_ ?_ ?_ ?_
        · exact ⟨false, _, _, _, rfl, h1, h2, ⟨fun _ => ⟨rfl, fun e he => by cases he⟩, fun z => (by cases z)⟩⟩
        · intro _ _ _ _
          trivial
        · rintro i x σ S2 hx ⟨f, q6, q7, q8, rfl, k1, k2, k3⟩
          rw [List.getElem?_map] at hx
          obtain ⟨h, hh, rfl⟩ := Option.map_eq_some_iff.mp hx
          obtain ⟨hi, rfl⟩ := range_at hh
          have rN : S2[N]? = some (.lst ((List.range n).map fun h => VV.ref (r h))) := k2.at_ n1 (fun z => z)
          have rr : S2[r h]? = some (.lst ((rows h).map prV)) := k2.at_ (n2 h hi) (fun z => z)
          have ixr : ∀ (Q : VV → Prop), wIx ((List.range n).map fun h => VV.ref (r h)) (.int (h : Nat)) Q = Q (.ref (r h)) := fun Q => wIx_nat (by omega) (by rw [Int.toNat_natCast, List.getElem?_map, List.getElem?_range hi]; rfl)
          simp only [wE_ok, wE_bind, wS_seq, wS_next, wS_brk, wS_cont, wS_drop, wS_ret, wS_retN, wS_ifS, wS_asg, wS_gname, wS_gsub, wS_gnil, wS_gcons, wS_augI, wE_C, wE_nil, wE_cons, wE_tup, wE_lst, wE_op, wE_un, wE_cb, wE_isi, wE_isiT, wE_call, wE_g1, wE_g2, isB_bl, wE_tst, wE_not, wE_and, wE_or, wE_andV, wE_orV, wE_notV, wE_ifE, isI2_int, wE_int, wE_addI, wE_is, wE_mt, wE_mt0, wE_part, wE_noP, wE_sl, wE_chain, wS_for, wE_src, wE_seqI, wE_optI, wE_lc, wE_yes, wE_V0, wE_V1, wE_optR, wS_optS, wE_ix, ixW_lst, wE_get, gtW_lst, wGe1, wIx0, wIx1, wIx2, wIx3, wS_st, stW_lst, wSt0, wSt1, wSt2, wSt3, List.getElem?_cons_zero, List.getElem?_cons_succ, List.set_cons_zero, List.set_cons_succ, startM, List.map_cons, List.map_nil, List.length_cons, List.length_nil, List.replicate, List.cons_append, List.nil_append, List.set_set, rN, ixr]
          rw [srcOf_ref rr]
          simp only [wE_ok, wE_bind, wS_seq, wS_next, wS_brk, wS_cont, wS_drop, wS_ret, wS_retN, wS_ifS, wS_asg, wS_gname, wS_gsub, wS_gnil, wS_gcons, wS_augI, wE_C, wE_nil, wE_cons, wE_tup, wE_lst, wE_op, wE_un, wE_cb, wE_isi, wE_isiT, wE_call, wE_g1, wE_g2, isB_bl, wE_tst, wE_not, wE_and, wE_or, wE_andV, wE_orV, wE_notV, wE_ifE, isI2_int, wE_int, wE_addI, wE_is, wE_mt, wE_mt0, wE_part, wE_noP, wE_sl, wE_chain, wS_for, wE_src, wE_seqI, wE_optI, wE_lc, wE_yes, wE_V0, wE_V1, wE_optR, wS_optS, wE_ix, ixW_lst, wE_get, gtW_lst, wGe1, wIx0, wIx1, wIx2, wIx3, wS_st, stW_lst, wSt0, wSt1, wSt2, wSt3, List.getElem?_cons_zero, List.getElem?_cons_succ, List.set_cons_zero, List.set_cons_succ, startM, List.map_cons, List.map_nil, List.length_cons, List.length_nil, List.replicate, List.cons_append, List.nil_append, List.set_set]
          refine forL_inv (fun j σ S' => ∃ (f : Bool) (o7 o8 : Option VV), σ = [some (.int (n : Nat)), some (.ref T), some (.int (g : Nat)), some (.ref N), some (.ref S1.length), some (.bl f), some (.int (h : Nat)), o7, o8] ∧ S'[S1.length]? = some (.lst (dl n ((rowsE rows h ++ (rowE rows h).take j).foldl rx d))) ∧ Fr No S1 S' ∧ Tn (edA ts) d (rowsE rows h ++ (rowE rows h).take j) f) ?_ ?_ ?_ ?_
          · exact ⟨f, _, _, rfl, by simpa using k1, k2, by simpa using k3⟩
          · rintro j σ S3 ⟨_, _, _, _, _, q, _⟩
            exact q.at_ (n2 h hi) (fun z => z)
          · rintro j y σ S3 hy ⟨f, q7, q8, rfl, g1, g2, g3⟩
            rw [List.getElem?_map] at hy
            obtain ⟨⟨o, c⟩, he, rfl⟩ := Option.map_eq_some_iff.mp hy
            have hmem : (h, o, c) ∈ edA ts := (n3 h hi o c).mp (List.mem_of_getElem? he)
            have ho : o < n := (hed _ hmem).2
            have her : (rowE rows h)[j]? = some (h, o, c) := by unfold rowE; rw [List.getElem?_map, he]; rfl
            have hnext : rowsE rows h ++ (rowE rows h).take (j + 1) = rowsE rows h ++ (rowE rows h).take j ++ [(h, o, c)] := by rw [List.take_add_one, her, List.append_assoc]; rfl
            generalize hdn : rowsE rows h ++ (rowE rows h).take j = dn at g1 g3 hnext
            generalize hd : dn.foldl rx d = dj at g1
            have hstep := g3.step hmem
            rw [hd] at hstep
            rw [show prV (o, c) = .tup [.int (o : Nat), .int c] from rfl, wS_gtup (by rfl)]
            simp only [wS_gcons, wS_gname, wS_gnil, List.set_cons_zero, List.set_cons_succ]
            refine wS_mono (P := { nx := fun σ S' => σ = [some (.int (n : Nat)), some (.ref T), some (.int (g : Nat)), some (.ref N), some (.ref S1.length), some (.bl (match bet dj (h, o, c) with
              | some _ => true
              | none => f)), some (.int (h : Nat)), some (.int (o : Nat)), some (.int c)] ∧ S' = rxS S3 S1.length n dj (h, o, c) }) ?_ (fun σ S' ⟨e1, e2⟩ => ?_) (fun _ _ z => z.elim) (fun _ _ z => z.elim) (fun _ _ z => z.elim)
            · unfold rxS bet
              cases hdb : dj o with
              | none =>
                simp only [wE_ok, wE_bind, wS_seq, wS_next, wS_brk, wS_cont, wS_drop, wS_ret, wS_retN, wS_ifS, wS_asg, wS_gname, wS_gsub, wS_gnil, wS_gcons, wS_augI, wE_C, wE_nil, wE_cons, wE_tup, wE_lst, wE_op, wE_un, wE_cb, wE_isi, wE_isiT, wE_call, wE_g1, wE_g2, isB_bl, wE_tst, wE_not, wE_and, wE_or, wE_andV, wE_orV, wE_notV, wE_ifE, isI2_int, wE_int, wE_addI, wE_is, wE_mt, wE_mt0, wE_part, wE_noP, wE_sl, wE_chain, wS_for, wE_src, wE_seqI, wE_optI, wE_lc, wE_yes, wE_V0, wE_V1, wE_optR, wS_optS, wE_ix, ixW_lst, wE_get, gtW_lst, wGe1, wIx0, wIx1, wIx2, wIx3, wS_st, stW_lst, wSt0, wSt1, wSt2, wSt3, List.getElem?_cons_zero, List.getElem?_cons_succ, List.set_cons_zero, List.set_cons_succ, startM, List.map_cons, List.map_nil, List.length_cons, List.length_nil, List.replicate, List.cons_append, List.nil_append, List.set_set, g1, wIx_dl hi, wIx_dl ho, hdb, ov, isNonV, Bool.not_true, if_true, Bool.false_eq_true, if_false]
                exact ⟨trivial, trivial⟩
              | some y =>
                cases hda : dj h with
                | none =>
                  simp only [wE_ok, wE_bind, wS_seq, wS_next, wS_brk, wS_cont, wS_drop, wS_ret, wS_retN, wS_ifS, wS_asg, wS_gname, wS_gsub, wS_gnil, wS_gcons, wS_augI, wE_C, wE_nil, wE_cons, wE_tup, wE_lst, wE_op, wE_un, wE_cb, wE_isi, wE_isiT, wE_call, wE_g1, wE_g2, isB_bl, wE_tst, wE_not, wE_and, wE_or, wE_andV, wE_orV, wE_notV, wE_ifE, isI2_int, wE_int, wE_addI, wE_is, wE_mt, wE_mt0, wE_part, wE_noP, wE_sl, wE_chain, wS_for, wE_src, wE_seqI, wE_optI, wE_lc, wE_yes, wE_V0, wE_V1, wE_optR, wS_optS, wE_ix, ixW_lst, wE_get, gtW_lst, wGe1, wIx0, wIx1, wIx2, wIx3, wS_st, stW_lst, wSt0, wSt1, wSt2, wSt3, List.getElem?_cons_zero, List.getElem?_cons_succ, List.set_cons_zero, List.set_cons_succ, startM, List.map_cons, List.map_nil, List.length_cons, List.length_nil, List.replicate, List.cons_append, List.nil_append, List.set_set, g1, wIx_dl hi, wIx_dl ho, hdb, hda, ov, isNonV, Bool.not_true, Bool.not_false, if_true, Bool.false_eq_true, if_false, wSt_dl hi]
                  exact ⟨trivial, trivial⟩
                | some z =>
                  by_cases cz : y + c < z
                  · simp only [wE_ok, wE_bind, wS_seq, wS_next, wS_brk, wS_cont, wS_drop, wS_ret, wS_retN, wS_ifS, wS_asg, wS_gname, wS_gsub, wS_gnil, wS_gcons, wS_augI, wE_C, wE_nil, wE_cons, wE_tup, wE_lst, wE_op, wE_un, wE_cb, wE_isi, wE_isiT, wE_call, wE_g1, wE_g2, isB_bl, wE_tst, wE_not, wE_and, wE_or, wE_andV, wE_orV, wE_notV, wE_ifE, isI2_int, wE_int, wE_addI, wE_is, wE_mt, wE_mt0, wE_part, wE_noP, wE_sl, wE_chain, wS_for, wE_src, wE_seqI, wE_optI, wE_lc, wE_yes, wE_V0, wE_V1, wE_optR, wS_optS, wE_ix, ixW_lst, wE_get, gtW_lst, wGe1, wIx0, wIx1, wIx2, wIx3, wS_st, stW_lst, wSt0, wSt1, wSt2, wSt3, List.getElem?_cons_zero, List.getElem?_cons_succ, List.set_cons_zero, List.set_cons_succ, startM, List.map_cons, List.map_nil, List.length_cons, List.length_nil, List.replicate, List.cons_append, List.nil_append, List.set_set, g1, wIx_dl hi, wIx_dl ho, hdb, hda, ov, isNonV, Bool.not_true, Bool.not_false, if_true, Bool.false_eq_true, if_false, wSt_dl hi, cz, decide_true]
                    exact ⟨trivial, trivial⟩
                  · simp only [wE_ok, wE_bind, wS_seq, wS_next, wS_brk, wS_cont, wS_drop, wS_ret, wS_retN, wS_ifS, wS_asg, wS_gname, wS_gsub, wS_gnil, wS_gcons, wS_augI, wE_C, wE_nil, wE_cons, wE_tup, wE_lst, wE_op, wE_un, wE_cb, wE_isi, wE_isiT, wE_call, wE_g1, wE_g2, isB_bl, wE_tst, wE_not, wE_and, wE_or, wE_andV, wE_orV, wE_notV, wE_ifE, isI2_int, wE_int, wE_addI, wE_is, wE_mt, wE_mt0, wE_part, wE_noP, wE_sl, wE_chain, wS_for, wE_src, wE_seqI, wE_optI, wE_lc, wE_yes, wE_V0, wE_V1, wE_optR, wS_optS, wE_ix, ixW_lst, wE_get, gtW_lst, wGe1, wIx0, wIx1, wIx2, wIx3, wS_st, stW_lst, wSt0, wSt1, wSt2, wSt3, List.getElem?_cons_zero, List.getElem?_cons_succ, List.set_cons_zero, List.set_cons_succ, startM, List.map_cons, List.map_nil, List.length_cons, List.length_nil, List.replicate, List.cons_append, List.nil_append, List.set_set, g1, wIx_dl hi, wIx_dl ho, hdb, hda, ov, isNonV, Bool.not_true, Bool.not_false, if_true, Bool.false_eq_true, if_false, wSt_dl hi, cz, decide_false]
                    exact ⟨trivial, trivial⟩
            · subst e1 e2
              refine ⟨_, _, _, rfl, ?_, g2.new (rxS_fr (.inl (Nat.le_refl _))), ?_⟩
              · rw [hnext, List.foldl_append, hd]
                exact rxS_at g1
              · rw [hnext]
                exact hstep
          · rintro σ S3 ⟨f, q7, q8, rfl, g1, g2, g3⟩
            have e : (rowE rows h).take ((rows h).map prV).length = rowE rows h := List.take_of_length_le (by unfold rowE; simp)
            rw [e, ← rowsE_succ] at g1 g3
            exact ⟨f, _, _, _, rfl, g1, g2, g3⟩
        · rintro σ S2 ⟨f, q6, q7, q8, rfl, k1, k2, k3⟩
          rw [List.length_map, List.length_range] at k1 k3
          have all : ∀ e ∈ edA ts, e ∈ rowsE rows n := fun ⟨h, o, p⟩ he => rowsE_mem.mpr ⟨(hed _ he).1, (n3 h (hed _ he).1 o p).mpr he⟩
          have sub : ∀ e ∈ rowsE rows n, e ∈ edA ts := fun ⟨h, o, p⟩ he => by
            obtain ⟨a, b⟩ := rowsE_mem.mp he
            exact (n3 h a o p).mp b
          refine ⟨_, f, _, _, _, rfl, k1, k2, fold_sound _ _ sub h3, ?_⟩
          cases f with
          | false =>
            obtain ⟨e1, e2⟩ := k3.no rfl
            rw [e1]
            refine .inr ⟨rfl, fix_up (u4 0 g 0 (Nat.zero_le _) .nil) (fun e he => e2 e (all e he)) n⟩
          | true =>
            obtain ⟨e, he, hne⟩ := k3.yes rfl
            have hk : k < n := by
              by_cases z : k < n
              · exact z
              · have : k = n := by omega
                subst this
                exact absurd (best_fix hpos (fun e he => (hed e he).1) h3 u4 e he) hne
            exact .inl ⟨rfl, k + 1, turn_up u4 all, by omega, hk⟩
    · exact ⟨d0 g, true, none, none, none, rfl, get_last, Fr.app, d0_sound, .inl ⟨rfl, 0, d0_up, by omega, Nat.zero_le _⟩⟩
end Sx
end
/-! CmP4: equality of data; lists of prices and of ties as data. -/
noncomputable section
namespace Sx
open PySem L2 Gr
mutual
theorem okD_lay : ∀ d : PyData, okD d = true → d.canLay0 = true
  | .none, _ => by simp [PyData.canLay0]
  | .bool _, _ => by simp [PyData.canLay0]
  | .int _, _ => by simp [PyData.canLay0]
  | .str x, h => by unfold okD at h; exact h
  | .list xs, h => by
    unfold okD at h
    rw [Bool.and_eq_true] at h
    simp only [PyData.canLay0]
    exact okDs_lay xs h.2
  | .tuple xs, h => by
    unfold okD at h
    rw [Bool.and_eq_true] at h
    simp only [PyData.canLay0]
    exact okDs_lay xs h.2
  | .dict _, h => by unfold okD at h; cases h
theorem okDs_lay : ∀ ds : List PyData, okDs ds = true → PyData.canLayAll0 ds = true
  | [], _ => by simp [PyData.canLayAll0]
  | d :: ds, h => by
    unfold okDs at h
    rw [Bool.and_eq_true] at h
    simp only [PyData.canLayAll0, Bool.and_eq_true]
    exact ⟨okD_lay d h.1, okDs_lay ds h.2⟩
end
theorem depthAll_le {k : Nat} : ∀ {ds : List PyData}, (∀ d ∈ ds, d.depth ≤ k) → PyData.depthAll ds ≤ k
  | [], _ => by simp [PyData.depthAll]
  | d :: ds, h => by
    simp only [PyData.depthAll]
    have h1 := h d List.mem_cons_self
    have h2 := depthAll_le (k := k) (ds := ds) fun x hx => h x (List.mem_cons_of_mem _ hx)
    omega
theorem mapM_mem {α β : Type} {f : α → Option β} {xs : List α} {ys : List β} (h : xs.mapM f = some ys) {y : β} (hy : y ∈ ys) : ∃ x, x ∈ xs ∧ f x = some y := by
  obtain ⟨l, g⟩ := mapM_get h
  obtain ⟨i, hi, e⟩ := List.mem_iff_getElem.mp hy
  have hx : i < xs.length := by omega
  obtain ⟨z, h1, h2⟩ := g i xs[i] (List.getElem?_eq_getElem hx)
  rw [List.getElem?_eq_getElem hi, e] at h1
  cases h1
  exact ⟨_, List.getElem_mem hx, h2⟩
theorem dtA_depth {S : Sto} : ∀ (n : Nat) (x : VV) (d : PyData), dtA S n x = some d → d.depth ≤ n
  | n, x, .none, _ => by simp [PyData.depth]
  | n, x, .bool _, _ => by simp [PyData.depth]
  | n, x, .int _, _ => by simp [PyData.depth]
  | n, x, .str _, _ => by simp [PyData.depth]
  | n, x, .dict _, h => absurd h dtA_no_dict
  | n, x, .list ds, h => by
    obtain ⟨m, k, xs, rfl, rfl, h1, h2⟩ := dtA_list h
    simp only [PyData.depth]
    have := depthAll_le (k := m) (ds := ds) fun d hd => by
      obtain ⟨y, _, hy⟩ := mapM_mem h2 hd
      exact dtA_depth m y d hy
    omega
  | n, x, .tuple ds, h => by
    obtain ⟨m, xs, rfl, rfl, h2⟩ := dtA_tuple h
    simp only [PyData.depth]
    have := depthAll_le (k := m) (ds := ds) fun d hd => by
      obtain ⟨y, _, hy⟩ := mapM_mem h2 hd
      exact dtA_depth m y d hy
    omega
theorem dtA_shaped {S : Sto} {n : Nat} {x : VV} {d : PyData} (h : dtA S n x = some d) (hn : n ≤ 8) (ok : okD d = true) : SeqAt.shaped d = true := by
  unfold SeqAt.shaped
  rw [okD_lay d ok, Bool.true_and]
  have := dtA_depth n x d h
  exact decide_eq_true (by omega)
theorem wE_eqA {Q : VV → Sto → Prop} {S : Sto} {neg : Bool} {n m : Nat} {x y : VV} {d e : PyData} (h1 : dtA S n x = some d) (h2 : dtA S m y = some e) (hn : n ≤ 8) (hm : m ≤ 8) (o1 : okD d = true) (o2 : okD e = true) :
    wE (gEq neg x y S) Q = Q (.bl (if neg = true then !(PyData.eqv d e) else PyData.eqv d e)) S := wE_eqD (dtA_dat n 8 x d hn h1) (dtA_dat m 8 y e hm h2) (dtA_shaped h1 hn o1) (dtA_shaped h2 hm o2)
theorem okDs_all {ds : List PyData} (h : ∀ d ∈ ds, okD d = true) : okDs ds = true := by
  induction ds with
  | nil => rfl
  | cons d ds ih =>
    unfold okDs
    rw [h d List.mem_cons_self, ih fun x hx => h x (List.mem_cons_of_mem _ hx)]
    rfl
theorem mapM_map {α β γ : Type} {f : α → β} {g : β → Option γ} {h : α → γ} : ∀ {xs : List α}, (∀ x ∈ xs, g (f x) = some (h x)) → (xs.map f).mapM g = some (xs.map h)
  | [], _ => by simp
  | x :: xs, k => by
    rw [List.map_cons, List.mapM_cons, k x List.mem_cons_self, mapM_map fun y hy => k y (List.mem_cons_of_mem _ hy)]
    simp
theorem okD_list {ds : List PyData} (h : ds.length ≤ 1000) (k : ∀ d ∈ ds, okD d = true) : okD (.list ds) = true := by
  unfold okD
  rw [okDs_all k, decide_eq_true h]
  rfl
/-- a flat list of items that are data by themselves -/
theorem dtA_flat {α : Type} {S : Sto} {k n : Nat} {xs : List α} {f : α → VV} {g : α → PyData} (h : S[k]? = some (.lst (xs.map f))) (hd : ∀ x ∈ xs, dtA S n (f x) = some (g x)) : dtA S (n + 1) (.ref k) = some (.list (xs.map g)) := by
  unfold dtA
  rw [h]
  dsimp only
  rw [mapM_map hd]
  rfl
def od : Option Int → PyData
  | none => .none
  | some x => .int x
theorem ov_dt {S : Sto} {n : Nat} (o : Option Int) : dtA S n (ov o) = some (od o) := by
  cases o <;> (unfold ov od dtA; rfl)
theorem od_ok (o : Option Int) : okD (od o) = true := by cases o <;> rfl
def ddl (n : Nat) (d : Di) : PyData := .list ((List.range n).map fun h => od (d h))
theorem dl_dt {S : Sto} {k n m : Nat} {d : Di} (h : S[k]? = some (.lst (dl n d))) : dtA S (m + 1) (.ref k) = some (ddl n d) := dtA_flat h fun x _ => ov_dt _
theorem ddl_ok {n : Nat} {d : Di} (h : n ≤ 1000) : okD (ddl n d) = true := okD_list (by simp; omega) fun x hx => by
  obtain ⟨y, _, rfl⟩ := List.mem_map.mp hx
  exact od_ok _
def tieD (t : Tie) : PyData := .tuple [.int (t.1 : Nat), .int (t.2.1 : Nat), .int (t.2.2 : Nat)]
theorem tie_dt {S : Sto} {n : Nat} (t : Tie) : dtA S (n + 1) (tieV t) = some (tieD t) := by
  unfold tieV tieD dtA
  simp [dtA]
theorem tieD_ok (t : Tie) : okD (tieD t) = true := by unfold tieD okD; rfl
theorem ties_dt {S : Sto} {k m : Nat} {ts : List Tie} (h : S[k]? = some (.lst (ts.map tieV))) : dtA S (m + 2) (.ref k) = some (.list (ts.map tieD)) := dtA_flat h fun x _ => tie_dt x
theorem ties_ok {ts : List Tie} (h : ts.length ≤ 1000) : okD (.list (ts.map tieD)) = true := okD_list (by simpa using h) fun x hx => by
  obtain ⟨y, _, rfl⟩ := List.mem_map.mp hx
  exact tieD_ok _
end Sx
end
/-! NextP: filtered blocks; the next house. -/
noncomputable section
namespace Sx
open PySem L2 Gr
/-- a block with a test, its items lay nothing -/
theorem lc_fm {Q : VV → Sto → Prop} {σ : Sg} {S : Sto} {ok : Sto → Prop} {items : List VV} {g : GM} {t : TM} {e : EM} (p : VV → Bool) (f : VV → VV) (hl : items.length ≤ 100000) (hok : ∀ acc, ok (S ++ [.lst acc]))
    (step : ∀ x acc, x ∈ items → wG (g x σ (S ++ [.lst acc])) fun σ2 S2 => S2 = S ++ [.lst acc] ∧ wE (t σ2 S2) fun c S3 => c = p x ∧ S3 = S2 ∧ (p x = true → wE (e σ2 S3) fun y S4 => y = f x ∧ S4 = S3))
    (h : Q (.ref S.length) (S ++ [.lst ((items.filter p).map f)])) : wE (lcL ok g t e σ S.length items (S ++ [.lst []])) Q := by
  refine lcL_inv (fun i S' => S' = S ++ [.lst (((items.take i).filter p).map f)]) rfl (fun i S' e => ?_) (fun i x S' hx e => ?_) fun S' e => ?_
  · rw [e]; exact hok _
  · subst e
    obtain ⟨hi, hxe⟩ := List.getElem?_eq_some_iff.mp hx
    refine wS_mono (step x _ (List.mem_of_getElem? hx)) (fun σ2 S2 ⟨e2, h2⟩ => wE_mono h2 fun c S3 ⟨e3, e4, h3⟩ => ?_) (fun _ _ z => z) (fun _ _ z => z) (fun _ _ z => z)
    have ht : items.take (i + 1) = items.take i ++ [x] := by rw [List.take_add_one, hx]; rfl
    subst e3
    cases hp : p x with
    | true =>
      rw [if_pos rfl]
      refine wE_mono (h3 hp) fun y S4 ⟨e5, e6⟩ => ?_
      subst e6 e4 e2 e5
      refine ⟨_, get_last, ?_, ?_⟩
      · rw [List.length_map]
        exact Nat.lt_of_le_of_lt (List.length_filter_le _ _) (by rw [List.length_take]; omega)
      · rw [set_last, ht, List.filter_append, List.map_append]
        simp [hp]
    | false =>
      rw [if_neg (by decide)]
      subst e4 e2
      rw [ht, List.filter_append]
      simp [hp]
  · rw [e, List.take_length]
    exact h
end Sx
namespace Gr
/-- b is a house next to h that is just so much nearer -/
def Cand (E : List Ed) (d : Di) (h b : Nat) : Prop := ∃ c y, (h, b, c) ∈ E ∧ d b = some y ∧ d h = some (y + c)
/-- the next house, if there is one: the least of these -/
def IsNext (E : List Ed) (d : Di) (h : Nat) (o : Option Nat) : Prop := match o with
  | none => ∀ b, ¬ Cand E d h b
  | some b => Cand E d h b ∧ ∀ b', Cand E d h b' → b ≤ b'
theorem next_eq {E : List Ed} {d : Di} {h : Nat} {o o' : Option Nat} (a : IsNext E d h o) (b : IsNext E d h o') : o = o' := by
  cases o with
  | none =>
    cases o' with
    | none => rfl
    | some y => exact absurd b.1 (a y)
  | some x =>
    cases o' with
    | none => exact absurd a.1 (b x)
    | some y =>
      have h1 := a.2 y b.1
      have h2 := b.2 x a.1
      congr 1
      omega
theorem next_same {E E' : List Ed} {d : Di} {h : Nat} {o : Option Nat} (he : ∀ e, e ∈ E ↔ e ∈ E') (a : IsNext E d h o) : IsNext E' d h o := by
  have c : ∀ b, Cand E d h b ↔ Cand E' d h b := fun b => ⟨fun ⟨x, y, z⟩ => ⟨x, y, (he _).mp z.1, z.2⟩, fun ⟨x, y, z⟩ => ⟨x, y, (he _).mpr z.1, z.2⟩⟩
  cases o with
  | none => exact fun b z => a b ((c b).mpr z)
  | some x => exact ⟨(c x).mp a.1, fun b z => a.2 b ((c b).mpr z)⟩
theorem Wk.same {E E' : List Ed} {g k a : Nat} {x : Int} (he : ∀ e ∈ E, e ∈ E') (w : Wk E g k a x) : Wk E' g k a x := by
  induction w with
  | nil => exact .nil
  | cons h _ ih => exact .cons (he _ h) ih
theorem Sound.same {E E' : List Ed} {g : Nat} {d : Di} (he : ∀ e ∈ E, e ∈ E') (s : Sound E g d) : Sound E' g d := fun h x e => by
  obtain ⟨k, w⟩ := s h x e
  exact ⟨k, w.same he⟩
theorem UpTo.same {E E' : List Ed} {g n : Nat} {d : Di} (he : ∀ e ∈ E', e ∈ E) (u : UpTo E g n d) : UpTo E' g n d := fun j h x hj w => u j h x hj (w.same he)
theorem Wk.nonneg {E : List Ed} {g k a : Nat} {x : Int} (hc : ∀ e ∈ E, 0 ≤ e.2.2) (w : Wk E g k a x) : 0 ≤ x := by
  induction w with
  | nil => exact Int.le_refl 0
  | cons h _ ih => have := hc _ h; dsimp only at this; omega
/-- the goal has no next house -/
theorem goal_next {E : List Ed} {g n : Nat} {d : Di} (hc : ∀ e ∈ E, 1 ≤ e.2.2) (s : Sound E g d) (u : UpTo E g n d) : ∀ b, ¬ Cand E d g b := fun b ⟨c, y, h1, h2, h3⟩ => by
  obtain ⟨z, q1, q2⟩ := lim_ex (u 0 g 0 (Nat.zero_le _) .nil)
  obtain ⟨k, w⟩ := s b y h2
  have := w.nonneg fun e he => Int.le_trans (by decide) (hc e he)
  have := hc _ h1
  rw [h3] at q1
  cases q1
  dsimp only at this
  omega
end Gr
namespace Sx
open PySem L2 Gr
def no : Option Nat → VV
  | none => .non
  | some x => .int (x : Nat)
/-- does the program take this neighbour -/
def pn (d : Di) (g h : Nat) (q : Pr) : Bool := !(((h : Nat) : Int) == ((g : Nat) : Int)) && (match d h with
  | some z => (match d q.1 with
    | some y => (y + q.2 == z)
    | none => false)
  | none => false)
def pnV (d : Di) (g h : Nat) : VV → Bool
  | .tup [.int o, .int c] => pn d g h (o.toNat, c)
  | _ => false
def fstV : VV → VV
  | .tup [x, _] => x
  | _ => .non
theorem pn_cand {E : List Ed} {d : Di} {g h n : Nat} {rows : List Pr} (hc : ∀ e ∈ E, 1 ≤ e.2.2) (s : Sound E g d) (u : UpTo E g n d) (hr : ∀ o p, (o, p) ∈ rows ↔ (h, o, p) ∈ E) (b : Nat) : Cand E d h b ↔ ∃ c, (b, c) ∈ rows ∧ pn d g h (b, c) = true := by
  constructor
  · rintro ⟨c, y, h1, h2, h3⟩
    refine ⟨c, (hr b c).mpr h1, ?_⟩
    unfold pn
    rw [h3]
    dsimp only
    rw [h2]
    have hne : h ≠ g := fun e => by
      subst e
      exact goal_next hc s u b ⟨c, y, h1, h2, h3⟩
    have : (((h : Nat) : Int) == ((g : Nat) : Int)) = false := beq_false_of_ne (by omega)
    rw [this]
    simp
  · rintro ⟨c, h1, h2⟩
    unfold pn at h2
    rw [Bool.and_eq_true] at h2
    obtain ⟨_, h2⟩ := h2
    cases e1 : d h with
    | none => rw [e1] at h2; cases h2
    | some z =>
      rw [e1] at h2
      dsimp only at h2
      cases e2 : d b with
      | none => rw [e2] at h2; cases h2
      | some y =>
        rw [e2] at h2
        have := eq_of_beq h2
        exact ⟨c, y, (hr b c).mp h1, e2, by rw [e1, ← this]⟩
/-- the first of the sorted row's takes is the next house -/
theorem first_next {E : List Ed} {d : Di} {g h n : Nat} {rows : List Pr} (hc : ∀ e ∈ E, 1 ≤ e.2.2) (s : Sound E g d) (u : UpTo E g n d) (hr : ∀ o p, (o, p) ∈ rows ↔ (h, o, p) ∈ E) (srt : PrSrt rows) :
    IsNext E d h ((rows.filter (pn d g h)).head?.map (·.1)) := by
  cases e : rows.filter (pn d g h) with
  | nil =>
    intro b hb
    obtain ⟨c, h1, h2⟩ := (pn_cand hc s u hr b).mp hb
    have : (b, c) ∈ rows.filter (pn d g h) := List.mem_filter.mpr ⟨h1, h2⟩
    rw [e] at this
    cases this
  | cons q qs =>
    have hq : q ∈ rows.filter (pn d g h) := by rw [e]; exact List.mem_cons_self
    obtain ⟨k1, k2⟩ := List.mem_filter.mp hq
    refine ⟨(pn_cand hc s u hr q.1).mpr ⟨q.2, k1, k2⟩, fun b' hb => ?_⟩
    obtain ⟨c, h1, h2⟩ := (pn_cand hc s u hr b').mp hb
    have hm : (b', c) ∈ rows.filter (pn d g h) := List.mem_filter.mpr ⟨h1, h2⟩
    have hs := List.Pairwise.filter (pn d g h) srt
    rw [e] at hm hs
    rcases List.mem_cons.mp hm with z | z
    · rw [← z]
      exact Nat.le_refl _
    · exact (List.pairwise_cons.mp hs).1 _ z
end Sx
end
/-! NextQ: nexts. -/
noncomputable section
namespace Sx
open PySem L2 Gr
theorem edA_one {ts : List Tie} (h : ∀ t ∈ ts, 1 ≤ t.2.2) : ∀ e ∈ edA ts, 1 ≤ e.2.2 := fun e he => by
  obtain ⟨t, ht, hh⟩ := edA_mem.mp he
  have := h t ht
  rcases hh with rfl | rfl
  · show (1 : Int) ≤ (t.2.2 : Nat); omega
  · show (1 : Int) ≤ (t.2.2 : Nat); omega
theorem edA_sym {ts : List Tie} {a b : Nat} {c : Int} (h : (a, b, c) ∈ edA ts) : (b, a, c) ∈ edA ts := by
  obtain ⟨t, ht, hh⟩ := edA_mem.mp h
  rcases hh with hh | hh
  · cases hh
    exact edA_mem.mpr ⟨t, ht, .inr rfl⟩
  · cases hh
    exact edA_mem.mpr ⟨t, ht, .inl rfl⟩
/-- a house next to a reached one is reached -/
theorem near_some {ts : List Tie} {g n h o : Nat} {c x : Int} {d : Di} (hc : ∀ e ∈ edA ts, 0 ≤ e.2.2) (hn : ∀ e ∈ edA ts, e.1 < n) (s : Sound (edA ts) g d) (u : UpTo (edA ts) g n d) (he : (h, o, c) ∈ edA ts) (hx : d h = some x) : ∃ y, d o = some y := by
  obtain ⟨k, w⟩ := s h x hx
  obtain ⟨j, z, h1, h2, h3⟩ := short hc hn (Wk.cons (edA_sym he) w)
  obtain ⟨y, h4, _⟩ := lim_ex (u j o z h1 h3)
  exact ⟨y, h4⟩
theorem nexts_w {S : Sto} {T n g : Nat} {ts : List Tie} (hT : S[T]? = some (.lst (ts.map tieV))) (hts : ∀ t ∈ ts, t.1 < n ∧ t.2.1 < n) (h1t : ∀ t ∈ ts, 1 ≤ t.2.2) (hg : g < n) (hn : n ≤ 20) (hl : ts.length ≤ 100) :
    wE (Cm.m_nexts [.int (n : Nat), .ref T, .int (g : Nat)] S) fun v S' => ∃ (r : Nat) (d : Di) (nx : Nat → Option Nat), v = .ref r ∧ S'[r]? = some (.lst ((List.range n).map fun h => no (nx h))) ∧ Sound (edA ts) g d ∧ UpTo (edA ts) g n d ∧ (∀ h, h < n → IsNext (edA ts) d h (nx h)) ∧ S.length ≤ r ∧ Fr No S S' := by
  unfold Cm.m_nexts
  rw [wE_fn (by rfl)]
  simp only [wS_seq, wS_asg, wE_call, wE_cons, wE_nil, wE_V0, wE_V1, wS_gname, List.set_cons_zero, List.set_cons_succ, startM, List.map_cons, List.map_nil, List.length_cons, List.length_nil, List.replicate, List.cons_append, List.nil_append]
  refine wE_mono (far_w hT hts hg hn hl) fun v S1 ⟨q, d, hv, q1, q2, q3, q4, f1⟩ => ?_
  subst hv
  refine wE_mono (beside_w (f1.at_ hT fun z => z) hts hn hl) fun v S2 ⟨N, rows, hv, ⟨r, n1, n2, n3, n4⟩, hN, f2⟩ => ?_
  subst hv
  have hed := edA_lt hts
  have hpos := edA_pos (ts := ts)
  have hone := edA_one h1t
  have t2 := f2.at_ q1 (fun z => z)
  simp only [wE_ok, wE_bind, wS_seq, wS_next, wS_brk, wS_cont, wS_drop, wS_ret, wS_retN, wS_ifS, wS_asg, wS_gname, wS_gsub, wS_gnil, wS_gcons, wS_augI, wE_C, wE_nil, wE_cons, wE_tup, wE_lst, wE_op, wE_un, wE_cb, wE_isi, wE_isiT, wE_call, wE_g1, wE_g2, isB_bl, wE_tst, wE_not, wE_and, wE_or, wE_andV, wE_orV, wE_notV, wE_ifE, isI2_int, wE_int, wE_addI, wE_is, wE_mt, wE_mt0, wE_part, wE_noP, wE_sl, wE_chain, wS_for, wE_src, wE_seqI, wE_optI, wE_lc, wE_yes, wE_V0, wE_V1, wE_optR, wS_optS, wE_ix, ixW_lst, wE_get, gtW_lst, wGe1, wIx0, wIx1, wIx2, wIx3, wS_st, stW_lst, wSt0, wSt1, wSt2, wSt3, List.getElem?_cons_zero, List.getElem?_cons_succ, List.set_cons_zero, List.set_cons_succ, startM, List.map_cons, List.map_nil, List.length_cons, List.length_nil, List.replicate, List.cons_append, List.nil_append, List.set_set, Nat.zero_le, if_true, rng1_nat (show n ≤ 1000000 by omega)]
  refine forL_inv (fun i σ S' => ∃ (nx : Nat → Option Nat) (o6 o7 o8 o9 : Option VV), σ = [some (.int (n : Nat)), some (.ref T), some (.int (g : Nat)), some (.ref q), some (.ref N), some (.ref S2.length), o6, o7, o8, o9] ∧ S'[S2.length]? = some (.lst ((List.range i).map fun h => no (nx h))) ∧ (∀ h, h < i → IsNext (edA ts) d h (nx h)) ∧ Fr No S2 S') ?_ ?_ ?_ ?_
  · exact ⟨fun _ => none, none, none, none, none, rfl, get_last, fun h hh => absurd hh (Nat.not_lt_zero _), Fr.app⟩
  · intro _ _ _ _
    trivial
  · rintro i x σ S3 hx ⟨nx, o6, o7, o8, o9, rfl, k1, k2, k3⟩
    rw [List.getElem?_map] at hx
    obtain ⟨h, hh, rfl⟩ := Option.map_eq_some_iff.mp hx
    obtain ⟨hi, rfl⟩ := range_at hh
    have hN3 := k3.at_ n1 (fun z => z)
    have hr3 := k3.at_ (n2 h hi) (fun z => z)
    have ht3 := k3.at_ t2 (fun z => z)
    have ixr : ∀ (Q : VV → Prop), wIx ((List.range n).map fun h => VV.ref (r h)) (.int (h : Nat)) Q = Q (.ref (r h)) := fun Q => wIx_nat (by omega) (by rw [Int.toNat_natCast, List.getElem?_map, List.getElem?_range hi]; rfl)
    simp only [wE_ok, wE_bind, wS_seq, wS_next, wS_brk, wS_cont, wS_drop, wS_ret, wS_retN, wS_ifS, wS_asg, wS_gname, wS_gsub, wS_gnil, wS_gcons, wS_augI, wE_C, wE_nil, wE_cons, wE_tup, wE_lst, wE_op, wE_un, wE_cb, wE_isi, wE_isiT, wE_call, wE_g1, wE_g2, isB_bl, wE_tst, wE_not, wE_and, wE_or, wE_andV, wE_orV, wE_notV, wE_ifE, isI2_int, wE_int, wE_addI, wE_is, wE_mt, wE_mt0, wE_part, wE_noP, wE_sl, wE_chain, wS_for, wE_src, wE_seqI, wE_optI, wE_lc, wE_yes, wE_V0, wE_V1, wE_optR, wS_optS, wE_ix, ixW_lst, wE_get, gtW_lst, wGe1, wIx0, wIx1, wIx2, wIx3, wS_st, stW_lst, wSt0, wSt1, wSt2, wSt3, List.getElem?_cons_zero, List.getElem?_cons_succ, List.set_cons_zero, List.set_cons_succ, startM, List.map_cons, List.map_nil, List.length_cons, List.length_nil, List.replicate, List.cons_append, List.nil_append, List.set_set, hN3, ixr]
    rw [srcOf_ref hr3]
    simp only [wE_ok, wE_bind, wS_seq, wS_next, wS_brk, wS_cont, wS_drop, wS_ret, wS_retN, wS_ifS, wS_asg, wS_gname, wS_gsub, wS_gnil, wS_gcons, wS_augI, wE_C, wE_nil, wE_cons, wE_tup, wE_lst, wE_op, wE_un, wE_cb, wE_isi, wE_isiT, wE_call, wE_g1, wE_g2, isB_bl, wE_tst, wE_not, wE_and, wE_or, wE_andV, wE_orV, wE_notV, wE_ifE, isI2_int, wE_int, wE_addI, wE_is, wE_mt, wE_mt0, wE_part, wE_noP, wE_sl, wE_chain, wS_for, wE_src, wE_seqI, wE_optI, wE_lc, wE_yes, wE_V0, wE_V1, wE_optR, wS_optS, wE_ix, ixW_lst, wE_get, gtW_lst, wGe1, wIx0, wIx1, wIx2, wIx3, wS_st, stW_lst, wSt0, wSt1, wSt2, wSt3, List.getElem?_cons_zero, List.getElem?_cons_succ, List.set_cons_zero, List.set_cons_succ, startM, List.map_cons, List.map_nil, List.length_cons, List.length_nil, List.replicate, List.cons_append, List.nil_append, List.set_set, wipeM]
    have hrl : (rows h).length ≤ 100000 := Nat.le_trans (n4 h hi).2 (by decide)
    refine lc_fm (pnV d g h) fstV (by rw [List.length_map]; exact hrl) (fun acc => by rw [List.getElem?_append_left (lt_of_at hr3)]; exact hr3) (fun y acc hy => ?_) ?_
    · obtain ⟨⟨o, c⟩, hm, rfl⟩ := List.mem_map.mp hy
      have hE := (n3 h hi o c).mp hm
      have ho : o < n := (hed _ hE).2
      have ht4 : (S3 ++ [OO.lst acc])[q]? = some (.lst (dl n d)) := by rw [List.getElem?_append_left (lt_of_at ht3)]; exact ht3
      have ep : pnV d g h (prV (o, c)) = pn d g h (o, c) := rfl
      rw [ep]
      rw [show prV (o, c) = .tup [.int (o : Nat), .int c] from rfl]
      unfold wG
      rw [wS_gtup (by rfl)]
      by_cases hgh : h = g
      · subst hgh
        simp only [wE_ok, wE_bind, wS_seq, wS_next, wS_brk, wS_cont, wS_drop, wS_ret, wS_retN, wS_ifS, wS_asg, wS_gname, wS_gsub, wS_gnil, wS_gcons, wS_augI, wE_C, wE_nil, wE_cons, wE_tup, wE_lst, wE_op, wE_un, wE_cb, wE_isi, wE_isiT, wE_call, wE_g1, wE_g2, isB_bl, wE_tst, wE_not, wE_and, wE_or, wE_andV, wE_orV, wE_notV, wE_ifE, isI2_int, wE_int, wE_addI, wE_is, wE_mt, wE_mt0, wE_part, wE_noP, wE_sl, wE_chain, wS_for, wE_src, wE_seqI, wE_optI, wE_lc, wE_yes, wE_V0, wE_V1, wE_optR, wS_optS, wE_ix, ixW_lst, wE_get, gtW_lst, wGe1, wIx0, wIx1, wIx2, wIx3, wS_st, stW_lst, wSt0, wSt1, wSt2, wSt3, List.getElem?_cons_zero, List.getElem?_cons_succ, List.set_cons_zero, List.set_cons_succ, startM, List.map_cons, List.map_nil, List.length_cons, List.length_nil, List.replicate, List.cons_append, List.nil_append, List.set_set, wE_eqI, beq_self_eq_true, if_true, Bool.not_true, Bool.false_eq_true, if_false]
        have e0 : pn d h h (o, c) = false := by unfold pn; simp
        rw [e0]
        exact ⟨by first | trivial | rfl, by first | trivial | rfl, by first | trivial | rfl, fun z => by cases z⟩
      · have e1 : (((h : Nat) : Int) == ((g : Nat) : Int)) = false := beq_false_of_ne (by omega)
        unfold pn
        cases hd : d h with
        | none =>
          simp only [wE_ok, wE_bind, wS_seq, wS_next, wS_brk, wS_cont, wS_drop, wS_ret, wS_retN, wS_ifS, wS_asg, wS_gname, wS_gsub, wS_gnil, wS_gcons, wS_augI, wE_C, wE_nil, wE_cons, wE_tup, wE_lst, wE_op, wE_un, wE_cb, wE_isi, wE_isiT, wE_call, wE_g1, wE_g2, isB_bl, wE_tst, wE_not, wE_and, wE_or, wE_andV, wE_orV, wE_notV, wE_ifE, isI2_int, wE_int, wE_addI, wE_is, wE_mt, wE_mt0, wE_part, wE_noP, wE_sl, wE_chain, wS_for, wE_src, wE_seqI, wE_optI, wE_lc, wE_yes, wE_V0, wE_V1, wE_optR, wS_optS, wE_ix, ixW_lst, wE_get, gtW_lst, wGe1, wIx0, wIx1, wIx2, wIx3, wS_st, stW_lst, wSt0, wSt1, wSt2, wSt3, List.getElem?_cons_zero, List.getElem?_cons_succ, List.set_cons_zero, List.set_cons_succ, startM, List.map_cons, List.map_nil, List.length_cons, List.length_nil, List.replicate, List.cons_append, List.nil_append, List.set_set, wE_eqI, e1, if_true, Bool.not_false, Bool.false_eq_true, if_false, ht4, wIx_dl hi, hd, ov, isNonV, Bool.not_true]
          exact ⟨by first | trivial | rfl, by first | trivial | rfl, by first | trivial | rfl, fun z => by simp at z⟩
        | some z =>
          obtain ⟨w, hw⟩ := near_some hpos (fun e he => (hed e he).1) q2 q3 hE hd
          simp only [wE_ok, wE_bind, wS_seq, wS_next, wS_brk, wS_cont, wS_drop, wS_ret, wS_retN, wS_ifS, wS_asg, wS_gname, wS_gsub, wS_gnil, wS_gcons, wS_augI, wE_C, wE_nil, wE_cons, wE_tup, wE_lst, wE_op, wE_un, wE_cb, wE_isi, wE_isiT, wE_call, wE_g1, wE_g2, isB_bl, wE_tst, wE_not, wE_and, wE_or, wE_andV, wE_orV, wE_notV, wE_ifE, isI2_int, wE_int, wE_addI, wE_is, wE_mt, wE_mt0, wE_part, wE_noP, wE_sl, wE_chain, wS_for, wE_src, wE_seqI, wE_optI, wE_lc, wE_yes, wE_V0, wE_V1, wE_optR, wS_optS, wE_ix, ixW_lst, wE_get, gtW_lst, wGe1, wIx0, wIx1, wIx2, wIx3, wS_st, stW_lst, wSt0, wSt1, wSt2, wSt3, List.getElem?_cons_zero, List.getElem?_cons_succ, List.set_cons_zero, List.set_cons_succ, startM, List.map_cons, List.map_nil, List.length_cons, List.length_nil, List.replicate, List.cons_append, List.nil_append, List.set_set, wE_eqI, e1, if_true, Bool.not_false, Bool.false_eq_true, if_false, ht4, wIx_dl hi, wIx_dl ho, hd, hw, ov, isNonV, Bool.not_true]
          exact ⟨by first | trivial | rfl, by simp, by first | trivial | rfl, fun _ => ⟨by first | trivial | rfl, by first | trivial | rfl⟩⟩
    · have em : (((rows h).map prV).filter (pnV d g h)).map fstV = ((rows h).filter (pn d g h)).map fun q => VV.int (q.1 : Nat) := by
        rw [List.filter_map, List.map_map]
        rfl
      rw [em]
      have hnext := first_next hone q2 q3 (n3 h hi) (n4 h hi).1
      have k1' : (S3 ++ [OO.lst (((rows h).filter (pn d g h)).map fun q => VV.int (q.1 : Nat))])[S2.length]? = some (.lst ((List.range h).map fun h => no (nx h))) := by rw [List.getElem?_append_left (lt_of_at k1)]; exact k1
      generalize hS4 : S3 ++ [OO.lst (((rows h).filter (pn d g h)).map fun q => VV.int (q.1 : Nat))] = S4 at k1'
      have l4 : S4[S3.length]? = some (.lst (((rows h).filter (pn d g h)).map fun q => VV.int (q.1 : Nat))) := by rw [← hS4]; exact get_last
      have f4 : Fr No S2 S4 := k3.trans (by rw [← hS4]; exact Fr.app)
      have fin : ∀ (w : Option Nat), IsNext (edA ts) d h w → ∀ o : Option VV, ∃ (nx' : Nat → Option Nat) (p6 p7 p8 p9 : Option VV), [some (.int (n : Nat)), some (.ref T), some (.int (g : Nat)), some (.ref q), some (.ref N), some (.ref S2.length), some (VV.int (h : Nat)), o, o8, o9] = [some (.int (n : Nat)), some (.ref T), some (.int (g : Nat)), some (.ref q), some (.ref N), some (.ref S2.length), p6, p7, p8, p9] ∧ (S4.set S2.length (.lst (((List.range h).map fun h => no (nx h)) ++ [no w])))[S2.length]? = some (.lst ((List.range (h + 1)).map fun h => no (nx' h))) ∧ (∀ i, i < h + 1 → IsNext (edA ts) d i (nx' i)) ∧ Fr No S2 (S4.set S2.length (.lst (((List.range h).map fun h => no (nx h)) ++ [no w]))) := fun w hw o => by
        refine ⟨fun i => if i = h then w else nx i, _, _, _, _, rfl, ?_, fun i hi' => ?_, f4.new (Fr.set (.inl (Nat.le_refl _)))⟩
        · rw [set_at k1', List.range_succ, List.map_append]
          have e1 : ((List.range h).map fun i => no (if i = h then w else nx i)) = (List.range h).map fun i => no (nx i) := List.map_congr_left fun i hi' => by
            have := List.mem_range.mp hi'
            rw [if_neg (by omega)]
          show some (OO.lst (_ ++ [no w])) = some (OO.lst (((List.range h).map fun i => no (if i = h then w else nx i)) ++ [no (if h = h then w else nx h)]))
          rw [e1, if_pos rfl]
        · by_cases e : i = h
          · subst e
            dsimp only
            rw [if_pos rfl]
            exact hw
          · dsimp only
            rw [if_neg e]
            exact k2 i (by omega)
      have kl : (((List.range h).map fun h => no (nx h))).length < 100000 := by rw [List.length_map, List.length_range]; omega
      cases e : (rows h).filter (pn d g h) with
      | nil =>
        rw [e] at l4 hnext
        simp only [wE_ok, wE_bind, wS_seq, wS_next, wS_brk, wS_cont, wS_drop, wS_ret, wS_retN, wS_ifS, wS_asg, wS_gname, wS_gsub, wS_gnil, wS_gcons, wS_augI, wE_C, wE_nil, wE_cons, wE_tup, wE_lst, wE_op, wE_un, wE_cb, wE_isi, wE_isiT, wE_call, wE_g1, wE_g2, isB_bl, wE_tst, wE_not, wE_and, wE_or, wE_andV, wE_orV, wE_notV, wE_ifE, isI2_int, wE_int, wE_addI, wE_is, wE_mt, wE_mt0, wE_part, wE_noP, wE_sl, wE_chain, wS_for, wE_src, wE_seqI, wE_optI, wE_lc, wE_yes, wE_V0, wE_V1, wE_optR, wS_optS, wE_ix, ixW_lst, wE_get, gtW_lst, wGe1, wIx0, wIx1, wIx2, wIx3, wS_st, stW_lst, wSt0, wSt1, wSt2, wSt3, List.getElem?_cons_zero, List.getElem?_cons_succ, List.set_cons_zero, List.set_cons_succ, startM, List.map_cons, List.map_nil, List.length_cons, List.length_nil, List.replicate, List.cons_append, List.nil_append, List.set_set, tyB_ref k1', wE_lenL l4, if_true, wE_gt, Int.lt_irrefl, decide_false, Bool.false_eq_true, if_false, Int.ofNat_zero]
        rw [wE_append k1' kl]
        have z := fin none hnext (some (VV.ref S3.length))
        rw [show no none = VV.non from rfl] at z
        exact z
      | cons qq qs =>
        rw [e] at l4 hnext
        have hpos2 : (0 : Int) < ((qs.length + 1 : Nat) : Int) := by omega
        simp only [wE_ok, wE_bind, wS_seq, wS_next, wS_brk, wS_cont, wS_drop, wS_ret, wS_retN, wS_ifS, wS_asg, wS_gname, wS_gsub, wS_gnil, wS_gcons, wS_augI, wE_C, wE_nil, wE_cons, wE_tup, wE_lst, wE_op, wE_un, wE_cb, wE_isi, wE_isiT, wE_call, wE_g1, wE_g2, isB_bl, wE_tst, wE_not, wE_and, wE_or, wE_andV, wE_orV, wE_notV, wE_ifE, isI2_int, wE_int, wE_addI, wE_is, wE_mt, wE_mt0, wE_part, wE_noP, wE_sl, wE_chain, wS_for, wE_src, wE_seqI, wE_optI, wE_lc, wE_yes, wE_V0, wE_V1, wE_optR, wS_optS, wE_ix, ixW_lst, wE_get, gtW_lst, wGe1, wIx0, wIx1, wIx2, wIx3, wS_st, stW_lst, wSt0, wSt1, wSt2, wSt3, List.getElem?_cons_zero, List.getElem?_cons_succ, List.set_cons_zero, List.set_cons_succ, startM, List.map_cons, List.map_nil, List.length_cons, List.length_nil, List.replicate, List.cons_append, List.nil_append, List.set_set, tyB_ref k1', wE_lenL l4, if_true, wE_gt, List.length_map, hpos2, decide_true, l4]
        rw [wE_append k1' kl]
        have z := fin (some qq.1) hnext (some (VV.ref S3.length))
        rw [show no (some qq.1) = VV.int (qq.1 : Nat) from rfl] at z
        exact z
  · rintro σ S3 ⟨nx, o6, o7, o8, o9, rfl, k1, k2, k3⟩
    rw [List.length_map, List.length_range] at k1 k2
    simp only [wE_ok, wE_bind, wS_seq, wS_next, wS_brk, wS_cont, wS_drop, wS_ret, wS_retN, wS_ifS, wS_asg, wS_gname, wS_gsub, wS_gnil, wS_gcons, wS_augI, wE_C, wE_nil, wE_cons, wE_tup, wE_lst, wE_op, wE_un, wE_cb, wE_isi, wE_isiT, wE_call, wE_g1, wE_g2, isB_bl, wE_tst, wE_not, wE_and, wE_or, wE_andV, wE_orV, wE_notV, wE_ifE, isI2_int, wE_int, wE_addI, wE_is, wE_mt, wE_mt0, wE_part, wE_noP, wE_sl, wE_chain, wS_for, wE_src, wE_seqI, wE_optI, wE_lc, wE_yes, wE_V0, wE_V1, wE_optR, wS_optS, wE_ix, ixW_lst, wE_get, gtW_lst, wGe1, wIx0, wIx1, wIx2, wIx3, wS_st, stW_lst, wSt0, wSt1, wSt2, wSt3, List.getElem?_cons_zero, List.getElem?_cons_succ, List.set_cons_zero, List.set_cons_succ, startM, List.map_cons, List.map_nil, List.length_cons, List.length_nil, List.replicate, List.cons_append, List.nil_append, List.set_set]
    exact ⟨_, d, nx, rfl, k1, q2, q3, k2, by have := f1.1; have := f2.1; omega, f1.trans (f2.trans k3)⟩
end Sx
end
section
/-! GrH: what makes a list the list of least prices, by its ties alone. -/
namespace Gr
structure Judged (E : List Ed) (g : Nat) (d : Di) : Prop where
  goal : d g = some 0
  even : ∀ e ∈ E, d e.1 = none ↔ d e.2.1 = none
  near : ∀ e ∈ E, ∀ x y, d e.1 = some x → d e.2.1 = some y → x ≤ y + e.2.2
  shown : ∀ h x, d h = some x → h = g ∨ ∃ o c, (h, o, c) ∈ E ∧ d o = some (x - c)
theorem Judged.lim {E : List Ed} {g : Nat} {d : Di} (J : Judged E g d) {j v : Nat} {x : Int} (w : Wk E g j v x) : Gr.lim (d v) x := by
  induction w with
  | nil => rw [J.goal]; exact Int.le_refl 0
  | @cons a b c x k h _ ih =>
    obtain ⟨y, h1, h2⟩ := lim_ex ih
    cases e : d a with
    | none =>
      have := (J.even _ h).mp e
      dsimp only at this
      rw [h1] at this
      cases this
    | some z =>
      have := J.near _ h z y e h1
      show z ≤ c + x
      dsimp only at this
      omega
theorem Judged.up {E : List Ed} {g k : Nat} {d : Di} (J : Judged E g d) : UpTo E g k d := fun _ _ _ _ w => J.lim w
theorem countP_lt {α : Type} {p q : α → Bool} : ∀ {l : List α}, (∀ a ∈ l, p a = true → q a = true) → (∃ a ∈ l, p a = false ∧ q a = true) → l.countP p < l.countP q
  | [], _, ⟨a, h, _⟩ => by cases h
  | x :: l, h, ⟨a, ha, h1, h2⟩ => by
    rw [List.countP_cons, List.countP_cons]
    have le : l.countP p ≤ l.countP q := List.countP_mono_left fun a ha => h a (List.mem_cons_of_mem _ ha)
    rcases List.mem_cons.mp ha with rfl | hm
    · rw [h1, h2]
      simp
      omega
    · have ih := countP_lt (l := l) (fun a ha => h a (List.mem_cons_of_mem _ ha)) ⟨a, hm, h1, h2⟩
      have := h x List.mem_cons_self
      by_cases c : p x = true
      · rw [c, this c]
        simp
        omega
      · have c' : p x = false := by simpa using c
        rw [c']
        by_cases c2 : q x = true
        · rw [c2]; simp; omega
        · have c3 : q x = false := by simpa using c2
          rw [c3]; simp; omega
def less (d : Di) (x : Int) (i : Nat) : Bool := match d i with
  | some y => decide (y < x)
  | none => false
theorem Judged.sound {E : List Ed} {g n : Nat} {d : Di} (hn : ∀ h x, d h = some x → h < n) (hc : ∀ e ∈ E, 1 ≤ e.2.2) (J : Judged E g d) : Sound E g d := by
  have key : ∀ (k h : Nat) (x : Int), (List.range n).countP (less d x) < k → d h = some x → ∃ k, Wk E g k h x := by
    intro k
    induction k with
    | zero => intro h x hk _; omega
    | succ k ih =>
      intro h x hk e
      rcases J.shown h x e with rfl | ⟨o, c, he, ho⟩
      · rw [J.goal] at e
        cases e
        exact ⟨0, .nil⟩
      · have c1 := hc _ he
        dsimp only at c1
        have lt : (List.range n).countP (less d (x - c)) < (List.range n).countP (less d x) := countP_lt (fun a _ h => by
          unfold less at h ⊢
          cases q : d a with
          | none => rw [q] at h; cases h
          | some y =>
            rw [q] at h
            have := of_decide_eq_true h
            exact decide_eq_true (by omega)) ⟨o, List.mem_range.mpr (hn o _ ho), by unfold less; rw [ho]; exact decide_eq_false (by omega), by unfold less; rw [ho]; exact decide_eq_true (by omega)⟩
        obtain ⟨j, w⟩ := ih o (x - c) (by omega) ho
        have w2 := Wk.cons he w
        rw [show c + (x - c) = x by omega] at w2
        exact ⟨_, w2⟩
  exact fun h x e => key _ h x (Nat.lt_succ_self _) e
theorem judged_best {E : List Ed} {g n : Nat} {d : Di} (hc : ∀ e ∈ E, 1 ≤ e.2.2) (hn : ∀ e ∈ E, e.1 < n) (sy : ∀ e ∈ E, (e.2.1, e.1, e.2.2) ∈ E) (s : Sound E g d) (u : UpTo E g n d) : Judged E g d := by
  have hc0 : ∀ e ∈ E, 0 ≤ e.2.2 := fun e he => Int.le_trans (by decide) (hc e he)
  have fx := best_fix hc0 hn s u
  have hg : d g = some 0 := by
    obtain ⟨y, h1, h2⟩ := lim_ex (u 0 g 0 (Nat.zero_le _) .nil)
    obtain ⟨k, w⟩ := s g y h1
    have := w.nonneg hc0
    rw [h1]
    congr 1
    omega
  have near : ∀ e ∈ E, ∀ y, d e.2.1 = some y → ∃ x, d e.1 = some x ∧ x ≤ y + e.2.2 := fun e he y hy => lim_ex (bet_none (fx e he) hy)
  refine ⟨hg, fun e he => ⟨fun h => ?_, fun h => ?_⟩, fun e he x y hx hy => ?_, fun h x hx => ?_⟩
  · cases q : d e.2.1 with
    | none => rfl
    | some y =>
      obtain ⟨x, h1, _⟩ := near e he y q
      rw [h] at h1
      cases h1
  · cases q : d e.1 with
    | none => rfl
    | some y =>
      obtain ⟨x, h1, _⟩ := near _ (sy e he) y q
      dsimp only at h1
      rw [h] at h1
      cases h1
  · obtain ⟨x', h1, h2⟩ := near e he y hy
    rw [hx] at h1
    cases h1
    exact h2
  · obtain ⟨k, w⟩ := s h x hx
    cases w with
    | nil => exact .inl rfl
    | @cons _ b c x' k he w' =>
      have hg0 : Gr.lim (d g) 0 := by rw [hg]; exact Int.le_refl 0
      obtain ⟨y, h1, h2⟩ := lim_ex (fix_lim hg0 fx w')
      obtain ⟨z, h3, h4⟩ := near _ he y h1
      dsimp only at h3 h4
      rw [hx] at h3
      cases h3
      refine .inr ⟨b, c, he, ?_⟩
      rw [h1]
      congr 1
      omega
end Gr
namespace Sx
open Gr
end Sx
end
section
/-! GrW: told ways. -/
namespace Gr
/-- so far from s, by next houses -/
inductive Way (E : List Ed) (d : Di) (g s : Nat) : List Nat → Nat → Prop
  | base : Way E d g s [s] s
  | step {ws : List Nat} {c b : Nat} : Way E d g s ws c → c ≠ g → IsNext E d c (some b) → Way E d g s (ws ++ [b]) b
inductive Wy (E : List Ed) (d : Di) (g : Nat) : Nat → List Nat → Prop
  | done : Wy E d g g [g]
  | go {h b : Nat} {ws : List Nat} : h ≠ g → IsNext E d h (some b) → Wy E d g b ws → Wy E d g h (h :: ws)
theorem Wy.uniq {E : List Ed} {d : Di} {g s : Nat} {ws vs : List Nat} (a : Wy E d g s ws) (b : Wy E d g s vs) : ws = vs := by
  induction a generalizing vs with
  | done =>
    cases b with
    | done => rfl
    | go h _ _ => exact absurd rfl h
  | go h n _ ih =>
    cases b with
    | done => exact absurd rfl h
    | go h' n' r =>
      have e := next_eq n n'
      cases e
      rw [ih r]
theorem Way.last {E : List Ed} {d : Di} {g s c : Nat} {ws : List Nat} (w : Way E d g s ws c) : ws = ws.dropLast ++ [c] := by
  cases w with
  | base => rfl
  | step _ _ _ => simp
theorem Way.wy {E : List Ed} {d : Di} {g s c : Nat} {ws : List Nat} (w : Way E d g s ws c) : ∀ {vs : List Nat}, Wy E d g c vs → Wy E d g s (ws.dropLast ++ vs) := by
  induction w with
  | base => exact fun r => r
  | @step ws c b w h n ih =>
    intro vs r
    have := ih (.go h n r)
    rw [List.dropLast_concat]
    rw [w.last, List.append_assoc]
    exact this
theorem Way.end_ {E : List Ed} {d : Di} {g s : Nat} {ws : List Nat} (w : Way E d g s ws g) : Wy E d g s ws := by
  have := w.wy .done
  rwa [← w.last] at this
theorem Way.uniq {E : List Ed} {d : Di} {g s : Nat} {ws vs : List Nat} (a : Way E d g s ws g) (b : Way E d g s vs g) : ws = vs := a.end_.uniq b.end_
theorem Way.len {E : List Ed} {d : Di} {g s c : Nat} {ws : List Nat} (w : Way E d g s ws c) : 0 < ws.length := by
  cases w <;> simp
theorem Way.get {E : List Ed} {d : Di} {g s c : Nat} {ws : List Nat} (w : Way E d g s ws c) : ws[ws.length - 1]? = some c := by
  have e := w.last
  have l := w.len
  rw [e]
  simp
/-- how many houses are nearer -/
def nearer (d : Di) (n : Nat) (h : Nat) : Nat := match d h with
  | some x => (List.range n).countP (less d x)
  | none => 0
theorem nearer_lt {d : Di} {n h : Nat} {x : Int} (e : d h = some x) (hh : h < n) : nearer d n h < n := by
  unfold nearer
  rw [e]
  have : (List.range n).countP (less d x) < (List.range n).countP (fun _ => true) := countP_lt (fun _ _ _ => rfl) ⟨h, List.mem_range.mpr hh, by unfold less; rw [e]; simp, rfl⟩
  simpa using this
theorem cand_down {E : List Ed} {d : Di} {n h b : Nat} (hc : ∀ e ∈ E, 1 ≤ e.2.2) (hn : ∀ e ∈ E, e.1 < n ∧ e.2.1 < n) (c : Cand E d h b) : ∃ x, d b = some x ∧ b < n ∧ nearer d n b < nearer d n h := by
  obtain ⟨p, y, h1, h2, h3⟩ := c
  have hp := hc _ h1
  have hb := (hn _ h1).2
  dsimp only at hp hb
  refine ⟨y, h2, hb, ?_⟩
  unfold nearer
  rw [h2, h3]
  exact countP_lt (fun a _ k => by
    unfold less at k ⊢
    cases q : d a with
    | none => rw [q] at k; cases k
    | some z =>
      rw [q] at k
      have := of_decide_eq_true k
      exact decide_eq_true (by omega)) ⟨b, List.mem_range.mpr hb, by unfold less; rw [h2]; simp, by unfold less; rw [h2]; exact decide_eq_true (by omega)⟩
/-- a house with a price that is not the goal has a next house -/
theorem has_next {E : List Ed} {g : Nat} {d : Di} (J : Judged E g d) {h : Nat} {x : Int} (e : d h = some x) (hg : h ≠ g) {o : Option Nat} (n : IsNext E d h o) : ∃ b, o = some b ∧ Cand E d h b := by
  cases o with
  | some b => exact ⟨b, rfl, n.1⟩
  | none =>
    rcases J.shown h x e with z | ⟨b, c, h1, h2⟩
    · exact absurd z hg
    · exact absurd ⟨c, x - c, h1, h2, by rw [e]; congr 1; omega⟩ (n b)
end Gr
end
/-! NextR: the law's own next house. -/
noncomputable section
namespace Sx
open PySem L2 Gr
theorem wE_eqO {Q : VV → Sto → Prop} {S : Sto} {neg : Bool} {o : Option Int} {z : Int} : wE (gEq neg (ov o) (.int z) S) Q = Q (.bl (if neg = true then !(o == some z) else o == some z)) S := by
  have h1 : dat S 8 (ov o) = some (od o) := dtA_dat 0 8 _ _ (by decide) (ov_dt o)
  have h2 : SeqAt.shaped (od o) = true := dtA_shaped (ov_dt (S := S) (n := 0) o) (by decide) (od_ok o)
  rw [wE_eqD h1 (show dat S 8 (.int z) = some (.int z) from rfl) h2 rfl]
  have e : PyData.eqv (od o) (.int z) = (o == some z) := by
    cases o with
    | none => rfl
    | some y =>
      unfold od
      simp only [PyData.eqv]
      rfl
  rw [e]
/-- the joined ones, by the law's own words -/
def joinA (h : Nat) (ts : List Tie) : List Pr := (ts.filter fun t => decide (t.1 = h)).map fun t => (t.2.1, (t.2.2 : Int))
def joinB (h : Nat) (ts : List Tie) : List Pr := (ts.filter fun t => decide (t.2.1 = h)).map fun t => (t.1, (t.2.2 : Int))
theorem join_mem {h o : Nat} {c : Int} {ts : List Tie} : (o, c) ∈ joinA h ts ++ joinB h ts ↔ (h, o, c) ∈ edA ts := by
  unfold joinA joinB
  rw [edA_mem, List.mem_append]
  constructor
  · rintro (hm | hm)
    · obtain ⟨t, ht, e⟩ := List.mem_map.mp hm
      obtain ⟨h1, h2⟩ := List.mem_filter.mp ht
      have h3 := of_decide_eq_true h2
      refine ⟨t, h1, .inl ?_⟩
      unfold edO
      rw [h3]
      cases e
      rfl
    · obtain ⟨t, ht, e⟩ := List.mem_map.mp hm
      obtain ⟨h1, h2⟩ := List.mem_filter.mp ht
      have h3 := of_decide_eq_true h2
      refine ⟨t, h1, .inr ?_⟩
      unfold edR
      rw [h3]
      cases e
      rfl
  · rintro ⟨t, ht, e | e⟩
    · cases e
      exact .inl (List.mem_map.mpr ⟨t, List.mem_filter.mpr ⟨ht, decide_eq_true rfl⟩, rfl⟩)
    · cases e
      exact .inr (List.mem_map.mpr ⟨t, List.mem_filter.mpr ⟨ht, decide_eq_true rfl⟩, rfl⟩)
/-- what the law takes -/
def pl (d : Di) (h : Nat) (q : Pr) : Bool := match d q.1 with
  | some y => d h == some (y + q.2)
  | none => false
theorem pl_cand {E : List Ed} {d : Di} {h : Nat} {rows : List Pr} (hr : ∀ o p, (o, p) ∈ rows ↔ (h, o, p) ∈ E) (b : Nat) : Cand E d h b ↔ ∃ c, (b, c) ∈ rows ∧ pl d h (b, c) = true := by
  constructor
  · rintro ⟨c, y, h1, h2, h3⟩
    refine ⟨c, (hr b c).mpr h1, ?_⟩
    unfold pl
    rw [h2, h3]
    exact beq_self_eq_true _
  · rintro ⟨c, h1, h2⟩
    unfold pl at h2
    cases e : d b with
    | none => rw [e] at h2; cases h2
    | some y =>
      rw [e] at h2
      exact ⟨c, y, (hr b c).mp h1, e, eq_of_beq h2⟩
/-- the least of the taken -/
theorem min_next {E : List Ed} {d : Di} {h : Nat} {rows : List Pr} (hr : ∀ o p, (o, p) ∈ rows ↔ (h, o, p) ∈ E) : ∃ o : Option Nat, IsNext E d h o ∧ ∀ (S : Sto), minR .non S ((rows.filter (pl d h)).map fun q => ((q.1 : Nat) : Int)) = .ok (no o) S := by
  cases e : rows.filter (pl d h) with
  | nil =>
    refine ⟨none, fun b hb => ?_, fun S => rfl⟩
    obtain ⟨c, h1, h2⟩ := (pl_cand hr b).mp hb
    have : (b, c) ∈ rows.filter (pl d h) := List.mem_filter.mpr ⟨h1, h2⟩
    rw [e] at this
    cases this
  | cons q qs =>
    have key : ∀ (qs : List Pr) (m : Nat), ∃ m' : Nat, (qs.map fun q => ((q.1 : Nat) : Int)).foldl min (m : Int) = (m' : Int) ∧ m' ≤ m ∧ (∀ q ∈ qs, m' ≤ q.1) ∧ (m' = m ∨ ∃ q ∈ qs, m' = q.1) := by
      intro qs
      induction qs with
      | nil => exact fun m => ⟨m, rfl, Nat.le_refl _, (fun q hq => by cases hq), .inl rfl⟩
      | cons p ps ih =>
        intro m
        obtain ⟨m', h1, h2, h3, h4⟩ := ih (min m p.1)
        refine ⟨m', ?_, by omega, fun q hq => ?_, ?_⟩
        · rw [List.map_cons, List.foldl_cons]
          rw [show min (m : Int) ((p.1 : Nat) : Int) = ((min m p.1 : Nat) : Int) by omega]
          exact h1
        · rcases List.mem_cons.mp hq with rfl | hq
          · omega
          · exact h3 q hq
        · rcases h4 with h4 | ⟨q, hq, h4⟩
          · by_cases c : m ≤ p.1
            · exact .inl (by omega)
            · exact .inr ⟨p, List.mem_cons_self, by omega⟩
          · exact .inr ⟨q, List.mem_cons_of_mem _ hq, h4⟩
    obtain ⟨m', h1, h2, h3, h4⟩ := key qs q.1
    have hin : ∀ p ∈ q :: qs, p ∈ rows ∧ pl d h p = true := fun p hp => by
      rw [← e] at hp
      exact List.mem_filter.mp hp
    refine ⟨some m', ⟨?_, fun b hb => ?_⟩, fun S => ?_⟩
    · refine (pl_cand hr m').mpr ?_
      rcases h4 with h4 | ⟨p, hp, h4⟩
      · obtain ⟨k1, k2⟩ := hin q List.mem_cons_self
        exact ⟨q.2, by rw [h4]; exact k1, by rw [h4]; exact k2⟩
      · obtain ⟨k1, k2⟩ := hin p (List.mem_cons_of_mem _ hp)
        exact ⟨p.2, by rw [h4]; exact k1, by rw [h4]; exact k2⟩
    · obtain ⟨c, k1, k2⟩ := (pl_cand hr b).mp hb
      have : (b, c) ∈ rows.filter (pl d h) := List.mem_filter.mpr ⟨k1, k2⟩
      rw [e] at this
      rcases List.mem_cons.mp this with z | z
      · rw [← z] at h2
        exact h2
      · exact h3 _ z
    · rw [List.map_cons]
      show Res.ok (VV.int _) S = _
      rw [h1]
      rfl
end Sx
end
/-! NextS: _law_next. -/
noncomputable section
namespace Sx
open PySem L2 Gr
def tA (h : Nat) : VV → Bool
  | .tup [.int a, _, _] => a == ((h : Nat) : Int)
  | _ => false
def tB (h : Nat) : VV → Bool
  | .tup [_, .int b, _] => b == ((h : Nat) : Int)
  | _ => false
def fA : VV → VV
  | .tup [_, b, c] => .tup [b, c]
  | _ => .non
def fB : VV → VV
  | .tup [a, _, c] => .tup [a, c]
  | _ => .non
theorem tA_eq (h : Nat) (t : Tie) : tA h (tieV t) = decide (t.1 = h) := by
  show ((((t.1 : Nat) : Int)) == ((h : Nat) : Int)) = decide (t.1 = h)
  by_cases c : t.1 = h
  · rw [c]; simp
  · rw [decide_eq_false c]; exact beq_false_of_ne (by omega)
theorem tB_eq (h : Nat) (t : Tie) : tB h (tieV t) = decide (t.2.1 = h) := by
  show ((((t.2.1 : Nat) : Int)) == ((h : Nat) : Int)) = decide (t.2.1 = h)
  by_cases c : t.2.1 = h
  · rw [c]; simp
  · rw [decide_eq_false c]; exact beq_false_of_ne (by omega)
theorem mapA {h : Nat} {ts : List Tie} : ((ts.map tieV).filter (tA h)).map fA = (joinA h ts).map prV := by
  unfold joinA
  rw [List.filter_map, List.map_map, List.map_map]
  have : (tA h ∘ tieV) = fun t => decide (t.1 = h) := funext fun t => tA_eq h t
  rw [this]
  rfl
theorem mapB {h : Nat} {ts : List Tie} : ((ts.map tieV).filter (tB h)).map fB = (joinB h ts).map prV := by
  unfold joinB
  rw [List.filter_map, List.map_map, List.map_map]
  have : (tB h ∘ tieV) = fun t => decide (t.2.1 = h) := funext fun t => tB_eq h t
  rw [this]
  rfl
def plV (d : Di) (h : Nat) : VV → Bool
  | .tup [.int o, .int c] => pl d h (o.toNat, c)
  | _ => false
theorem intsO_map : ∀ ns : List Int, intsO (ns.map VV.int) = some ns
  | [] => rfl
  | n :: ns => by
    show (intsO (ns.map VV.int)).map (n :: ·) = _
    rw [intsO_map ns]
    rfl
theorem law_next_w {S : Sto} {T n g h : Nat} {ts : List Tie} (hT : S[T]? = some (.lst (ts.map tieV))) (hts : ∀ t ∈ ts, t.1 < n ∧ t.2.1 < n) (hh : h < n) (hg : g < n) (hn : n ≤ 20) (hl : ts.length ≤ 100) :
    wE (Cm.m__law_next [.int (n : Nat), .ref T, .int (h : Nat), .int (g : Nat)] S) fun v S' => ∃ (d : Di) (o : Option Nat), v = no o ∧ Sound (edA ts) g d ∧ UpTo (edA ts) g n d ∧ IsNext (edA ts) d h o ∧ Fr No S S' := by
  unfold Cm.m__law_next
  rw [wE_fn (by rfl)]
  simp only [wS_seq, wS_asg, wE_call, wE_cons, wE_nil, wE_V0, wE_V1, wS_gname, List.set_cons_zero, List.set_cons_succ, startM, List.map_cons, List.map_nil, List.length_cons, List.length_nil, List.replicate, List.cons_append, List.nil_append]
  refine wE_mono (law_far_w hT hts hg hn hl) fun v S1 ⟨q, d, hv, q1, q2, q3, q4, f1⟩ => ?_
  subst hv
  have hed := edA_lt hts
  have hT1 := f1.at_ hT (fun z => z)
  simp only [wE_ok, wE_bind, wS_seq, wS_next, wS_brk, wS_cont, wS_drop, wS_ret, wS_retN, wS_ifS, wS_asg, wS_gname, wS_gsub, wS_gnil, wS_gcons, wS_augI, wE_C, wE_nil, wE_cons, wE_tup, wE_lst, wE_op, wE_un, wE_cb, wE_isi, wE_isiT, wE_call, wE_g1, wE_g2, isB_bl, wE_tst, wE_not, wE_and, wE_or, wE_andV, wE_orV, wE_notV, wE_ifE, isI2_int, wE_int, wE_addI, wE_is, wE_mt, wE_mt0, wE_part, wE_noP, wE_sl, wE_chain, wS_for, wE_src, wE_seqI, wE_optI, wE_lc, wE_yes, wE_V0, wE_V1, wE_optR, wS_optS, wE_ix, ixW_lst, wE_get, gtW_lst, wGe1, wIx0, wIx1, wIx2, wIx3, wS_st, stW_lst, wSt0, wSt1, wSt2, wSt3, List.getElem?_cons_zero, List.getElem?_cons_succ, List.set_cons_zero, List.set_cons_succ, startM, List.map_cons, List.map_nil, List.length_cons, List.length_nil, List.replicate, List.cons_append, List.nil_append, List.set_set]
  rw [srcOf_ref hT1]
  simp only [wE_ok, wE_bind, wS_seq, wS_next, wS_brk, wS_cont, wS_drop, wS_ret, wS_retN, wS_ifS, wS_asg, wS_gname, wS_gsub, wS_gnil, wS_gcons, wS_augI, wE_C, wE_nil, wE_cons, wE_tup, wE_lst, wE_op, wE_un, wE_cb, wE_isi, wE_isiT, wE_call, wE_g1, wE_g2, isB_bl, wE_tst, wE_not, wE_and, wE_or, wE_andV, wE_orV, wE_notV, wE_ifE, isI2_int, wE_int, wE_addI, wE_is, wE_mt, wE_mt0, wE_part, wE_noP, wE_sl, wE_chain, wS_for, wE_src, wE_seqI, wE_optI, wE_lc, wE_yes, wE_V0, wE_V1, wE_optR, wS_optS, wE_ix, ixW_lst, wE_get, gtW_lst, wGe1, wIx0, wIx1, wIx2, wIx3, wS_st, stW_lst, wSt0, wSt1, wSt2, wSt3, List.getElem?_cons_zero, List.getElem?_cons_succ, List.set_cons_zero, List.set_cons_succ, startM, List.map_cons, List.map_nil, List.length_cons, List.length_nil, List.replicate, List.cons_append, List.nil_append, List.set_set, wipeM]
  refine lc_fm (tA h) fA (by rw [List.length_map]; omega) (fun acc => by rw [List.getElem?_append_left (lt_of_at hT1)]; exact hT1) (fun y acc hy => ?_) ?_
  · obtain ⟨t, ht, rfl⟩ := List.mem_map.mp hy
    rw [tA_eq, show tieV t = .tup [.int (t.1 : Nat), .int (t.2.1 : Nat), .int (t.2.2 : Nat)] from rfl]
    unfold wG
    rw [wS_gtup (by rfl)]
    have e := tA_eq h t
    simp only [wE_ok, wE_bind, wS_seq, wS_next, wS_brk, wS_cont, wS_drop, wS_ret, wS_retN, wS_ifS, wS_asg, wS_gname, wS_gsub, wS_gnil, wS_gcons, wS_augI, wE_C, wE_nil, wE_cons, wE_tup, wE_lst, wE_op, wE_un, wE_cb, wE_isi, wE_isiT, wE_call, wE_g1, wE_g2, isB_bl, wE_tst, wE_not, wE_and, wE_or, wE_andV, wE_orV, wE_notV, wE_ifE, isI2_int, wE_int, wE_addI, wE_is, wE_mt, wE_mt0, wE_part, wE_noP, wE_sl, wE_chain, wS_for, wE_src, wE_seqI, wE_optI, wE_lc, wE_yes, wE_V0, wE_V1, wE_optR, wS_optS, wE_ix, ixW_lst, wE_get, gtW_lst, wGe1, wIx0, wIx1, wIx2, wIx3, wS_st, stW_lst, wSt0, wSt1, wSt2, wSt3, List.getElem?_cons_zero, List.getElem?_cons_succ, List.set_cons_zero, List.set_cons_succ, startM, List.map_cons, List.map_nil, List.length_cons, List.length_nil, List.replicate, List.cons_append, List.nil_append, List.set_set, wE_eqI, Bool.false_eq_true, if_false, if_true, Nat.reduceLeDiff, Nat.reduceAdd]
    exact ⟨by first | trivial | rfl, e, by first | trivial | rfl, fun _ => ⟨by first | trivial | rfl, by first | trivial | rfl⟩⟩
  rw [mapA]
  generalize hS2 : S1 ++ [OO.lst ((joinA h ts).map prV)] = S2
  have g2 : S2[S1.length]? = some (.lst ((joinA h ts).map prV)) := by rw [← hS2]; exact get_last
  have f2 : Fr No S1 S2 := by rw [← hS2]; exact Fr.app
  have hT2 := f2.at_ hT1 (fun z => z)
  rw [srcOf_ref hT2]
  simp only [wE_ok, wE_bind, wS_seq, wS_next, wS_brk, wS_cont, wS_drop, wS_ret, wS_retN, wS_ifS, wS_asg, wS_gname, wS_gsub, wS_gnil, wS_gcons, wS_augI, wE_C, wE_nil, wE_cons, wE_tup, wE_lst, wE_op, wE_un, wE_cb, wE_isi, wE_isiT, wE_call, wE_g1, wE_g2, isB_bl, wE_tst, wE_not, wE_and, wE_or, wE_andV, wE_orV, wE_notV, wE_ifE, isI2_int, wE_int, wE_addI, wE_is, wE_mt, wE_mt0, wE_part, wE_noP, wE_sl, wE_chain, wS_for, wE_src, wE_seqI, wE_optI, wE_lc, wE_yes, wE_V0, wE_V1, wE_optR, wS_optS, wE_ix, ixW_lst, wE_get, gtW_lst, wGe1, wIx0, wIx1, wIx2, wIx3, wS_st, stW_lst, wSt0, wSt1, wSt2, wSt3, List.getElem?_cons_zero, List.getElem?_cons_succ, List.set_cons_zero, List.set_cons_succ, startM, List.map_cons, List.map_nil, List.length_cons, List.length_nil, List.replicate, List.cons_append, List.nil_append, List.set_set, wipeM]
  refine lc_fm (tB h) fB (by rw [List.length_map]; omega) (fun acc => by rw [List.getElem?_append_left (lt_of_at hT2)]; exact hT2) (fun y acc hy => ?_) ?_
  · obtain ⟨t, ht, rfl⟩ := List.mem_map.mp hy
    rw [tB_eq, show tieV t = .tup [.int (t.1 : Nat), .int (t.2.1 : Nat), .int (t.2.2 : Nat)] from rfl]
    unfold wG
    rw [wS_gtup (by rfl)]
    have e := tB_eq h t
    simp only [wE_ok, wE_bind, wS_seq, wS_next, wS_brk, wS_cont, wS_drop, wS_ret, wS_retN, wS_ifS, wS_asg, wS_gname, wS_gsub, wS_gnil, wS_gcons, wS_augI, wE_C, wE_nil, wE_cons, wE_tup, wE_lst, wE_op, wE_un, wE_cb, wE_isi, wE_isiT, wE_call, wE_g1, wE_g2, isB_bl, wE_tst, wE_not, wE_and, wE_or, wE_andV, wE_orV, wE_notV, wE_ifE, isI2_int, wE_int, wE_addI, wE_is, wE_mt, wE_mt0, wE_part, wE_noP, wE_sl, wE_chain, wS_for, wE_src, wE_seqI, wE_optI, wE_lc, wE_yes, wE_V0, wE_V1, wE_optR, wS_optS, wE_ix, ixW_lst, wE_get, gtW_lst, wGe1, wIx0, wIx1, wIx2, wIx3, wS_st, stW_lst, wSt0, wSt1, wSt2, wSt3, List.getElem?_cons_zero, List.getElem?_cons_succ, List.set_cons_zero, List.set_cons_succ, startM, List.map_cons, List.map_nil, List.length_cons, List.length_nil, List.replicate, List.cons_append, List.nil_append, List.set_set, wE_eqI, Bool.false_eq_true, if_false, if_true, Nat.reduceLeDiff, Nat.reduceAdd]
    exact ⟨by first | trivial | rfl, e, by first | trivial | rfl, fun _ => ⟨by first | trivial | rfl, by first | trivial | rfl⟩⟩
  rw [mapB]
  generalize hS3 : S2 ++ [OO.lst ((joinB h ts).map prV)] = S3
  have g3 : S3[S2.length]? = some (.lst ((joinB h ts).map prV)) := by rw [← hS3]; exact get_last
  have f3 : Fr No S2 S3 := by rw [← hS3]; exact Fr.app
  have hja : (joinA h ts).length ≤ 100 := by unfold joinA; rw [List.length_map]; exact Nat.le_trans (List.length_filter_le _ _) hl
  have hjb : (joinB h ts).length ≤ 100 := by unfold joinB; rw [List.length_map]; exact Nat.le_trans (List.length_filter_le _ _) hl
  rw [wE_addL (f3.at_ g2 fun z => z) g3 (by rw [List.length_map, List.length_map]; omega), ← List.map_append]
  generalize hS4 : S3 ++ [OO.lst ((joinA h ts ++ joinB h ts).map prV)] = S4
  have g4 : S4[S3.length]? = some (.lst ((joinA h ts ++ joinB h ts).map prV)) := by rw [← hS4]; exact get_last
  have f4 : Fr No S3 S4 := by rw [← hS4]; exact Fr.app
  have f14 : Fr No S1 S4 := f2.trans (f3.trans f4)
  have q4' := f14.at_ q1 (fun z => z)
  rw [srcOf_ref g4]
  simp only [wE_ok, wE_bind, wS_seq, wS_next, wS_brk, wS_cont, wS_drop, wS_ret, wS_retN, wS_ifS, wS_asg, wS_gname, wS_gsub, wS_gnil, wS_gcons, wS_augI, wE_C, wE_nil, wE_cons, wE_tup, wE_lst, wE_op, wE_un, wE_cb, wE_isi, wE_isiT, wE_call, wE_g1, wE_g2, isB_bl, wE_tst, wE_not, wE_and, wE_or, wE_andV, wE_orV, wE_notV, wE_ifE, isI2_int, wE_int, wE_addI, wE_is, wE_mt, wE_mt0, wE_part, wE_noP, wE_sl, wE_chain, wS_for, wE_src, wE_seqI, wE_optI, wE_lc, wE_yes, wE_V0, wE_V1, wE_optR, wS_optS, wE_ix, ixW_lst, wE_get, gtW_lst, wGe1, wIx0, wIx1, wIx2, wIx3, wS_st, stW_lst, wSt0, wSt1, wSt2, wSt3, List.getElem?_cons_zero, List.getElem?_cons_succ, List.set_cons_zero, List.set_cons_succ, startM, List.map_cons, List.map_nil, List.length_cons, List.length_nil, List.replicate, List.cons_append, List.nil_append, List.set_set, wipeM]
  have hpos := edA_pos (ts := ts)
  refine lc_fm (plV d h) fstV (by rw [List.length_map, List.length_append]; omega) (fun acc => by rw [List.getElem?_append_left (lt_of_at g4)]; exact g4) (fun y acc hy => ?_) ?_
  · obtain ⟨⟨o, c⟩, hm, rfl⟩ := List.mem_map.mp hy
    have hE := join_mem.mp hm
    have ho : o < n := (hed _ hE).2
    have ht5 : (S4 ++ [OO.lst acc])[q]? = some (.lst (dl n d)) := by rw [List.getElem?_append_left (lt_of_at q4')]; exact q4'
    rw [show plV d h (prV (o, c)) = pl d h (o, c) from rfl, show prV (o, c) = .tup [.int (o : Nat), .int c] from rfl]
    unfold wG pl
    rw [wS_gtup (by rfl)]
    dsimp only
    cases hd : d o with
    | none =>
      simp only [wE_ok, wE_bind, wS_seq, wS_next, wS_brk, wS_cont, wS_drop, wS_ret, wS_retN, wS_ifS, wS_asg, wS_gname, wS_gsub, wS_gnil, wS_gcons, wS_augI, wE_C, wE_nil, wE_cons, wE_tup, wE_lst, wE_op, wE_un, wE_cb, wE_isi, wE_isiT, wE_call, wE_g1, wE_g2, isB_bl, wE_tst, wE_not, wE_and, wE_or, wE_andV, wE_orV, wE_notV, wE_ifE, isI2_int, wE_int, wE_addI, wE_is, wE_mt, wE_mt0, wE_part, wE_noP, wE_sl, wE_chain, wS_for, wE_src, wE_seqI, wE_optI, wE_lc, wE_yes, wE_V0, wE_V1, wE_optR, wS_optS, wE_ix, ixW_lst, wE_get, gtW_lst, wGe1, wIx0, wIx1, wIx2, wIx3, wS_st, stW_lst, wSt0, wSt1, wSt2, wSt3, List.getElem?_cons_zero, List.getElem?_cons_succ, List.set_cons_zero, List.set_cons_succ, startM, List.map_cons, List.map_nil, List.length_cons, List.length_nil, List.replicate, List.cons_append, List.nil_append, List.set_set, ht5, wIx_dl ho, hd, show ov none = VV.non from rfl, isNonV, if_true, Bool.not_true, Bool.false_eq_true, if_false]
      exact ⟨by first | trivial | rfl, by first | trivial | rfl, by first | trivial | rfl, fun z => by cases z⟩
    | some y =>
      simp only [wE_ok, wE_bind, wS_seq, wS_next, wS_brk, wS_cont, wS_drop, wS_ret, wS_retN, wS_ifS, wS_asg, wS_gname, wS_gsub, wS_gnil, wS_gcons, wS_augI, wE_C, wE_nil, wE_cons, wE_tup, wE_lst, wE_op, wE_un, wE_cb, wE_isi, wE_isiT, wE_call, wE_g1, wE_g2, isB_bl, wE_tst, wE_not, wE_and, wE_or, wE_andV, wE_orV, wE_notV, wE_ifE, isI2_int, wE_int, wE_addI, wE_is, wE_mt, wE_mt0, wE_part, wE_noP, wE_sl, wE_chain, wS_for, wE_src, wE_seqI, wE_optI, wE_lc, wE_yes, wE_V0, wE_V1, wE_optR, wS_optS, wE_ix, ixW_lst, wE_get, gtW_lst, wGe1, wIx0, wIx1, wIx2, wIx3, wS_st, stW_lst, wSt0, wSt1, wSt2, wSt3, List.getElem?_cons_zero, List.getElem?_cons_succ, List.set_cons_zero, List.set_cons_succ, startM, List.map_cons, List.map_nil, List.length_cons, List.length_nil, List.replicate, List.cons_append, List.nil_append, List.set_set, ht5, wIx_dl ho, wIx_dl hh, hd, show ov (some y) = VV.int y from rfl, isNonV, if_true, Bool.not_false, Bool.false_eq_true, if_false, wE_eqO]
      exact ⟨by first | trivial | rfl, by first | trivial | rfl, by first | trivial | rfl, fun _ => ⟨by first | trivial | rfl, by first | trivial | rfl⟩⟩
  have em : (((joinA h ts ++ joinB h ts).map prV).filter (plV d h)).map fstV = (((joinA h ts ++ joinB h ts).filter (pl d h)).map fun q => ((q.1 : Nat) : Int)).map VV.int := by
    rw [List.filter_map, List.map_map, List.map_map]
    rfl
  rw [em]
  obtain ⟨o, ho1, ho2⟩ := min_next (E := edA ts) (d := d) (h := h) (rows := joinA h ts ++ joinB h ts) (fun o p => join_mem)
  have hmin : gMinD (.ref S4.length) .non (S4 ++ [OO.lst ((((joinA h ts ++ joinB h ts).filter (pl d h)).map fun q => ((q.1 : Nat) : Int)).map VV.int)]) = .ok (no o) (S4 ++ [OO.lst ((((joinA h ts ++ joinB h ts).filter (pl d h)).map fun q => ((q.1 : Nat) : Int)).map VV.int)]) := by
    unfold gMinD
    rw [lstAt_ref get_last]
    show optN (intsO _) _ = _
    rw [intsO_map]
    exact ho2 _
  show wE ((mMinD (mV 5) (mC .non) _ _)) _
  unfold mMinD
  rw [wE_bind]
  simp only [wE_ok, wE_bind, wS_seq, wS_next, wS_brk, wS_cont, wS_drop, wS_ret, wS_retN, wS_ifS, wS_asg, wS_gname, wS_gsub, wS_gnil, wS_gcons, wS_augI, wE_C, wE_nil, wE_cons, wE_tup, wE_lst, wE_op, wE_un, wE_cb, wE_isi, wE_isiT, wE_call, wE_g1, wE_g2, isB_bl, wE_tst, wE_not, wE_and, wE_or, wE_andV, wE_orV, wE_notV, wE_ifE, isI2_int, wE_int, wE_addI, wE_is, wE_mt, wE_mt0, wE_part, wE_noP, wE_sl, wE_chain, wS_for, wE_src, wE_seqI, wE_optI, wE_lc, wE_yes, wE_V0, wE_V1, wE_optR, wS_optS, wE_ix, ixW_lst, wE_get, gtW_lst, wGe1, wIx0, wIx1, wIx2, wIx3, wS_st, stW_lst, wSt0, wSt1, wSt2, wSt3, List.getElem?_cons_zero, List.getElem?_cons_succ, List.set_cons_zero, List.set_cons_succ, startM, List.map_cons, List.map_nil, List.length_cons, List.length_nil, List.replicate, List.cons_append, List.nil_append, List.set_set]
  rw [hmin]
  exact ⟨d, o, rfl, q2, q3, ho1, f1.trans (f14.trans Fr.app)⟩
end Sx
end
/-! K02q: ties told either way about; lists of next houses as data. -/
noncomputable section
namespace Sx
open PySem L2 Gr
def flipT (t : Tie) : Tie := (t.2.1, t.1, t.2.2)
/-- each tie as it is, or the other way about -/
inductive Flip : List Tie → List Tie → Prop
  | nil : Flip [] []
  | as_ {t : Tie} {ts us : List Tie} : Flip ts us → Flip (ts ++ [t]) (us ++ [t])
  | fl {t : Tie} {ts us : List Tie} : Flip ts us → Flip (ts ++ [t]) (us ++ [flipT t])
theorem Flip.ed {ts us : List Tie} (f : Flip ts us) : (∀ e, e ∈ edA ts ↔ e ∈ edA us) ∧ us.length = ts.length := by
  induction f with
  | nil => exact ⟨fun _ => Iff.rfl, rfl⟩
  | as_ _ ih => exact ⟨fun e => by rw [edA_snoc, edA_snoc, ih.1], by simp [ih.2]⟩
  | @fl t ts us _ ih =>
    refine ⟨fun e => ?_, by simp [ih.2]⟩
    rw [edA_snoc, edA_snoc, ih.1]
    have h1 : edO (flipT t) = edR t := rfl
    have h2 : edR (flipT t) = edO t := rfl
    rw [h1, h2]
    exact or_congr_right or_comm
theorem edA_perm {ts us : List Tie} (h : ts.Perm us) (e : Ed) : e ∈ edA ts ↔ e ∈ edA us := by
  rw [edA_mem, edA_mem]
  exact ⟨fun ⟨t, a, b⟩ => ⟨t, h.mem_iff.mp a, b⟩, fun ⟨t, a, b⟩ => ⟨t, h.mem_iff.mpr a, b⟩⟩
def nd : Option Nat → PyData
  | none => .none
  | some x => .int (x : Nat)
theorem no_dt {S : Sto} {n : Nat} (o : Option Nat) : dtA S n (no o) = some (nd o) := by
  cases o <;> (unfold no nd dtA; rfl)
theorem nd_ok (o : Option Nat) : okD (nd o) = true := by cases o <;> rfl
theorem ed_good {n : Nat} {ts us : List Tie} (he : ∀ e, e ∈ edA us → e ∈ edA ts) (h : ∀ t ∈ ts, t.1 < n ∧ t.2.1 < n) (h1 : ∀ t ∈ ts, 1 ≤ t.2.2) : (∀ t ∈ us, t.1 < n ∧ t.2.1 < n) ∧ ∀ t ∈ us, 1 ≤ t.2.2 := by
  have k : ∀ t ∈ us, (t.1 < n ∧ t.2.1 < n) ∧ 1 ≤ t.2.2 := fun t ht => by
    obtain ⟨t', ht', e⟩ := edA_mem.mp (he (edO t) (edA_mem.mpr ⟨t, ht, .inl rfl⟩))
    have a := h t' ht'
    have b := h1 t' ht'
    unfold edO edR at e
    rcases e with e | e
    · simp only [Prod.mk.injEq] at e
      omega
    · simp only [Prod.mk.injEq] at e
      omega
  exact ⟨fun t ht => (k t ht).1, fun t ht => (k t ht).2⟩
end Sx
end
/-! K04q: far_holds judges. -/
noncomputable section
namespace Sx
open PySem L2 Gr
def dOf (xs : List (Option Int)) : Di := fun h => (xs[h]?).join
theorem dOf_lt {xs : List (Option Int)} {h : Nat} {x : Int} (e : dOf xs h = some x) : h < xs.length := by
  unfold dOf at e
  cases q : xs[h]? with
  | none => rw [q] at e; cases e
  | some o => exact (List.getElem?_eq_some_iff.mp q).1
theorem ix_ov {xs : List (Option Int)} {a : Nat} {Q : VV → Prop} (h : a < xs.length) : wIx (xs.map ov) (.int (a : Nat)) Q = Q (ov (dOf xs a)) := by
  refine wIx_nat (by omega) ?_
  rw [Int.toNat_natCast, List.getElem?_map, List.getElem?_eq_getElem h]
  unfold dOf
  rw [List.getElem?_eq_getElem h]
  rfl
theorem dl_dOf {xs : List (Option Int)} : dl xs.length (dOf xs) = xs.map ov := by
  refine List.ext_getElem? fun i => ?_
  by_cases h : i < xs.length
  · rw [dl_get h, List.getElem?_map, List.getElem?_eq_getElem h]
    unfold dOf
    rw [List.getElem?_eq_getElem h]
    rfl
  · rw [List.getElem?_eq_none (by rw [dl_len]; omega), List.getElem?_eq_none (by rw [List.length_map]; omega)]
def xsOf (n : Nat) (d : Di) : List (Option Int) := (List.range n).map d
theorem xsOf_len {n : Nat} {d : Di} : (xsOf n d).length = n := by unfold xsOf; simp
theorem xsOf_map {n : Nat} {d : Di} : (xsOf n d).map ov = dl n d := by unfold xsOf dl; rw [List.map_map]; rfl
theorem dOf_xsOf {n : Nat} {d : Di} (h : ∀ a x, d a = some x → a < n) : dOf (xsOf n d) = d := by
  funext a
  unfold dOf xsOf
  by_cases c : a < n
  · rw [List.getElem?_map, List.getElem?_range c]
    rfl
  · rw [List.getElem?_eq_none (by rw [List.length_map, List.length_range]; omega)]
    cases q : d a with
    | none => rfl
    | some x => exact absurd (h a x q) c
def bll (n : Nat) (sh : Nat → Bool) : List VV := (List.range n).map fun h => .bl (sh h)
theorem bll_len {n : Nat} {sh : Nat → Bool} : (bll n sh).length = n := by unfold bll; simp
theorem bll_get {n a : Nat} {sh : Nat → Bool} (h : a < n) : (bll n sh)[a]? = some (.bl (sh a)) := by
  unfold bll
  rw [List.getElem?_map, List.getElem?_range h]
  rfl
theorem wIx_bll {n a : Nat} {sh : Nat → Bool} {Q : VV → Prop} (h : a < n) : wIx (bll n sh) (.int (a : Nat)) Q = Q (.bl (sh a)) := wIx_nat (by omega) (by rw [Int.toNat_natCast, bll_get h])
theorem bll_put {n a : Nat} {sh : Nat → Bool} : (bll n sh).set a (.bl true) = bll n fun h => (sh h || decide (h = a)) := by
  refine List.ext_getElem? fun i => ?_
  by_cases hi : i < n
  · by_cases e : a = i
    · subst e
      rw [List.getElem?_set_self (by rw [bll_len]; exact hi), bll_get hi]
      simp
    · rw [List.getElem?_set_ne e, bll_get hi, bll_get hi]
      simp only [decide_eq_false (fun z : i = a => e z.symm), Bool.or_false]
  · rw [List.getElem?_eq_none (by rw [List.length_set, bll_len]; omega), List.getElem?_eq_none (by rw [bll_len]; omega)]
theorem wSt_bll {n a : Nat} {sh : Nat → Bool} {Q : List VV → Prop} (h : a < n) : wSt (bll n sh) (.int (a : Nat)) (.bl true) Q = Q (bll n fun h => (sh h || decide (h = a))) := by
  rw [wSt_nat (by omega) (by rw [bll_len]; omega), Int.toNat_natCast, bll_put]
/-- what a tie must show -/
def TOk (d : Di) (t : Tie) : Prop := (d t.1 = none ↔ d t.2.1 = none) ∧ ∀ x y, d t.1 = some x → d t.2.1 = some y → x - y ≤ (t.2.2 : Int) ∧ y - x ≤ (t.2.2 : Int)
def TSh (d : Di) (t : Tie) (h : Nat) : Prop := ∃ x y, d t.1 = some x ∧ d t.2.1 = some y ∧ ((h = t.1 ∧ x - y = (t.2.2 : Int)) ∨ (h = t.2.1 ∧ y - x = (t.2.2 : Int)))
theorem judged_ok {ts : List Tie} {g : Nat} {d : Di} (J : Judged (edA ts) g d) {t : Tie} (ht : t ∈ ts) : TOk d t := by
  have m1 : edO t ∈ edA ts := edA_mem.mpr ⟨t, ht, .inl rfl⟩
  have m2 : edR t ∈ edA ts := edA_mem.mpr ⟨t, ht, .inr rfl⟩
  refine ⟨J.even _ m1, fun x y hx hy => ?_⟩
  have h1 := J.near _ m1 x y hx hy
  have h2 := J.near _ m2 y x hy hx
  unfold edO at h1
  unfold edR at h2
  dsimp only at h1 h2
  omega
theorem judged_iff {ts : List Tie} {g n : Nat} {d : Di} (h0 : d g = some 0) (ok : ∀ t ∈ ts, TOk d t) (hd : ∀ h x, d h = some x → h < n) :
    Judged (edA ts) g d ↔ ∀ h, h < n → d h = none ∨ h = g ∨ ∃ t ∈ ts, TSh d t h := by
  constructor
  · intro J h hh
    cases q : d h with
    | none => exact .inl rfl
    | some x =>
      refine .inr ((J.shown h x q).imp id fun ⟨o, c, he, ho⟩ => ?_)
      obtain ⟨t, ht, e⟩ := edA_mem.mp he
      refine ⟨t, ht, ?_⟩
      rcases e with e | e
      · cases e
        exact ⟨x, _, q, ho, .inl ⟨rfl, by omega⟩⟩
      · cases e
        exact ⟨_, x, ho, q, .inr ⟨rfl, by omega⟩⟩
  · intro K
    refine ⟨h0, fun e he => ?_, fun e he x y hx hy => ?_, fun h x hx => ?_⟩
    · obtain ⟨t, ht, q⟩ := edA_mem.mp he
      have := (ok t ht).1
      rcases q with rfl | rfl
      · exact this
      · exact this.symm
    · obtain ⟨t, ht, q⟩ := edA_mem.mp he
      rcases q with rfl | rfl
      · have := (ok t ht).2 x y hx hy
        unfold edO
        dsimp only
        omega
      · have := (ok t ht).2 y x hy hx
        unfold edR
        dsimp only
        omega
    · rcases K h (hd h x hx) with z | z | ⟨t, ht, x', y', h1, h2, z⟩
      · rw [hx] at z; cases z
      · exact .inl z
      · right
        rcases z with ⟨rfl, z⟩ | ⟨rfl, z⟩
        · rw [hx] at h1
          cases h1
          exact ⟨t.2.1, t.2.2, edA_mem.mpr ⟨t, ht, .inl rfl⟩, by rw [h2]; congr 1; omega⟩
        · rw [hx] at h2
          cases h2
          exact ⟨t.1, t.2.2, edA_mem.mpr ⟨t, ht, .inr rfl⟩, by rw [h1]; congr 1; omega⟩
theorem looked_w {S : Sto} {n g : Nat} (hg : g < n) : wE (Cm.m_looked_house [.int (n : Nat), .int (g : Nat)] S) fun _ S' => S' = S := by
  unfold Cm.m_looked_house
  rw [wE_fn (by rfl)]
  have c1 : (0 : Int) ≤ (g : Nat) := by omega
  have c2 : ((g : Nat) : Int) < (n : Nat) := by omega
  simp only [wE_ok, wE_bind, wS_seq, wS_next, wS_brk, wS_cont, wS_drop, wS_ret, wS_retN, wS_ifS, wS_asg, wS_gname, wS_gsub, wS_gnil, wS_gcons, wS_augI, wE_C, wE_nil, wE_cons, wE_tup, wE_lst, wE_op, wE_un, wE_cb, wE_isi, wE_isiT, wE_call, wE_g1, wE_g2, isB_bl, wE_tst, wE_not, wE_and, wE_or, wE_andV, wE_orV, wE_notV, wE_ifE, isI2_int, wE_int, wE_addI, wE_is, wE_mt, wE_mt0, wE_part, wE_noP, wE_sl, wE_chain, wS_for, wE_src, wE_seqI, wE_optI, wE_lc, wE_yes, wE_V0, wE_V1, wE_optR, wS_optS, wE_ix, ixW_lst, wE_get, gtW_lst, wGe1, wIx0, wIx1, wIx2, wIx3, wS_st, stW_lst, wSt0, wSt1, wSt2, wSt3, List.getElem?_cons_zero, List.getElem?_cons_succ, List.set_cons_zero, List.set_cons_succ, startM, List.map_cons, List.map_nil, List.length_cons, List.length_nil, List.replicate, List.cons_append, List.nil_append, List.set_set, c1, c2, decide_true, if_true, Bool.not_true, Bool.false_eq_true, if_false]
theorem isN_ov {o : Option Int} : isNonV (ov o) = o.isNone := by cases o <;> rfl
theorem wE_abs {i : Int} {S : Sto} {Q : VV → Sto → Prop} : wE (gAbs (.int i) S) Q = Q (.int (if i < 0 then -i else i)) S := rfl
theorem ovsome {x : Int} : ov (some x) = .int x := rfl
theorem far_holds_w {S : Sto} {T k n g : Nat} {ts : List Tie} {xs : List (Option Int)} (hT : S[T]? = some (.lst (ts.map tieV))) (hk : S[k]? = some (.lst (xs.map ov))) (hts : ∀ t ∈ ts, t.1 < n ∧ t.2.1 < n) (hg : g < n) (hn : n ≤ 20) (hl : ts.length ≤ 100) :
    wE (Cm.m_far_holds [.int (n : Nat), .ref T, .int (g : Nat), .ref k] S) fun v S' => ∃ b : Bool, v = .bl b ∧ (b = true ↔ xs.length = n ∧ Judged (edA ts) g (dOf xs)) ∧ Fr No S S' := by
  unfold Cm.m_far_holds
  rw [wE_fn (by rfl)]
  simp only [wS_seq, wS_drop, wE_call, wE_cons, wE_nil, wE_V0, wE_V1, startM, List.map_cons, List.map_nil, List.length_cons, List.length_nil, List.replicate, List.cons_append, List.nil_append]
  refine wE_mono (looked_w hg) fun _ S0 e0 => ?_
  subst e0
  simp only [wE_ok, wE_bind, wS_seq, wS_next, wS_brk, wS_cont, wS_drop, wS_ret, wS_retN, wS_ifS, wS_asg, wS_gname, wS_gsub, wS_gnil, wS_gcons, wS_augI, wE_C, wE_nil, wE_cons, wE_tup, wE_lst, wE_op, wE_un, wE_cb, wE_isi, wE_isiT, wE_call, wE_g1, wE_g2, isB_bl, wE_tst, wE_not, wE_and, wE_or, wE_andV, wE_orV, wE_notV, wE_ifE, isI2_int, wE_int, wE_addI, wE_is, wE_mt, wE_mt0, wE_part, wE_noP, wE_sl, wE_chain, wS_for, wE_src, wE_seqI, wE_optI, wE_lc, wE_yes, wE_V0, wE_V1, wE_optR, wS_optS, wE_ix, ixW_lst, wE_get, gtW_lst, wGe1, wIx0, wIx1, wIx2, wIx3, wS_st, stW_lst, wSt0, wSt1, wSt2, wSt3, List.getElem?_cons_zero, List.getElem?_cons_succ, List.set_cons_zero, List.set_cons_succ, startM, List.map_cons, List.map_nil, List.length_cons, List.length_nil, List.replicate, List.cons_append, List.nil_append, List.set_set, wE_lenL hk, wE_eqI]
  by_cases c1 : xs.length = n
  rotate_left
  · rw [if_pos (by simp; omega)]
    exact ⟨false, rfl, by simp [c1], Fr.refl _⟩
  subst c1
  rw [if_neg (by simp)]
  simp only [wE_ok, wE_bind, wS_seq, wS_next, wS_brk, wS_cont, wS_drop, wS_ret, wS_retN, wS_ifS, wS_asg, wS_gname, wS_gsub, wS_gnil, wS_gcons, wS_augI, wE_C, wE_nil, wE_cons, wE_tup, wE_lst, wE_op, wE_un, wE_cb, wE_isi, wE_isiT, wE_call, wE_g1, wE_g2, isB_bl, wE_tst, wE_not, wE_and, wE_or, wE_andV, wE_orV, wE_notV, wE_ifE, isI2_int, wE_int, wE_addI, wE_is, wE_mt, wE_mt0, wE_part, wE_noP, wE_sl, wE_chain, wS_for, wE_src, wE_seqI, wE_optI, wE_lc, wE_yes, wE_V0, wE_V1, wE_optR, wS_optS, wE_ix, ixW_lst, wE_get, gtW_lst, wGe1, wIx0, wIx1, wIx2, wIx3, wS_st, stW_lst, wSt0, wSt1, wSt2, wSt3, List.getElem?_cons_zero, List.getElem?_cons_succ, List.set_cons_zero, List.set_cons_succ, startM, List.map_cons, List.map_nil, List.length_cons, List.length_nil, List.replicate, List.cons_append, List.nil_append, List.set_set, hk, ix_ov hg, wE_eqO]
  by_cases c2 : dOf xs g = some 0
  rotate_left
  · rw [if_pos (by simpa using c2)]
    exact ⟨false, rfl, ⟨fun z => Bool.noConfusion z, fun z => absurd z.2.goal c2⟩, Fr.refl _⟩
  rw [if_neg (by simpa using c2), rng1_nat (show xs.length ≤ 1000000 by omega)]
  simp only [wE_ok, wE_bind, wS_seq, wS_next, wS_brk, wS_cont, wS_drop, wS_ret, wS_retN, wS_ifS, wS_asg, wS_gname, wS_gsub, wS_gnil, wS_gcons, wS_augI, wE_C, wE_nil, wE_cons, wE_tup, wE_lst, wE_op, wE_un, wE_cb, wE_isi, wE_isiT, wE_call, wE_g1, wE_g2, isB_bl, wE_tst, wE_not, wE_and, wE_or, wE_andV, wE_orV, wE_notV, wE_ifE, isI2_int, wE_int, wE_addI, wE_is, wE_mt, wE_mt0, wE_part, wE_noP, wE_sl, wE_chain, wS_for, wE_src, wE_seqI, wE_optI, wE_lc, wE_yes, wE_V0, wE_V1, wE_optR, wS_optS, wE_ix, ixW_lst, wE_get, gtW_lst, wGe1, wIx0, wIx1, wIx2, wIx3, wS_st, stW_lst, wSt0, wSt1, wSt2, wSt3, List.getElem?_cons_zero, List.getElem?_cons_succ, List.set_cons_zero, List.set_cons_succ, startM, List.map_cons, List.map_nil, List.length_cons, List.length_nil, List.replicate, List.cons_append, List.nil_append, List.set_set, wipeM]
  refine lc_flat (f := fun x => match x with
    | .int i => .bl (i == ((g : Nat) : Int))
    | _ => .non) (by simp; omega) (fun acc => trivial) (fun y acc hy => ?_) ?_
  · obtain ⟨i, hi, rfl⟩ := List.mem_map.mp hy
    unfold wG
    simp only [wE_ok, wE_bind, wS_seq, wS_next, wS_brk, wS_cont, wS_drop, wS_ret, wS_retN, wS_ifS, wS_asg, wS_gname, wS_gsub, wS_gnil, wS_gcons, wS_augI, wE_C, wE_nil, wE_cons, wE_tup, wE_lst, wE_op, wE_un, wE_cb, wE_isi, wE_isiT, wE_call, wE_g1, wE_g2, isB_bl, wE_tst, wE_not, wE_and, wE_or, wE_andV, wE_orV, wE_notV, wE_ifE, isI2_int, wE_int, wE_addI, wE_is, wE_mt, wE_mt0, wE_part, wE_noP, wE_sl, wE_chain, wS_for, wE_src, wE_seqI, wE_optI, wE_lc, wE_yes, wE_V0, wE_V1, wE_optR, wS_optS, wE_ix, ixW_lst, wE_get, gtW_lst, wGe1, wIx0, wIx1, wIx2, wIx3, wS_st, stW_lst, wSt0, wSt1, wSt2, wSt3, List.getElem?_cons_zero, List.getElem?_cons_succ, List.set_cons_zero, List.set_cons_succ, startM, List.map_cons, List.map_nil, List.length_cons, List.length_nil, List.replicate, List.cons_append, List.nil_append, List.set_set, wE_eqI, if_true, Bool.false_eq_true, if_false]
    refine ⟨?_, ?_, ?_, ?_, ?_⟩ <;> first | trivial | rfl
  have em : ((List.range xs.length).map fun i => VV.int (i : Nat)).map (fun x => match x with
    | .int i => VV.bl (i == ((g : Nat) : Int))
    | _ => .non) = bll xs.length fun h => decide (h = g) := by
    rw [List.map_map]
    refine List.map_congr_left fun h _ => ?_
    show VV.bl (((h : Nat) : Int) == ((g : Nat) : Int)) = VV.bl (decide (h = g))
    congr 1
    by_cases c : h = g
    · subst c; simp
    · rw [decide_eq_false c]; exact beq_false_of_ne (by omega)
  rw [em]
  have hT1 : (S0 ++ [OO.lst (bll xs.length fun h => decide (h = g))])[T]? = some (.lst (ts.map tieV)) := by rw [List.getElem?_append_left (lt_of_at hT)]; exact hT
  rw [srcOf_ref hT1]
  simp only [wE_ok, wE_bind, wS_seq, wS_next, wS_brk, wS_cont, wS_drop, wS_ret, wS_retN, wS_ifS, wS_asg, wS_gname, wS_gsub, wS_gnil, wS_gcons, wS_augI, wE_C, wE_nil, wE_cons, wE_tup, wE_lst, wE_op, wE_un, wE_cb, wE_isi, wE_isiT, wE_call, wE_g1, wE_g2, isB_bl, wE_tst, wE_not, wE_and, wE_or, wE_andV, wE_orV, wE_notV, wE_ifE, isI2_int, wE_int, wE_addI, wE_is, wE_mt, wE_mt0, wE_part, wE_noP, wE_sl, wE_chain, wS_for, wE_src, wE_seqI, wE_optI, wE_lc, wE_yes, wE_V0, wE_V1, wE_optR, wS_optS, wE_ix, ixW_lst, wE_get, gtW_lst, wGe1, wIx0, wIx1, wIx2, wIx3, wS_st, stW_lst, wSt0, wSt1, wSt2, wSt3, List.getElem?_cons_zero, List.getElem?_cons_succ, List.set_cons_zero, List.set_cons_succ, startM, List.map_cons, List.map_nil, List.length_cons, List.length_nil, List.replicate, List.cons_append, List.nil_append, List.set_set]
  refine forL_inv (fun i σ S' => ∃ (sh : Nat → Bool) (o5 o6 o7 o8 : Option VV), σ = [some (.int (xs.length : Nat)), some (.ref T), some (.int (g : Nat)), some (.ref k), some (.ref S0.length), o5, o6, o7, o8] ∧ S'[S0.length]? = some (.lst (bll xs.length sh)) ∧ (∀ t ∈ ts.take i, TOk (dOf xs) t) ∧ (∀ h, sh h = true ↔ h = g ∨ ∃ t ∈ ts.take i, TSh (dOf xs) t h) ∧ Fr No S0 S') ⟨_, _, _, _, _, rfl, get_last, fun t ht => (by cases ht), fun h => (by simp), Fr.app⟩ ?_ ?_ ?_
  · rintro i σ S' ⟨sh, o5, o6, o7, o8, _, _, _, _, f⟩
    exact f.at_ hT (fun z => z)
  · rintro i x σ S' hx ⟨sh, o5, o6, o7, o8, rfl, h1, h2, h3, f⟩
    rw [List.getElem?_map] at hx
    obtain ⟨⟨a, b, c⟩, ht, rfl⟩ := Option.map_eq_some_iff.mp hx
    have hm : (a, b, c) ∈ ts := List.mem_of_getElem? ht
    obtain ⟨ha, hb⟩ := hts _ hm
    dsimp only at ha hb
    have hk' := f.at_ hk (fun z => z)
    have htk : ts.take (i + 1) = ts.take i ++ [(a, b, c)] := by rw [List.take_add_one, ht]; rfl
    have okS : ∀ t, TOk (dOf xs) (a, b, c) → t ∈ ts.take (i + 1) → TOk (dOf xs) t := fun t q ht => by
      rw [htk] at ht
      rcases List.mem_append.mp ht with z | z
      · exact h2 t z
      · rw [List.mem_singleton] at z
        subst z
        exact q
    have shS : ∀ sh' : Nat → Bool, (∀ h, sh' h = true ↔ sh h = true ∨ TSh (dOf xs) (a, b, c) h) → ∀ h, sh' h = true ↔ h = g ∨ ∃ t ∈ ts.take (i + 1), TSh (dOf xs) t h := fun sh' q h => by
      rw [q h, h3 h, htk]
      constructor
      · rintro ((z | ⟨t, z1, z2⟩) | z)
        · exact .inl z
        · exact .inr ⟨t, List.mem_append_left _ z1, z2⟩
        · exact .inr ⟨_, List.mem_append_right _ (List.mem_singleton_self _), z⟩
      · rintro (z | ⟨t, z1, z2⟩)
        · exact .inl (.inl z)
        · rcases List.mem_append.mp z1 with z1 | z1
          · exact .inl (.inr ⟨t, z1, z2⟩)
          · rw [List.mem_singleton] at z1
            subst z1
            exact .inr z2
    unfold tieV
    rw [wS_gtup (by rfl)]
    simp only [wE_ok, wE_bind, wS_seq, wS_next, wS_brk, wS_cont, wS_drop, wS_ret, wS_retN, wS_ifS, wS_asg, wS_gname, wS_gsub, wS_gnil, wS_gcons, wS_augI, wE_C, wE_nil, wE_cons, wE_tup, wE_lst, wE_op, wE_un, wE_cb, wE_isi, wE_isiT, wE_call, wE_g1, wE_g2, isB_bl, wE_tst, wE_not, wE_and, wE_or, wE_andV, wE_orV, wE_notV, wE_ifE, isI2_int, wE_int, wE_addI, wE_is, wE_mt, wE_mt0, wE_part, wE_noP, wE_sl, wE_chain, wS_for, wE_src, wE_seqI, wE_optI, wE_lc, wE_yes, wE_V0, wE_V1, wE_optR, wS_optS, wE_ix, ixW_lst, wE_get, gtW_lst, wGe1, wIx0, wIx1, wIx2, wIx3, wS_st, stW_lst, wSt0, wSt1, wSt2, wSt3, List.getElem?_cons_zero, List.getElem?_cons_succ, List.set_cons_zero, List.set_cons_succ, startM, List.map_cons, List.map_nil, List.length_cons, List.length_nil, List.replicate, List.cons_append, List.nil_append, List.set_set, hk', ix_ov ha, ix_ov hb, wE_eqBl, isN_ov, Bool.false_eq_true, if_false, if_true]
    cases qa : dOf xs a with
    | none =>
      cases qb : dOf xs b with
      | none =>
        simp only [wE_ok, wE_bind, wS_seq, wS_next, wS_brk, wS_cont, wS_drop, wS_ret, wS_retN, wS_ifS, wS_asg, wS_gname, wS_gsub, wS_gnil, wS_gcons, wS_augI, wE_C, wE_nil, wE_cons, wE_tup, wE_lst, wE_op, wE_un, wE_cb, wE_isi, wE_isiT, wE_call, wE_g1, wE_g2, isB_bl, wE_tst, wE_not, wE_and, wE_or, wE_andV, wE_orV, wE_notV, wE_ifE, isI2_int, wE_int, wE_addI, wE_is, wE_mt, wE_mt0, wE_part, wE_noP, wE_sl, wE_chain, wS_for, wE_src, wE_seqI, wE_optI, wE_lc, wE_yes, wE_V0, wE_V1, wE_optR, wS_optS, wE_ix, ixW_lst, wE_get, gtW_lst, wGe1, wIx0, wIx1, wIx2, wIx3, wS_st, stW_lst, wSt0, wSt1, wSt2, wSt3, List.getElem?_cons_zero, List.getElem?_cons_succ, List.set_cons_zero, List.set_cons_succ, startM, List.map_cons, List.map_nil, List.length_cons, List.length_nil, List.replicate, List.cons_append, List.nil_append, List.set_set, qa, qb, Option.isNone_none, Bool.not_true, Bool.false_eq_true, if_false, if_true, beq_self_eq_true]
        exact ⟨sh, _, _, _, _, rfl, h1, fun t ht => okS t ⟨by simp [qa, qb], fun x y hx => (by dsimp only at hx; rw [qa] at hx; cases hx)⟩ ht, shS sh fun h => ⟨.inl, fun z => z.elim id fun ⟨x, y, hx, _⟩ => (by dsimp only at hx; rw [qa] at hx; cases hx)⟩, f⟩
      | some y =>
        rw [if_pos (by simp)]
        exact ⟨false, rfl, ⟨fun z => Bool.noConfusion z, fun z => (by have := (judged_ok z.2 hm).1.mp qa; dsimp only at this; rw [qb] at this; cases this)⟩, f⟩
    | some x =>
      cases qb : dOf xs b with
      | none =>
        rw [if_pos (by simp)]
        exact ⟨false, rfl, ⟨fun z => Bool.noConfusion z, fun z => (by have := (judged_ok z.2 hm).1.mpr qb; dsimp only at this; rw [qa] at this; cases this)⟩, f⟩
      | some y =>
        simp only [wE_ok, wE_bind, wS_seq, wS_next, wS_brk, wS_cont, wS_drop, wS_ret, wS_retN, wS_ifS, wS_asg, wS_gname, wS_gsub, wS_gnil, wS_gcons, wS_augI, wE_C, wE_nil, wE_cons, wE_tup, wE_lst, wE_op, wE_un, wE_cb, wE_isi, wE_isiT, wE_call, wE_g1, wE_g2, isB_bl, wE_tst, wE_not, wE_and, wE_or, wE_andV, wE_orV, wE_notV, wE_ifE, isI2_int, wE_int, wE_addI, wE_is, wE_mt, wE_mt0, wE_part, wE_noP, wE_sl, wE_chain, wS_for, wE_src, wE_seqI, wE_optI, wE_lc, wE_yes, wE_V0, wE_V1, wE_optR, wS_optS, wE_ix, ixW_lst, wE_get, gtW_lst, wGe1, wIx0, wIx1, wIx2, wIx3, wS_st, stW_lst, wSt0, wSt1, wSt2, wSt3, List.getElem?_cons_zero, List.getElem?_cons_succ, List.set_cons_zero, List.set_cons_succ, startM, List.map_cons, List.map_nil, List.length_cons, List.length_nil, List.replicate, List.cons_append, List.nil_append, List.set_set, Option.isNone_some, Bool.not_false, beq_self_eq_true, Bool.not_true, Bool.false_eq_true, if_false, if_true, ovsome, wE_abs, wE_gt, wE_eqI]
        by_cases c3 : x - y ≤ (c : Int) ∧ y - x ≤ (c : Int)
        rotate_left
        · rw [if_pos (by split <;> (refine decide_eq_true ?_; omega))]
          refine ⟨false, rfl, ⟨fun z => Bool.noConfusion z, fun z => absurd ((judged_ok z.2 hm).2 x y qa qb) c3⟩, f⟩
        rw [if_neg (by split <;> (rw [decide_eq_true_iff]; omega))]
        have hk2 : ∀ o, (S'.set S0.length o)[k]? = some (.lst (xs.map ov)) := fun o => by
          rw [List.getElem?_set_ne (by have := lt_of_at hk; omega)]
          exact hk'
        have ok2 : TOk (dOf xs) (a, b, c) := ⟨by simp [qa, qb], fun x' y' hx hy => (by dsimp only at hx hy; rw [qa] at hx; rw [qb] at hy; cases hx; cases hy; exact c3)⟩
        have ts2 : ∀ h, TSh (dOf xs) (a, b, c) h ↔ (h = a ∧ x - y = (c : Int)) ∨ (h = b ∧ y - x = (c : Int)) := fun h => by
          constructor
          · rintro ⟨x', y', z1, z2, z3⟩
            dsimp only at z1 z2 z3
            rw [qa] at z1
            rw [qb] at z2
            cases z1
            cases z2
            exact z3
          · exact fun z => ⟨x, y, qa, qb, z⟩
        simp only [wE_ok, wE_bind, wS_seq, wS_next, wS_brk, wS_cont, wS_drop, wS_ret, wS_retN, wS_ifS, wS_asg, wS_gname, wS_gsub, wS_gnil, wS_gcons, wS_augI, wE_C, wE_nil, wE_cons, wE_tup, wE_lst, wE_op, wE_un, wE_cb, wE_isi, wE_isiT, wE_call, wE_g1, wE_g2, isB_bl, wE_tst, wE_not, wE_and, wE_or, wE_andV, wE_orV, wE_notV, wE_ifE, isI2_int, wE_int, wE_addI, wE_is, wE_mt, wE_mt0, wE_part, wE_noP, wE_sl, wE_chain, wS_for, wE_src, wE_seqI, wE_optI, wE_lc, wE_yes, wE_V0, wE_V1, wE_optR, wS_optS, wE_ix, ixW_lst, wE_get, gtW_lst, wGe1, wIx0, wIx1, wIx2, wIx3, wS_st, stW_lst, wSt0, wSt1, wSt2, wSt3, List.getElem?_cons_zero, List.getElem?_cons_succ, List.set_cons_zero, List.set_cons_succ, startM, List.map_cons, List.map_nil, List.length_cons, List.length_nil, List.replicate, List.cons_append, List.nil_append, List.set_set, hk', hk2, ix_ov ha, ix_ov hb, qa, qb, ovsome, wE_eqI, Bool.false_eq_true, if_false, h1, set_at h1, wSt_bll ha, wSt_bll hb]
        have f2 : ∀ o, Fr No S0 (S'.set S0.length o) := fun o => f.new (Fr.set (.inl (Nat.le_refl _)))
        by_cases e1 : x - y = (c : Int)
        · rw [if_pos (by simpa using e1)]
          by_cases e2 : y - x = (c : Int)
          · rw [if_pos (by simpa using e2)]
            refine ⟨_, _, _, _, _, rfl, rfl, fun t ht => okS t ok2 ht, shS _ (fun h => ?_), f2 _⟩
            rw [ts2 h]
            simp only [Bool.or_eq_true, decide_eq_true_eq]
            constructor
            · rintro ((z | z) | z)
              · exact .inl z
              · exact .inr (.inl ⟨z, e1⟩)
              · exact .inr (.inr ⟨z, e2⟩)
            · rintro (z | ⟨z, _⟩ | ⟨z, _⟩)
              · exact .inl (.inl z)
              · exact .inl (.inr z)
              · exact .inr z
          · rw [if_neg (by simpa using e2)]
            refine ⟨_, _, _, _, _, rfl, rfl, fun t ht => okS t ok2 ht, shS _ (fun h => ?_), f2 _⟩
            rw [ts2 h]
            simp only [Bool.or_eq_true, decide_eq_true_eq]
            constructor
            · rintro (z | z)
              · exact .inl z
              · exact .inr (.inl ⟨z, e1⟩)
            · rintro (z | ⟨z, _⟩ | ⟨_, z⟩)
              · exact .inl z
              · exact .inr z
              · exact absurd z e2
        · rw [if_neg (by simpa using e1)]
          by_cases e2 : y - x = (c : Int)
          · rw [if_pos (by simpa using e2)]
            refine ⟨_, _, _, _, _, rfl, rfl, fun t ht => okS t ok2 ht, shS _ (fun h => ?_), f2 _⟩
            rw [ts2 h]
            simp only [Bool.or_eq_true, decide_eq_true_eq]
            constructor
            · rintro (z | z)
              · exact .inl z
              · exact .inr (.inr ⟨z, e2⟩)
            · rintro (z | ⟨_, z⟩ | ⟨z, _⟩)
              · exact .inl z
              · exact absurd z e1
              · exact .inr z
          · rw [if_neg (by simpa using e2)]
            refine ⟨_, _, _, _, _, rfl, rfl, fun t ht => okS t ok2 ht, shS _ (fun h => ?_), f⟩
            rw [ts2 h]
            exact ⟨.inl, fun z => z.elim id fun z => z.elim (fun z => absurd z.2 e1) fun z => absurd z.2 e2⟩
  · rintro σ S' ⟨sh, o5, o6, o7, o8, rfl, h1, h2, h3, f⟩
    have hk' := f.at_ hk (fun z => z)
    rw [List.length_map, List.take_length] at h2 h3
    simp only [wE_ok, wE_bind, wS_seq, wS_next, wS_brk, wS_cont, wS_drop, wS_ret, wS_retN, wS_ifS, wS_asg, wS_gname, wS_gsub, wS_gnil, wS_gcons, wS_augI, wE_C, wE_nil, wE_cons, wE_tup, wE_lst, wE_op, wE_un, wE_cb, wE_isi, wE_isiT, wE_call, wE_g1, wE_g2, isB_bl, wE_tst, wE_not, wE_and, wE_or, wE_andV, wE_orV, wE_notV, wE_ifE, isI2_int, wE_int, wE_addI, wE_is, wE_mt, wE_mt0, wE_part, wE_noP, wE_sl, wE_chain, wS_for, wE_src, wE_seqI, wE_optI, wE_lc, wE_yes, wE_V0, wE_V1, wE_optR, wS_optS, wE_ix, ixW_lst, wE_get, gtW_lst, wGe1, wIx0, wIx1, wIx2, wIx3, wS_st, stW_lst, wSt0, wSt1, wSt2, wSt3, List.getElem?_cons_zero, List.getElem?_cons_succ, List.set_cons_zero, List.set_cons_succ, startM, List.map_cons, List.map_nil, List.length_cons, List.length_nil, List.replicate, List.cons_append, List.nil_append, List.set_set, rng1_nat (show xs.length ≤ 1000000 by omega), wipeM]
    refine lc_flat (f := fun x => match x with
      | .int i => .bl ((dOf xs i.toNat).isNone || sh i.toNat)
      | _ => .non) (by simp; omega) (fun acc => trivial) (fun y acc hy => ?_) ?_
    · obtain ⟨i, hi, rfl⟩ := List.mem_map.mp hy
      have hi := List.mem_range.mp hi
      have hk3 : (S' ++ [OO.lst acc])[k]? = some (.lst (xs.map ov)) := by rw [List.getElem?_append_left (lt_of_at hk')]; exact hk'
      have h13 : (S' ++ [OO.lst acc])[S0.length]? = some (.lst (bll xs.length sh)) := by rw [List.getElem?_append_left (lt_of_at h1)]; exact h1
      unfold wG
      simp only [wE_ok, wE_bind, wS_seq, wS_next, wS_brk, wS_cont, wS_drop, wS_ret, wS_retN, wS_ifS, wS_asg, wS_gname, wS_gsub, wS_gnil, wS_gcons, wS_augI, wE_C, wE_nil, wE_cons, wE_tup, wE_lst, wE_op, wE_un, wE_cb, wE_isi, wE_isiT, wE_call, wE_g1, wE_g2, isB_bl, wE_tst, wE_not, wE_and, wE_or, wE_andV, wE_orV, wE_notV, wE_ifE, isI2_int, wE_int, wE_addI, wE_is, wE_mt, wE_mt0, wE_part, wE_noP, wE_sl, wE_chain, wS_for, wE_src, wE_seqI, wE_optI, wE_lc, wE_yes, wE_V0, wE_V1, wE_optR, wS_optS, wE_ix, ixW_lst, wE_get, gtW_lst, wGe1, wIx0, wIx1, wIx2, wIx3, wS_st, stW_lst, wSt0, wSt1, wSt2, wSt3, List.getElem?_cons_zero, List.getElem?_cons_succ, List.set_cons_zero, List.set_cons_succ, startM, List.map_cons, List.map_nil, List.length_cons, List.length_nil, List.replicate, List.cons_append, List.nil_append, List.set_set, hk3, h13, ix_ov hi, wIx_bll hi, isN_ov, if_true, Bool.false_eq_true, if_false]
      refine ⟨?_, ?_, ?_⟩
      · first | trivial | rfl
      · first | trivial | rfl
      · cases q : (dOf xs i).isNone with
        | true =>
          rw [if_pos rfl]
          refine ⟨by first | trivial | rfl, ?_, trivial⟩
          show _ = VV.bl ((dOf xs i).isNone || sh i)
          rw [q]
          rfl
        | false =>
          rw [if_neg (by decide)]
          refine ⟨by first | trivial | rfl, ?_, trivial⟩
          show _ = VV.bl ((dOf xs i).isNone || sh i)
          rw [q]
          rfl
    · have em2 : ((List.range xs.length).map fun i => VV.int (i : Nat)).map (fun x => match x with
        | .int i => VV.bl ((dOf xs i.toNat).isNone || sh i.toNat)
        | _ => .non) = ((List.range xs.length).map fun i => ((dOf xs i).isNone || sh i)).map VV.bl := by
        rw [List.map_map, List.map_map]
        rfl
      rw [em2, wE_allB get_last]
      refine ⟨_, rfl, ?_, f.trans Fr.app⟩
      rw [true_and, judged_iff c2 h2 (fun h x hx => dOf_lt hx), List.all_eq_true]
      constructor
      · intro q h hh
        have := q _ (List.mem_map.mpr ⟨h, List.mem_range.mpr hh, rfl⟩)
        rw [id, Bool.or_eq_true] at this
        rcases this with z | z
        · exact .inl (Option.isNone_iff_eq_none.mp z)
        · exact .inr ((h3 h).mp z)
      · intro q y hy
        obtain ⟨h, hh, rfl⟩ := List.mem_map.mp hy
        rw [id, Bool.or_eq_true]
        rcases q h (List.mem_range.mp hh) with z | z
        · exact .inl (Option.isNone_iff_eq_none.mpr z)
        · exact .inr ((h3 h).mpr z)
end Sx
end
/-! CmP5: odd bits: far numbers, lists of prices as data. -/
noncomputable section
namespace Sx
open PySem L2 Gr
theorem wIx_of {xs : List VV} {t : Int} {Q : VV → Prop} (h0 : 0 ≤ t) (h1 : t < xs.length) (h : ∀ x ∈ xs, Q x) : wIx xs (.int t) Q := by
  have hl : t.toNat < xs.length := by omega
  rw [wIx_nat h0 (List.getElem?_eq_getElem hl)]
  exact h _ (List.getElem_mem hl)
theorem wE_neg {i : Int} {S : Sto} {Q : VV → Sto → Prop} : wE (gNeg (.int i) S) Q = Q (.int (-i)) S := rfl
theorem wE_lt {i j : Int} {S : Sto} {Q : VV → Sto → Prop} : wE (gLt (.int i) (.int j) S) Q = Q (.bl (decide (i < j))) S := rfl
theorem wild_w {S : Sto} {b c : Nat} (hb : Box S b c) : wE (Cm.m__law_wild [.ref b] S) fun v S' => ∃ i : Int, v = .int i ∧ Box S' b c ∧ Fr (fun n => n = b) S S' := by
  unfold Cm.m__law_wild
  rw [wE_fn (by rfl)]
  have p20 : ∀ S Q, wE (gPow (.int 10) (.int 20) S) Q = Q (.int ((10 : Int) ^ 20)) S := fun S Q => wE_pow (by decide) (by decide) (by decide)
  have p30 : ∀ S Q, wE (gPow (.int 10) (.int 30) S) Q = Q (.int ((10 : Int) ^ 30)) S := fun S Q => wE_pow (by decide) (by decide) (by decide)
  simp only [wE_ok, wE_bind, wS_seq, wS_next, wS_brk, wS_cont, wS_drop, wS_ret, wS_retN, wS_ifS, wS_asg, wS_gname, wS_gsub, wS_gnil, wS_gcons, wS_augI, wE_C, wE_nil, wE_cons, wE_tup, wE_lst, wE_op, wE_un, wE_cb, wE_isi, wE_isiT, wE_call, wE_g1, wE_g2, isB_bl, wE_tst, wE_not, wE_and, wE_or, wE_andV, wE_orV, wE_notV, wE_ifE, isI2_int, wE_int, wE_addI, wE_is, wE_mt, wE_mt0, wE_part, wE_noP, wE_sl, wE_chain, wS_for, wE_src, wE_seqI, wE_optI, wE_lc, wE_yes, wE_V0, wE_V1, wE_optR, wS_optS, wE_ix, ixW_lst, wE_get, gtW_lst, wGe1, wIx0, wIx1, wIx2, wIx3, wS_st, stW_lst, wSt0, wSt1, wSt2, wSt3, List.getElem?_cons_zero, List.getElem?_cons_succ, List.set_cons_zero, List.set_cons_succ, startM, List.map_cons, List.map_nil, List.length_cons, List.length_nil, List.replicate, List.cons_append, List.nil_append, List.set_set, p20, p30, wE_neg]
  rw [if_pos (by decide)]
  refine wE_mono (take_w hb.app (by decide) (by decide)) fun v S3 ⟨u, hv, u0, u1, b3, f3⟩ => ?_
  subst hv
  have hbl := hb.lt
  rw [f3.at_ get_last (by omega), ixW_lst]
  refine wIx_of u0 u1 fun x hx => ?_
  have hi : ∃ i : Int, x = .int i := by
    simp only [List.mem_cons, List.not_mem_nil, or_false] at hx
    rcases hx with rfl | rfl | rfl | rfl | rfl <;> exact ⟨_, rfl⟩
  exact ⟨hi.choose, hi.choose_spec, b3, Fr.app.trans f3⟩
/-- a list of prices at k -/
abbrev Lo (S : Sto) (k : Nat) (xs : List (Option Int)) : Prop := S[k]? = some (.lst (xs.map ov))
theorem set_ov {xs : List (Option Int)} {a : Nat} {o : Option Int} : (xs.map ov).set a (ov o) = (xs.set a o).map ov := by rw [List.map_set]
theorem wSt_ov {xs : List (Option Int)} {a : Nat} {o : Option Int} {v : VV} {Q : List VV → Prop} (hv : v = ov o) (h : a < xs.length) : wSt (xs.map ov) (.int (a : Nat)) v Q = Q ((xs.set a o).map ov) := by
  subst hv
  rw [wSt_nat (by omega) (by rw [List.length_map]; omega), Int.toNat_natCast, set_ov]
theorem isT_ov {S : Sto} {o : Option Int} {Q : Bool → Prop} : isT S (ov o) Q = Q (match o with
  | some i => i != 0
  | none => false) := by cases o <;> rfl
theorem wE_slL {S : Sto} {r : Nat} {xs : List VV} {lo hi : Option Int} {Q : VV → Sto → Prop} (h : S[r]? = some (.lst xs)) : wE (gSl (.ref r) lo hi S) Q = Q (.ref S.length) (S ++ [.lst (cutM xs lo hi)]) := by
  unfold gSl
  dsimp only
  rw [h]
  rfl
theorem cut_ov {ys : List (Option Int)} {lo hi : Option Int} : ∃ zs : List (Option Int), cutM (ys.map ov) lo hi = zs.map ov ∧ zs.length ≤ ys.length := by
  unfold cutM
  rw [← List.map_drop, ← List.map_take]
  exact ⟨_, rfl, by rw [List.length_take, List.length_drop]; omega⟩
theorem bl_dt {S : Sto} {n : Nat} {b : Bool} : dtA S n (.bl b) = some (.bool b) := by unfold dtA; rfl
theorem bl_ok (b : Bool) : okD (.bool b) = true := by unfold okD; rfl
theorem eqv_od : ∀ xs ys : List (Option Int), PyData.eqvAll (xs.map od) (ys.map od) = decide (xs = ys)
  | [], [] => by simp [PyData.eqvAll]
  | [], y :: ys => by simp [PyData.eqvAll]
  | x :: xs, [] => by simp [PyData.eqvAll]
  | x :: xs, y :: ys => by
    simp only [List.map_cons, PyData.eqvAll, eqv_od xs ys]
    cases x with
    | none =>
      cases y with
      | none => simp [od, PyData.eqv]
      | some j => simp [od, PyData.eqv]
    | some i =>
      cases y with
      | none => simp [od, PyData.eqv]
      | some j =>
        simp only [od, PyData.eqv]
        by_cases c : i = j
        · subst c; simp
        · simp [c]
theorem lo_dt {S : Sto} {k m : Nat} {xs : List (Option Int)} (h : Lo S k xs) : dtA S (m + 1) (.ref k) = some (.list (xs.map od)) := dtA_flat h fun x _ => ov_dt _
theorem lo_ok {xs : List (Option Int)} (h : xs.length ≤ 1000) : okD (.list (xs.map od)) = true := okD_list (by simpa using h) fun x hx => by
  obtain ⟨y, _, rfl⟩ := List.mem_map.mp hx
  exact od_ok _
theorem wE_eqLo {S : Sto} {neg : Bool} {k m : Nat} {xs ys : List (Option Int)} {Q : VV → Sto → Prop} (h1 : Lo S k xs) (h2 : Lo S m ys) (l1 : xs.length ≤ 1000) (l2 : ys.length ≤ 1000) : wE (gEq neg (.ref k) (.ref m) S) Q = Q (.bl (if neg = true then !decide (xs = ys) else decide (xs = ys))) S := by
  rw [wE_eqA (lo_dt (m := 3) h1) (lo_dt (m := 3) h2) (by decide) (by decide) (lo_ok l1) (lo_ok l2)]
  have e : PyData.eqv (.list (xs.map od)) (.list (ys.map od)) = decide (xs = ys) := by
    simp only [PyData.eqv]
    exact eqv_od xs ys
  rw [e]
end Sx
end
/-! Sy5: what a mirror does, with what it raises. -/
noncomputable section
namespace Sx
open PySem L2
abbrev XQ := Nat → Sto → Prop
def wX {α : Type} (r : Res α) (Q : α → Sto → Prop) (E : XQ) : Prop := match r with
  | .ok a S => Q a S
  | .exc n S => E n S
  | .fail => False
abbrev YQ := Nat → Sg → Sto → Prop
def wY (r : SR) (P : Po) (E : YQ) : Prop := match r with
  | .nx σ S => P.nx σ S
  | .rt v S => P.rt v S
  | .bk σ S => P.bk σ S
  | .ct σ S => P.ct σ S
  | .exc n σ S => E n σ S
  | .fail => False
section
variable {α β : Type} {P : Po} {E : XQ} {F : YQ} {σ : Sg} {S : Sto}
theorem wX_ok {a : α} {Q : α → Sto → Prop} : wX (.ok a S) Q E = Q a S := (rfl)
theorem wX_exc {n : Nat} {Q : α → Sto → Prop} : wX (.exc n S) Q E = E n S := (rfl)
theorem wX_bind {r : Res α} {k : α → Sto → Res β} {Q : β → Sto → Prop} : wX (r.bind k) Q E = wX r (fun a S => wX (k a S) Q E) E := by cases r <;> rfl
theorem wX_if {c : Prop} [Decidable c] {a b : Res α} {Q : α → Sto → Prop} : wX (if c then a else b) Q E = if c then wX a Q E else wX b Q E := by split <;> rfl
theorem wX_mono {r : Res α} {Q Q' : α → Sto → Prop} {E' : XQ} (h : wX r Q E) (k : ∀ a S, Q a S → Q' a S) (k2 : ∀ n S, E n S → E' n S) : wX r Q' E' := by
  cases r with
  | ok a S => exact k _ _ h
  | exc n S => exact k2 _ _ h
  | fail => exact h
theorem wX_of {r : Res α} {Q : α → Sto → Prop} (h : wE r Q) : wX r Q E := by
  cases r with
  | ok a S => exact h
  | exc n S => exact h.elim
  | fail => exact h
theorem wX_no {r : Res α} {Q : α → Sto → Prop} (h : NoX r) : wX r Q E = wE r Q := by
  cases r with
  | ok a S => rfl
  | exc n S => exact absurd rfl (h n S)
  | fail => rfl
theorem wE_X {r : Res α} {Q : α → Sto → Prop} (h : wX r Q fun _ _ => False) : wE r Q := by
  cases r with
  | ok a S => exact h
  | exc n S => exact h.elim
  | fail => exact h
theorem wY_mono {r : SR} {P' : Po} {F' : YQ} (h : wY r P F) (h1 : ∀ σ S, P.nx σ S → P'.nx σ S) (h2 : ∀ v S, P.rt v S → P'.rt v S) (h3 : ∀ σ S, P.bk σ S → P'.bk σ S) (h4 : ∀ σ S, P.ct σ S → P'.ct σ S) (h5 : ∀ n σ S, F n σ S → F' n σ S) : wY r P' F' := by
  cases r with
  | nx σ S => exact h1 _ _ h
  | rt v S => exact h2 _ _ h
  | bk σ S => exact h3 _ _ h
  | ct σ S => exact h4 _ _ h
  | exc n σ S => exact h5 _ _ _ h
  | fail => exact h
theorem wY_of {r : SR} (h : wS r P) : wY r P F := by
  cases r with
  | exc n σ S => exact h.elim
  | fail => exact h
  | _ => exact h
theorem wS_Y {r : SR} (h : wY r P fun _ _ _ => False) : wS r P := by
  cases r with
  | exc n σ S => exact h.elim
  | fail => exact h
  | _ => exact h
theorem wY_toS {r : Res VV} {k : VV → Sto → SR} : wY (r.toS σ k) P F = wX r (fun a S => wY (k a S) P F) (fun n S => F n σ S) := by cases r <;> rfl
theorem wY_toT {r : Res Bool} {k : Bool → Sto → SR} : wY (r.toT σ k) P F = wX r (fun a S => wY (k a S) P F) (fun n S => F n σ S) := by cases r <;> rfl
theorem wY_toSL {r : Res (List VV)} {k : List VV → Sto → SR} : wY (r.toSL σ k) P F = wX r (fun a S => wY (k a S) P F) (fun n S => F n σ S) := by cases r <;> rfl
theorem wY_andThen {r : SR} {k : Sg → Sto → SR} : wY (r.andThen k) P F = wY r { P with nx := fun σ S => wY (k σ S) P F } F := by cases r <;> rfl
theorem wY_nxo {r : SR} : wY r.nxo P F = wY r { nx := P.nx } F := by cases r <;> rfl
theorem wX_fin {r : SR} {Q : VV → Sto → Prop} : wX r.fin Q E = wY r { nx := fun _ S => Q .non S, rt := Q } (fun n _ S => E n S) := by cases r <;> rfl
theorem wY_seq {a b : SM} : wY (mSeq a b σ S) P F = wY (a σ S) { P with nx := fun σ S => wY (b σ S) P F } F := wY_andThen
theorem wY_next : wY (mNext σ S) P F = P.nx σ S := (rfl)
theorem wY_brk : wY (mBrk σ S) P F = P.bk σ S := (rfl)
theorem wY_cont : wY (mCt σ S) P F = P.ct σ S := (rfl)
theorem wY_drop {e : EM} : wY (mDrop e σ S) P F = wX (e σ S) (fun _ S => P.nx σ S) (fun n S => F n σ S) := wY_toS
theorem wY_ret {e : EM} : wY (mRet e σ S) P F = wX (e σ S) P.rt (fun n S => F n σ S) := wY_toS
theorem wY_retN : wY (mRetN σ S) P F = P.rt .non S := (rfl)
theorem wY_ifS {t : TM} {a b : SM} : wY (mIfS t a b σ S) P F = wX (t σ S) (fun c S => if c = true then wY (a σ S) P F else wY (b σ S) P F) (fun n S => F n σ S) := by
  unfold mIfS
  rw [wY_toT]
  congr 1
  funext c S
  split <;> rfl
theorem wY_S {r : SR} (h : ∀ n σ S, r ≠ .exc n σ S) : wY r P F = wS r P := by
  cases r with
  | exc n σ S => exact absurd rfl (h n σ S)
  | _ => rfl
theorem wY_asgN {e : EM} {i : Nat} : wY (mAsg e (gmName i) σ S) P F = wX (e σ S) (fun x S => P.nx (σ.set i (some x)) S) (fun n S => F n σ S) := by
  unfold mAsg
  rw [wY_toS]
  rfl
theorem wY_raise {c : Nat} {word : Str} {a : AM} : wY (mRaise c word a σ S) P F = wX (a σ S) (fun xs S => F S.length σ (S ++ [.xd c (.str word :: xs)])) (fun n S => F n σ S) := wY_toSL
theorem wY_raiseL {c n : Nat} {word : Str} {ys : List VV} {e : EM} {T : Sto} (h : e σ S = .ok (.ref n) T) (h2 : T[n]? = some (.lst ys)) : wY (mRaiseL c word e σ S) P F = F (T.length + 1) σ (T ++ [.lst ys, .xd c [.str word, .ref T.length]]) := by
  unfold mRaiseL
  rw [h]
  show wY (match refL T (.ref n) with
    | some ys => .exc (T.length + 1) σ (T ++ [.lst ys, .xd c [.str word, .ref T.length]])
    | none => .fail) P F = _
  have e0 : refL T (.ref n) = some ys := by
    unfold refL
    dsimp only
    rw [h2]
    rfl
  rw [e0]
  rfl
theorem wX_fn {np n : Nat} {b : SM} {args : List VV} {Q : VV → Sto → Prop} (h : args.length = np) : wX (fnM np n b args S) Q E = wY (b (startM n args) S) { nx := fun _ S => Q .non S, rt := Q } (fun n _ S => E n S) := by
  unfold fnM
  rw [if_pos h]
  exact wX_fin
theorem wX_V {i : Nat} {Q : VV → Sto → Prop} : wX (mV i σ S) Q E = wE (mV i σ S) Q := wX_no fun n T e => by
  unfold mV at e
  split at e <;> cases e
theorem wX_C {x : VV} {Q : VV → Sto → Prop} : wX (mC x σ S) Q E = Q x S := (rfl)
theorem wX_nil {Q : List VV → Sto → Prop} : wX (mNil σ S) Q E = Q [] S := (rfl)
theorem wX_cons {a : EM} {r : AM} {Q : List VV → Sto → Prop} : wX (mCons a r σ S) Q E = wX (a σ S) (fun x S => wX (r σ S) (fun xs S => Q (x :: xs) S) E) E := by
  unfold mCons
  rw [wX_bind]
  congr 1
  funext x S
  rw [wX_bind]
  rfl
theorem wX_tup {a : AM} {Q : VV → Sto → Prop} : wX (mTup a σ S) Q E = wX (a σ S) (fun xs S => if xs.length ≤ 100000 then Q (.tup xs) S else False) E := by
  unfold mTup
  rw [wX_bind]
  congr 1
  funext x S
  exact wX_if
theorem wX_lst {a : AM} {Q : VV → Sto → Prop} : wX (mLst a σ S) Q E = wX (a σ S) (fun xs S => if xs.length ≤ 100000 then Q (.ref S.length) (S ++ [.lst xs]) else False) E := by
  unfold mLst
  rw [wX_bind]
  congr 1
  funext x S
  exact wX_if
theorem wX_op {g : VV → VV → Sto → Res VV} {a b : EM} {Q : VV → Sto → Prop} : wX (mOp g a b σ S) Q E = wX (a σ S) (fun x S => wX (b σ S) (fun y S => wX (g x y S) Q E) E) E := by
  unfold mOp
  rw [wX_bind]
  congr 1
  funext x S
  exact wX_bind
theorem wX_un {g : VV → Sto → Res VV} {a : EM} {Q : VV → Sto → Prop} : wX (mUn g a σ S) Q E = wX (a σ S) (fun x S => wX (g x S) Q E) E := wX_bind
theorem wX_cb {g : List VV → Sto → Res VV} {a : AM} {Q : VV → Sto → Prop} : wX (mCB g a σ S) Q E = wX (a σ S) (fun x S => wX (g x S) Q E) E := wX_bind
theorem wX_call {m : FM} {a : AM} {Q : VV → Sto → Prop} : wX (mCall m a σ S) Q E = wX (a σ S) (fun x S => wX (m x S) Q E) E := wX_bind
theorem wX_g1 {g : VV → Sto → Res VV} {x : VV} {Q : VV → Sto → Prop} : wX (g1 g [x] S) Q E = wX (g x S) Q E := (rfl)
theorem wX_g2 {g : VV → VV → Sto → Res VV} {x y : VV} {Q : VV → Sto → Prop} : wX (g2 g [x, y] S) Q E = wX (g x y S) Q E := (rfl)
theorem wX_tst {a : EM} {Q : Bool → Sto → Prop} : wX (mTst a σ S) Q E = wX (a σ S) (fun x S => isB x fun b => Q b S) E := by
  unfold mTst
  rw [wX_bind]
  congr 1
  funext x S
  cases x <;> rfl
theorem wX_not {a : TM} {Q : Bool → Sto → Prop} : wX (mNot a σ S) Q E = wX (a σ S) (fun b S => Q (!b) S) E := wX_bind
theorem wX_and {a b : TM} {Q : Bool → Sto → Prop} : wX (mAnd a b σ S) Q E = wX (a σ S) (fun c S => if c = true then wX (b σ S) Q E else Q false S) E := by
  unfold mAnd
  rw [wX_bind]
  congr 1
  funext x S
  exact wX_if
theorem wX_or {a b : TM} {Q : Bool → Sto → Prop} : wX (mOr a b σ S) Q E = wX (a σ S) (fun c S => if c = true then Q true S else wX (b σ S) Q E) E := by
  unfold mOr
  rw [wX_bind]
  congr 1
  funext x S
  exact wX_if
theorem wX_ifE {t : TM} {a b : EM} {Q : VV → Sto → Prop} : wX (mIf t a b σ S) Q E = wX (t σ S) (fun c S => if c = true then wX (a σ S) Q E else wX (b σ S) Q E) E := by
  unfold mIf
  rw [wX_bind]
  congr 1
  funext x S
  exact wX_if
theorem wX_chain {p q : Int → Int → Bool} {a b c : EM} {Q : VV → Sto → Prop} : wX (mChain p q a b c σ S) Q E = wX (a σ S) (fun x S => wX (b σ S) (fun y S => isI2 x y fun i j => if p i j = true then wX (c σ S) (fun z S => isI2 z (.int 0) fun k _ => Q (.bl (q j k)) S) E else Q (.bl false) S) E) E := by
  unfold mChain
  rw [wX_bind]
  congr 1
  funext x S
  rw [wX_bind]
  congr 1
  funext y S
  cases x with
  | int i =>
    cases y with
    | int j =>
      show wX (if p i j = true then _ else _) Q E = if p i j = true then _ else _
      rw [wX_if]
      split
      · rw [wX_bind]
        congr 1
        funext z S
        cases z <;> rfl
      · rfl
    | _ => rfl
  | _ => rfl
theorem wX_int {g : Int → Int → VV} {x y : VV} {Q : VV → Sto → Prop} : wX (gInt g x y S) Q E = wE (gInt g x y S) Q := wX_no (nx_int x y S)
theorem wX_intC {C : Int → Int → Bool} {g : Int → Int → VV} {x y : VV} {Q : VV → Sto → Prop} : wX (gIntC C g x y S) Q E = wE (gIntC C g x y S) Q := wX_no (nx_intC x y S)
theorem wX_add {x y : VV} {Q : VV → Sto → Prop} : wX (gAdd x y S) Q E = wE (gAdd x y S) Q := wX_no (nx_add x y S)
theorem wX_mul {x y : VV} {Q : VV → Sto → Prop} : wX (gMul x y S) Q E = wE (gMul x y S) Q := wX_no (nx_mul x y S)
theorem wX_eq {neg : Bool} {x y : VV} {Q : VV → Sto → Prop} : wX (gEq neg x y S) Q E = wE (gEq neg x y S) Q := wX_no (nx_eq x y S)
theorem wX_is {neg : Bool} {x y : VV} {Q : VV → Sto → Prop} : wX (gIs neg x y S) Q E = wE (gIs neg x y S) Q := wX_no (nx_is x y S)
theorem wX_ix {x y : VV} {Q : VV → Sto → Prop} : wX (gIx x y S) Q E = wE (gIx x y S) Q := wX_no (nx_ix x y S)
theorem wX_len {x : VV} {Q : VV → Sto → Prop} : wX (gLen x S) Q E = wE (gLen x S) Q := wX_no (nxLen x S)
theorem wX_list {x : VV} {Q : VV → Sto → Prop} : wX (gList x S) Q E = wE (gList x S) Q := wX_no (nxList x S)
theorem wX_tuple {x : VV} {Q : VV → Sto → Prop} : wX (gTuple x S) Q E = wE (gTuple x S) Q := wX_no (nxTuple x S)
theorem wX_neg {x : VV} {Q : VV → Sto → Prop} : wX (gNeg x S) Q E = wE (gNeg x S) Q := wX_no (nxNeg x S)
end
/-! ### try -/
section
variable {P : Po} {F : YQ} {σ : Sg} {S : Sto} {T : ExTab} {l : List MCla} {b : SM}
theorem wY_try : wY (mTry T l b σ S) P F = wY (b σ S) P (fun n σ S => wY (mHs T l n σ S) P F) := by
  unfold mTry
  cases b σ S <;> rfl
theorem wS_try : wS (mTry T l b σ S) P = wY (b σ S) P (fun n σ S => wS (mHs T l n σ S) P) := by
  unfold mTry
  cases b σ S <;> rfl
theorem mHs_yes {n h c : Nat} {o : Option Nat} {sm : Nat → SM} {fs : List VV} {r : List MCla} (h1 : S[n]? = some (.xd c fs)) (h2 : exIs T c h = some true) (h3 : fits o σ = true) : mHs T ((h, o, sm) :: r) n σ S = (sm n (wipe1 o σ) S).gone o := by
  show (match (clsAt S n).bind fun c => exIs T c h with
    | some true => if fits o σ = true then (sm n (wipe1 o σ) S).gone o else .fail
    | some false => mHs T r n σ S
    | none => .fail) = _
  have e : clsAt S n = some c := by unfold clsAt; rw [h1]
  rw [e]
  show (match exIs T c h with
    | some true => if fits o σ = true then (sm n (wipe1 o σ) S).gone o else .fail
    | some false => mHs T r n σ S
    | none => .fail) = _
  rw [h2]
  dsimp only
  rw [if_pos h3]
theorem mHs_no {n h c : Nat} {o : Option Nat} {sm : Nat → SM} {fs : List VV} {r : List MCla} (h1 : S[n]? = some (.xd c fs)) (h2 : exIs T c h = some false) : mHs T ((h, o, sm) :: r) n σ S = mHs T r n σ S := by
  show (match (clsAt S n).bind fun c => exIs T c h with
    | some true => if fits o σ = true then (sm n (wipe1 o σ) S).gone o else .fail
    | some false => mHs T r n σ S
    | none => .fail) = _
  have e : clsAt S n = some c := by unfold clsAt; rw [h1]
  rw [e]
  show (match exIs T c h with
    | some true => if fits o σ = true then (sm n (wipe1 o σ) S).gone o else .fail
    | some false => mHs T r n σ S
    | none => .fail) = _
  rw [h2]
theorem mXRetT_at {n c : Nat} {fs xs : List VV} {ps : List XP} (h1 : S[n]? = some (.xd c fs)) (h2 : ps.mapM (xpV fs) = some xs) : mXRetT ps n σ S = .rt (.tup xs) S := by
  unfold mXRetT
  have e : xdAt S n = some fs := by unfold xdAt; rw [h1]
  rw [e]
  show optRt ((ps.mapM (xpV fs)).map .tup) S = _
  rw [h2]
  rfl
theorem mXRet_at {n c : Nat} {fs : List VV} {x : VV} {p : XP} (h1 : S[n]? = some (.xd c fs)) (h2 : xpV fs p = some x) : mXRet p n σ S = .rt x S := by
  unfold mXRet
  have e : xdAt S n = some fs := by unfold xdAt; rw [h1]
  rw [e]
  show optRt (xpV fs p) S = _
  rw [h2]
  rfl
end
end Sx
end
/-! WayQ: lots and told ways, by the program and by the law. -/
noncomputable section
namespace Sx
open PySem L2 Gr
theorem looked_x {S : Sto} {n : Nat} {h : Int} : wX (Cm.m_looked_house [.int (n : Nat), .int h] S) (fun _ S' => S' = S ∧ 0 ≤ h ∧ h < (n : Nat)) (fun e S' => ¬ (0 ≤ h ∧ h < (n : Nat)) ∧ e = S.length ∧ S' = S ++ [.xd 12 [.str "nohouse", .int h]]) := by
  unfold Cm.m_looked_house
  rw [wX_fn (by rfl)]
  simp only [wX_ok, wX_exc, wX_bind, wY_seq, wY_next, wY_brk, wY_cont, wY_drop, wY_ret, wY_retN, wY_ifS, wY_asgN, wY_raise, wX_V, wX_C, wX_nil, wX_cons, wX_tup, wX_lst, wX_op, wX_un, wX_cb, wX_call, wX_g1, wX_g2, wX_tst, wX_not, wX_and, wX_or, wX_ifE, wX_chain, wX_int, wX_intC, wX_add, wX_mul, wX_eq, wX_is, wX_ix, wX_len, wX_list, wX_tuple, wX_neg, wY_try, wS_try, wE_ok, wE_bind, wS_seq, wS_next, wS_brk, wS_cont, wS_drop, wS_ret, wS_retN, wS_ifS, wS_asg, wS_gname, wS_gsub, wS_gnil, wS_gcons, wS_augI, wE_C, wE_nil, wE_cons, wE_tup, wE_lst, wE_op, wE_un, wE_cb, wE_isi, wE_isiT, wE_call, wE_g1, wE_g2, isB_bl, wE_tst, wE_not, wE_and, wE_or, wE_andV, wE_orV, wE_notV, wE_ifE, isI2_int, wE_int, wE_addI, wE_is, wE_mt, wE_mt0, wE_part, wE_noP, wE_sl, wE_chain, wS_for, wE_src, wE_seqI, wE_optI, wE_lc, wE_yes, wE_V0, wE_V1, wE_optR, wS_optS, wE_ix, ixW_lst, wE_get, gtW_lst, wGe1, wIx0, wIx1, wIx2, wIx3, wS_st, stW_lst, wSt0, wSt1, wSt2, wSt3, List.getElem?_cons_zero, List.getElem?_cons_succ, List.set_cons_zero, List.set_cons_succ, startM, List.map_cons, List.map_nil, List.length_cons, List.length_nil, List.replicate, List.cons_append, List.nil_append, List.set_set]
  by_cases c1 : (0 : Int) ≤ h
  · by_cases c2 : h < (n : Int)
    · simp [c1, c2]
    · simp [c1, c2]
  · simp [c1]
theorem wIx_last {xs : List VV} {x : VV} {Q : VV → Prop} (h : xs[xs.length - 1]? = some x) : wIx xs (.int (-1)) Q = Q x := by
  have hl : 0 < xs.length := by
    cases xs with
    | nil => cases h
    | cons _ _ => simp
  have e : ixN xs.length (-1) = some (xs.length - 1) := by
    unfold ixN
    rw [if_neg (by decide)]
    rw [if_pos (by omega)]
    congr 1
    omega
  unfold wIx ixL atI
  dsimp only
  rw [e]
  show (match xs[xs.length - 1]? with
    | some x => Q x
    | none => False) = _
  rw [h]
theorem wE_tupL {S : Sto} {n : Nat} {xs : List VV} {Q : VV → Sto → Prop} (h : S[n]? = some (.lst xs)) : wE (gTuple (.ref n) S) Q = Q (.tup xs) S := by
  unfold gTuple
  have e : seqAt S (.ref n) = some xs := by
    unfold seqAt lstAt
    dsimp only
    rw [h]
  rw [e]
  rfl
def lot (n : Nat) (d : Di) : List Nat := (List.range n).filter fun h => (d h).isSome
def natL (xs : List Nat) : List VV := xs.map fun i => .int (i : Nat)
theorem reached_w {S : Sto} {T n s : Nat} {ts : List Tie} (hT : S[T]? = some (.lst (ts.map tieV))) (hts : ∀ t ∈ ts, t.1 < n ∧ t.2.1 < n) (hs : s < n) (hn : n ≤ 20) (hl : ts.length ≤ 100) :
    wE (Cm.m_reached [.int (n : Nat), .ref T, .int (s : Nat)] S) fun v S' => ∃ (r : Nat) (d : Di), v = .ref r ∧ S'[r]? = some (.lst (natL (lot n d))) ∧ Sound (edA ts) s d ∧ UpTo (edA ts) s n d ∧ S.length ≤ r ∧ Fr No S S' := by
  unfold Cm.m_reached
  rw [wE_fn (by rfl)]
  simp only [wS_seq, wS_asg, wE_call, wE_cons, wE_nil, wE_V0, wE_V1, wS_gname, List.set_cons_zero, List.set_cons_succ, startM, List.map_cons, List.map_nil, List.length_cons, List.length_nil, List.replicate, List.cons_append, List.nil_append]
  refine wE_mono (far_w hT hts hs hn hl) fun v S1 ⟨q, d, hv, q1, q2, q3, q4, f1⟩ => ?_
  subst hv
  simp only [wE_ok, wE_bind, wS_seq, wS_next, wS_brk, wS_cont, wS_drop, wS_ret, wS_retN, wS_ifS, wS_asg, wS_gname, wS_gsub, wS_gnil, wS_gcons, wS_augI, wE_C, wE_nil, wE_cons, wE_tup, wE_lst, wE_op, wE_un, wE_cb, wE_isi, wE_isiT, wE_call, wE_g1, wE_g2, isB_bl, wE_tst, wE_not, wE_and, wE_or, wE_andV, wE_orV, wE_notV, wE_ifE, isI2_int, wE_int, wE_addI, wE_is, wE_mt, wE_mt0, wE_part, wE_noP, wE_sl, wE_chain, wS_for, wE_src, wE_seqI, wE_optI, wE_lc, wE_yes, wE_V0, wE_V1, wE_optR, wS_optS, wE_ix, ixW_lst, wE_get, gtW_lst, wGe1, wIx0, wIx1, wIx2, wIx3, wS_st, stW_lst, wSt0, wSt1, wSt2, wSt3, List.getElem?_cons_zero, List.getElem?_cons_succ, List.set_cons_zero, List.set_cons_succ, startM, List.map_cons, List.map_nil, List.length_cons, List.length_nil, List.replicate, List.cons_append, List.nil_append, List.set_set, rng1_nat (show n ≤ 1000000 by omega), wipeM]
  refine lc_fm (fun x => match x with
    | .int i => (d i.toNat).isSome
    | _ => false) id (by simp; omega) (fun acc => trivial) (fun y acc hy => ?_) ?_
  · obtain ⟨i, hi, rfl⟩ := List.mem_map.mp hy
    have hi := List.mem_range.mp hi
    have q1' : (S1 ++ [OO.lst acc])[q]? = some (.lst (dl n d)) := by rw [List.getElem?_append_left (lt_of_at q1)]; exact q1
    unfold wG
    simp only [wE_ok, wE_bind, wS_seq, wS_next, wS_brk, wS_cont, wS_drop, wS_ret, wS_retN, wS_ifS, wS_asg, wS_gname, wS_gsub, wS_gnil, wS_gcons, wS_augI, wE_C, wE_nil, wE_cons, wE_tup, wE_lst, wE_op, wE_un, wE_cb, wE_isi, wE_isiT, wE_call, wE_g1, wE_g2, isB_bl, wE_tst, wE_not, wE_and, wE_or, wE_andV, wE_orV, wE_notV, wE_ifE, isI2_int, wE_int, wE_addI, wE_is, wE_mt, wE_mt0, wE_part, wE_noP, wE_sl, wE_chain, wS_for, wE_src, wE_seqI, wE_optI, wE_lc, wE_yes, wE_V0, wE_V1, wE_optR, wS_optS, wE_ix, ixW_lst, wE_get, gtW_lst, wGe1, wIx0, wIx1, wIx2, wIx3, wS_st, stW_lst, wSt0, wSt1, wSt2, wSt3, List.getElem?_cons_zero, List.getElem?_cons_succ, List.set_cons_zero, List.set_cons_succ, startM, List.map_cons, List.map_nil, List.length_cons, List.length_nil, List.replicate, List.cons_append, List.nil_append, List.set_set, q1', wIx_dl hi, isN_ov, if_true]
    refine ⟨by first | trivial | rfl, ?_, by first | trivial | rfl, fun _ => ⟨by first | trivial | rfl, by first | trivial | rfl⟩⟩
    show (!(d i).isNone) = (d i).isSome
    cases d i <;> rfl
  · refine ⟨_, d, rfl, ?_, q2, q3, f1.1, f1.trans Fr.app⟩
    rw [get_last, List.filter_map, List.map_map]
    rfl
theorem enum_dl {n : Nat} {d : Di} : enumW (dl n d) = (List.range n).map fun i => VV.tup [.int (i : Nat), ov (d i)] := by
  unfold enumW
  refine List.ext_getElem? fun i => ?_
  rw [List.getElem?_mapIdx, List.getElem?_map]
  by_cases h : i < n
  · rw [dl_get h, List.getElem?_range h]
    rfl
  · rw [List.getElem?_eq_none (by rw [dl_len]; omega), List.getElem?_eq_none (by simp; omega)]
    rfl
theorem wE_enum {S : Sto} {k : Nat} {xs : List VV} {Q : Src → Sto → Prop} (h : S[k]? = some (.lst xs)) : wE (optI (gEnum S [.ref k]) S) Q = Q ⟨enumW xs, fun S => S[k]? = some (.lst xs)⟩ S := by
  unfold gEnum lstSrc
  dsimp only
  rw [h]
  rfl
theorem lot_w {S : Sto} {T n s : Nat} {ts : List Tie} (hT : S[T]? = some (.lst (ts.map tieV))) (hts : ∀ t ∈ ts, t.1 < n ∧ t.2.1 < n) (hs : s < n) (hn : n ≤ 20) (hl : ts.length ≤ 100) :
    wE (Cm.m__law_lot [.int (n : Nat), .ref T, .int (s : Nat)] S) fun v S' => ∃ (r : Nat) (d : Di), v = .ref r ∧ S'[r]? = some (.lst (natL (lot n d))) ∧ Sound (edA ts) s d ∧ UpTo (edA ts) s n d ∧ S.length ≤ r ∧ Fr No S S' := by
  unfold Cm.m__law_lot
  rw [wE_fn (by rfl)]
  simp only [wE_ok, wE_bind, wS_seq, wS_next, wS_brk, wS_cont, wS_drop, wS_ret, wS_retN, wS_ifS, wS_asg, wS_gname, wS_gsub, wS_gnil, wS_gcons, wS_augI, wE_C, wE_nil, wE_cons, wE_tup, wE_lst, wE_op, wE_un, wE_cb, wE_isi, wE_isiT, wE_call, wE_g1, wE_g2, isB_bl, wE_tst, wE_not, wE_and, wE_or, wE_andV, wE_orV, wE_notV, wE_ifE, isI2_int, wE_int, wE_addI, wE_is, wE_mt, wE_mt0, wE_part, wE_noP, wE_sl, wE_chain, wS_for, wE_src, wE_seqI, wE_optI, wE_lc, wE_yes, wE_V0, wE_V1, wE_optR, wS_optS, wE_ix, ixW_lst, wE_get, gtW_lst, wGe1, wIx0, wIx1, wIx2, wIx3, wS_st, stW_lst, wSt0, wSt1, wSt2, wSt3, List.getElem?_cons_zero, List.getElem?_cons_succ, List.set_cons_zero, List.set_cons_succ, startM, List.map_cons, List.map_nil, List.length_cons, List.length_nil, List.replicate, List.cons_append, List.nil_append, List.set_set]
  refine wE_mono (law_far_w hT hts hs hn hl) fun v S1 ⟨q, d, hv, q1, q2, q3, q4, f1⟩ => ?_
  subst hv
  rw [wE_enum q1]
  simp only [wE_ok, wE_bind, wS_seq, wS_next, wS_brk, wS_cont, wS_drop, wS_ret, wS_retN, wS_ifS, wS_asg, wS_gname, wS_gsub, wS_gnil, wS_gcons, wS_augI, wE_C, wE_nil, wE_cons, wE_tup, wE_lst, wE_op, wE_un, wE_cb, wE_isi, wE_isiT, wE_call, wE_g1, wE_g2, isB_bl, wE_tst, wE_not, wE_and, wE_or, wE_andV, wE_orV, wE_notV, wE_ifE, isI2_int, wE_int, wE_addI, wE_is, wE_mt, wE_mt0, wE_part, wE_noP, wE_sl, wE_chain, wS_for, wE_src, wE_seqI, wE_optI, wE_lc, wE_yes, wE_V0, wE_V1, wE_optR, wS_optS, wE_ix, ixW_lst, wE_get, gtW_lst, wGe1, wIx0, wIx1, wIx2, wIx3, wS_st, stW_lst, wSt0, wSt1, wSt2, wSt3, List.getElem?_cons_zero, List.getElem?_cons_succ, List.set_cons_zero, List.set_cons_succ, startM, List.map_cons, List.map_nil, List.length_cons, List.length_nil, List.replicate, List.cons_append, List.nil_append, List.set_set, wipeM]
  rw [enum_dl]
  refine lc_fm (fun x => match x with
    | .tup [.int i, _] => (d i.toNat).isSome
    | _ => false) (fun x => match x with
    | .tup [i, _] => i
    | _ => .non) (by simp; omega) (fun acc => by rw [List.getElem?_append_left (lt_of_at q1)]; exact q1) (fun y acc hy => ?_) ?_
  · obtain ⟨i, hi, rfl⟩ := List.mem_map.mp hy
    unfold wG
    rw [wS_gtup (by rfl)]
    simp only [wE_ok, wE_bind, wS_seq, wS_next, wS_brk, wS_cont, wS_drop, wS_ret, wS_retN, wS_ifS, wS_asg, wS_gname, wS_gsub, wS_gnil, wS_gcons, wS_augI, wE_C, wE_nil, wE_cons, wE_tup, wE_lst, wE_op, wE_un, wE_cb, wE_isi, wE_isiT, wE_call, wE_g1, wE_g2, isB_bl, wE_tst, wE_not, wE_and, wE_or, wE_andV, wE_orV, wE_notV, wE_ifE, isI2_int, wE_int, wE_addI, wE_is, wE_mt, wE_mt0, wE_part, wE_noP, wE_sl, wE_chain, wS_for, wE_src, wE_seqI, wE_optI, wE_lc, wE_yes, wE_V0, wE_V1, wE_optR, wS_optS, wE_ix, ixW_lst, wE_get, gtW_lst, wGe1, wIx0, wIx1, wIx2, wIx3, wS_st, stW_lst, wSt0, wSt1, wSt2, wSt3, List.getElem?_cons_zero, List.getElem?_cons_succ, List.set_cons_zero, List.set_cons_succ, startM, List.map_cons, List.map_nil, List.length_cons, List.length_nil, List.replicate, List.cons_append, List.nil_append, List.set_set, isN_ov, if_true]
    refine ⟨by first | trivial | rfl, ?_, by first | trivial | rfl, fun _ => ⟨by first | trivial | rfl, by first | trivial | rfl⟩⟩
    show (!(d i).isNone) = (d i).isSome
    cases d i <;> rfl
  · refine ⟨_, d, rfl, ?_, q2, q3, f1.1, f1.trans Fr.app⟩
    rw [get_last, List.filter_map, List.map_map]
    rfl
theorem natL_len {ws : List Nat} : (natL ws).length = ws.length := by unfold natL; simp
theorem natL_last {E : List Ed} {d : Di} {g s c : Nat} {ws : List Nat} (w : Way E d g s ws c) : (natL ws)[(natL ws).length - 1]? = some (.int (c : Nat)) := by
  rw [natL_len]
  unfold natL
  rw [List.getElem?_map, w.get]
  rfl
theorem natL_snoc {ws : List Nat} {b : Nat} : natL ws ++ [.int (b : Nat)] = natL (ws ++ [b]) := by unfold natL; rw [List.map_append]; rfl
theorem best_lt {E : List Ed} {g n : Nat} {d : Di} (hg : g < n) (hn : ∀ e ∈ E, e.1 < n) (s : Sound E g d) {a : Nat} {x : Int} (e : d a = some x) : a < n := by
  obtain ⟨k, w⟩ := s a x e
  cases w with
  | nil => exact hg
  | cons he _ => exact hn _ he
theorem law_least_w {S : Sto} {T n s g : Nat} {ts : List Tie} (hT : S[T]? = some (.lst (ts.map tieV))) (hts : ∀ t ∈ ts, t.1 < n ∧ t.2.1 < n) (h1 : ∀ t ∈ ts, 1 ≤ t.2.2) (hs : s < n) (hg : g < n) (hn : n ≤ 20) (hl : ts.length ≤ 100) :
    wE (Cm.m__law_least [.int (n : Nat), .ref T, .int (s : Nat), .int (g : Nat)] S) fun v S' => ∃ d : Di, Sound (edA ts) g d ∧ UpTo (edA ts) g n d ∧ Fr No S S' ∧ ((d s = none ∧ v = .non) ∨ ∃ x ws, d s = some x ∧ Way (edA ts) d g s ws g ∧ ws.length ≤ n + 1 ∧ v = .tup [.int x, .tup (natL ws)]) := by
  unfold Cm.m__law_least
  rw [wE_fn (by rfl)]
  simp only [wS_seq, wS_asg, wE_call, wE_cons, wE_nil, wE_V0, wE_V1, wS_gname, List.set_cons_zero, List.set_cons_succ, startM, List.map_cons, List.map_nil, List.length_cons, List.length_nil, List.replicate, List.cons_append, List.nil_append]
  refine wE_mono (law_far_w hT hts hg hn hl) fun v S1 ⟨q, d, hv, q1, q2, q3, q4, f1⟩ => ?_
  subst hv
  have hed := edA_lt hts
  have J := judged_best (n := n) (edA_one h1) (fun e he => (hed e he).1) (fun e he => edA_sym he) q2 q3
  simp only [wE_ok, wE_bind, wS_seq, wS_next, wS_brk, wS_cont, wS_drop, wS_ret, wS_retN, wS_ifS, wS_asg, wS_gname, wS_gsub, wS_gnil, wS_gcons, wS_augI, wE_C, wE_nil, wE_cons, wE_tup, wE_lst, wE_op, wE_un, wE_cb, wE_isi, wE_isiT, wE_call, wE_g1, wE_g2, isB_bl, wE_tst, wE_not, wE_and, wE_or, wE_andV, wE_orV, wE_notV, wE_ifE, isI2_int, wE_int, wE_addI, wE_is, wE_mt, wE_mt0, wE_part, wE_noP, wE_sl, wE_chain, wS_for, wE_src, wE_seqI, wE_optI, wE_lc, wE_yes, wE_V0, wE_V1, wE_optR, wS_optS, wE_ix, ixW_lst, wE_get, gtW_lst, wGe1, wIx0, wIx1, wIx2, wIx3, wS_st, stW_lst, wSt0, wSt1, wSt2, wSt3, List.getElem?_cons_zero, List.getElem?_cons_succ, List.set_cons_zero, List.set_cons_succ, startM, List.map_cons, List.map_nil, List.length_cons, List.length_nil, List.replicate, List.cons_append, List.nil_append, List.set_set, q1, wIx_dl hs, isN_ov, Bool.false_eq_true, if_false]
  cases es : d s with
  | none =>
    rw [if_pos (by simp)]
    exact ⟨d, q2, q3, f1, .inl ⟨es, by first | trivial | rfl⟩⟩
  | some x =>
    rw [if_neg (by simp), if_pos (by decide), rng1_nat (show n ≤ 1000000 by omega), wE_optI]
    refine forL_inv (fun i σ S' => ∃ (ws : List Nat) (c : Nat) (o6 : Option VV), σ = [some (.int (n : Nat)), some (.ref T), some (.int (s : Nat)), some (.int (g : Nat)), some (.ref q), some (.ref S1.length), o6] ∧ S'[S1.length]? = some (.lst (natL ws)) ∧ Way (edA ts) d g s ws c ∧ (∃ y, d c = some y) ∧ (c = g ∨ nearer d n c + i < n) ∧ ws.length ≤ i + 1 ∧ Fr No S1 S') ⟨[s], s, _, rfl, get_last, .base, ⟨x, es⟩, .inr (by have := nearer_lt es hs; omega), by simp, Fr.app⟩ (fun _ _ _ _ => trivial) ?_ ?_
    · rintro i y σ S' _ ⟨ws, c, o6, rfl, k1, k2, ⟨y', k3⟩, k4, k5, k6⟩
      have hc : c < n := best_lt hg (fun e he => (hed e he).1) q2 k3
      have ht : tyB "list" S' (.ref S1.length) = true := tyB_ref k1
      simp only [wE_ok, wE_bind, wS_seq, wS_next, wS_brk, wS_cont, wS_drop, wS_ret, wS_retN, wS_ifS, wS_asg, wS_gname, wS_gsub, wS_gnil, wS_gcons, wS_augI, wE_C, wE_nil, wE_cons, wE_tup, wE_lst, wE_op, wE_un, wE_cb, wE_isi, wE_isiT, wE_call, wE_g1, wE_g2, isB_bl, wE_tst, wE_not, wE_and, wE_or, wE_andV, wE_orV, wE_notV, wE_ifE, isI2_int, wE_int, wE_addI, wE_is, wE_mt, wE_mt0, wE_part, wE_noP, wE_sl, wE_chain, wS_for, wE_src, wE_seqI, wE_optI, wE_lc, wE_yes, wE_V0, wE_V1, wE_optR, wS_optS, wE_ix, ixW_lst, wE_get, gtW_lst, wGe1, wIx0, wIx1, wIx2, wIx3, wS_st, stW_lst, wSt0, wSt1, wSt2, wSt3, List.getElem?_cons_zero, List.getElem?_cons_succ, List.set_cons_zero, List.set_cons_succ, startM, List.map_cons, List.map_nil, List.length_cons, List.length_nil, List.replicate, List.cons_append, List.nil_append, List.set_set, wE_neg, k1, wIx_last (natL_last k2), wE_eqI, if_true, ht]
      by_cases cg : c = g
      · rw [if_neg (by simp [cg])]
        exact ⟨ws, c, _, rfl, by first | exact k1 | rfl, k2, ⟨y', k3⟩, .inl cg, by omega, k6⟩
      · rw [if_pos (by simp; omega)]
        refine wE_mono (law_next_w ((f1.trans k6).at_ hT (fun z => z)) hts hc hg hn hl) fun v S2 ⟨d', o, hv, s2, u2, n2, f2⟩ => ?_
        subst hv
        have : d' = d := best_eq edA_pos (fun e he => (hed e he).1) s2 q2 u2 q3
        subst this
        obtain ⟨b, rfl, cb⟩ := has_next J k3 cg n2
        obtain ⟨z, hz, hb, hlt⟩ := cand_down (edA_one h1) hed cb
        have k1' := f2.at_ k1 (fun z => z)
        rw [show no (some b) = VV.int (b : Nat) from rfl, wE_append k1' (by rw [natL_len]; omega)]
        refine ⟨ws ++ [b], b, _, rfl, by rw [set_at k1', natL_snoc], .step k2 cg n2, ⟨z, hz⟩, .inr (by have := k4.resolve_left cg; omega), by simp; omega, (k6.trans f2).new (Fr.set (.inl (Nat.le_refl _)))⟩
    · rintro σ S' ⟨ws, c, o6, rfl, k1, k2, ⟨y', k3⟩, k4, k5, k6⟩
      rw [List.length_map, List.length_range] at k4 k5
      have cg : c = g := k4.elim id fun z => by omega
      subst cg
      have q1' := k6.at_ q1 (fun z => z)
      simp only [wE_ok, wE_bind, wS_seq, wS_next, wS_brk, wS_cont, wS_drop, wS_ret, wS_retN, wS_ifS, wS_asg, wS_gname, wS_gsub, wS_gnil, wS_gcons, wS_augI, wE_C, wE_nil, wE_cons, wE_tup, wE_lst, wE_op, wE_un, wE_cb, wE_isi, wE_isiT, wE_call, wE_g1, wE_g2, isB_bl, wE_tst, wE_not, wE_and, wE_or, wE_andV, wE_orV, wE_notV, wE_ifE, isI2_int, wE_int, wE_addI, wE_is, wE_mt, wE_mt0, wE_part, wE_noP, wE_sl, wE_chain, wS_for, wE_src, wE_seqI, wE_optI, wE_lc, wE_yes, wE_V0, wE_V1, wE_optR, wS_optS, wE_ix, ixW_lst, wE_get, gtW_lst, wGe1, wIx0, wIx1, wIx2, wIx3, wS_st, stW_lst, wSt0, wSt1, wSt2, wSt3, List.getElem?_cons_zero, List.getElem?_cons_succ, List.set_cons_zero, List.set_cons_succ, startM, List.map_cons, List.map_nil, List.length_cons, List.length_nil, List.replicate, List.cons_append, List.nil_append, List.set_set, q1', wIx_dl hs, es, wE_tupL k1]
      rw [if_pos (by decide)]
      exact ⟨d, q2, q3, f1.trans k6, .inr ⟨x, ws, es, k2, k5, rfl⟩⟩
theorem least_way_x {S : Sto} {T n s g : Nat} {ts : List Tie} (hT : S[T]? = some (.lst (ts.map tieV))) (hts : ∀ t ∈ ts, t.1 < n ∧ t.2.1 < n) (h1 : ∀ t ∈ ts, 1 ≤ t.2.2) (hs : s < n) (hg : g < n) (hn : n ≤ 20) (hl : ts.length ≤ 100) :
    wX (Cm.m_least_way [.int (n : Nat), .ref T, .int (s : Nat), .int (g : Nat)] S) (fun v S' => ∃ (d : Di) (x : Int) (ws : List Nat), Sound (edA ts) g d ∧ UpTo (edA ts) g n d ∧ Fr No S S' ∧ d s = some x ∧ Way (edA ts) d g s ws g ∧ ws.length ≤ n + 1 ∧ v = .tup [.int x, .tup (natL ws)])
      (fun e S' => ∃ (d d2 : Di) (l : Nat), Sound (edA ts) g d ∧ UpTo (edA ts) g n d ∧ d s = none ∧ Sound (edA ts) s d2 ∧ UpTo (edA ts) s n d2 ∧ S'[e]? = some (.xd 17 [.str "noway", .ref l]) ∧ S'[l]? = some (.lst (natL (lot n d2))) ∧ S.length ≤ l ∧ Fr No S S') := by
  unfold Cm.m_least_way
  rw [wX_fn (by rfl)]
  have hed := edA_lt hts
  simp only [wY_seq, wY_drop, wX_call, wX_cons, wX_nil, wX_V, wE_V0, wE_V1, startM, List.map_cons, List.map_nil, List.length_cons, List.length_nil, List.replicate, List.cons_append, List.nil_append]
  refine wX_mono looked_x (fun _ S0 e0 => ?_) fun n' S0 e0 => absurd ⟨by omega, by omega⟩ e0.1
  obtain ⟨e0, _⟩ := e0
  subst e0
  refine wX_mono looked_x (fun _ S0 e0 => ?_) fun n' S0 e0 => absurd ⟨by omega, by omega⟩ e0.1
  obtain ⟨e0, _⟩ := e0
  subst e0
  simp only [wY_asgN, wX_call, wX_cons, wX_nil, wX_V, wE_V0, wE_V1, List.set_cons_zero, List.set_cons_succ]
  refine wX_of (wE_mono (far_w hT hts hg hn hl) fun v S1 ⟨q, d, hv, q1, q2, q3, q4, f1⟩ => ?_)
  subst hv
  have J := judged_best (n := n) (edA_one h1) (fun e he => (hed e he).1) (fun e he => edA_sym he) q2 q3
  have hT1 := f1.at_ hT (fun z => z)
  simp only [wX_ok, wX_exc, wX_bind, wY_seq, wY_next, wY_brk, wY_cont, wY_drop, wY_ret, wY_retN, wY_ifS, wY_asgN, wY_raise, wX_V, wX_C, wX_nil, wX_cons, wX_tup, wX_lst, wX_op, wX_un, wX_cb, wX_call, wX_g1, wX_g2, wX_tst, wX_not, wX_and, wX_or, wX_ifE, wX_chain, wX_int, wX_intC, wX_add, wX_mul, wX_eq, wX_is, wX_ix, wX_len, wX_list, wX_tuple, wX_neg, wY_try, wS_try, wE_ok, wE_bind, wS_seq, wS_next, wS_brk, wS_cont, wS_drop, wS_ret, wS_retN, wS_ifS, wS_asg, wS_gname, wS_gsub, wS_gnil, wS_gcons, wS_augI, wE_C, wE_nil, wE_cons, wE_tup, wE_lst, wE_op, wE_un, wE_cb, wE_isi, wE_isiT, wE_call, wE_g1, wE_g2, isB_bl, wE_tst, wE_not, wE_and, wE_or, wE_andV, wE_orV, wE_notV, wE_ifE, isI2_int, wE_int, wE_addI, wE_is, wE_mt, wE_mt0, wE_part, wE_noP, wE_sl, wE_chain, wS_for, wE_src, wE_seqI, wE_optI, wE_lc, wE_yes, wE_V0, wE_V1, wE_optR, wS_optS, wE_ix, ixW_lst, wE_get, gtW_lst, wGe1, wIx0, wIx1, wIx2, wIx3, wS_st, stW_lst, wSt0, wSt1, wSt2, wSt3, List.getElem?_cons_zero, List.getElem?_cons_succ, List.set_cons_zero, List.set_cons_succ, startM, List.map_cons, List.map_nil, List.length_cons, List.length_nil, List.replicate, List.cons_append, List.nil_append, List.set_set, q1, wIx_dl hs, isN_ov, Bool.false_eq_true, if_false]
  cases es : d s with
  | none =>
    rw [if_pos (by simp)]
    obtain ⟨v, S2, e2, r, d2, rfl, r1, r2, r3, r4, f2⟩ := wE_ex (reached_w hT1 hts hs hn hl)
    rw [wY_raiseL (n := r) (T := S2) (ys := natL (lot n d2)) (by
      show (mCall Cm.m_reached _ _ _) = _
      exact e2) r1]
    refine ⟨d, d2, S2.length, q2, q3, es, r2, r3, ?_, ?_, by have := f1.1; have := f2.1; omega, f1.trans (f2.trans Fr.app)⟩
    · rw [List.getElem?_append_right (by omega), show S2.length + 1 - S2.length = 1 by omega]
      rfl
    · rw [List.getElem?_append_right (Nat.le_refl _), Nat.sub_self]
      rfl
  | some x =>
    rw [if_neg (by simp)]
    refine wX_of (wE_mono (nexts_w hT1 hts h1 hg hn hl) fun v S2 ⟨r, d', nx, hv, r1, r2, r3, r4, r5, f2⟩ => ?_)
    subst hv
    have : d' = d := best_eq edA_pos (fun e he => (hed e he).1) r2 q2 r3 q3
    subst this
    rw [if_pos (by decide)]
    refine wY_of (while_inv (fun k σ S' => ∃ (ws : List Nat) (c : Nat), σ = [some (.int (n : Nat)), some (.ref T), some (.int (s : Nat)), some (.int (g : Nat)), some (.ref q), some (.ref r), some (.ref S2.length)] ∧ S'[S2.length]? = some (.lst (natL ws)) ∧ Way (edA ts) d' g s ws c ∧ (∃ y, d' c = some y) ∧ nearer d' n c ≤ k ∧ ws.length + k ≤ n + 1 ∧ Fr No S2 S') ?_ 1000 (nearer d' n s) _ _ (by have := nearer_lt es hs; omega) ⟨[s], s, rfl, get_last, .base, ⟨x, es⟩, Nat.le_refl _, by have := nearer_lt es hs; simp; omega, Fr.app⟩)
    rintro k σ S' ⟨ws, c, rfl, k1, k2, ⟨y', k3⟩, k4, k5, k6⟩
    have hc : c < n := best_lt hg (fun e he => (hed e he).1) q2 k3
    have ht : tyB "list" S' (.ref S2.length) = true := tyB_ref k1
    have r1' := k6.at_ r1 (fun z => z)
    have ixn : ∀ Q : VV → Prop, wIx ((List.range n).map fun h => no (nx h)) (.int (c : Nat)) Q = Q (no (nx c)) := fun Q => wIx_nat (by omega) (by rw [Int.toNat_natCast, List.getElem?_map, List.getElem?_range hc]; rfl)
    simp only [wE_ok, wE_bind, wS_seq, wS_next, wS_brk, wS_cont, wS_drop, wS_ret, wS_retN, wS_ifS, wS_asg, wS_gname, wS_gsub, wS_gnil, wS_gcons, wS_augI, wE_C, wE_nil, wE_cons, wE_tup, wE_lst, wE_op, wE_un, wE_cb, wE_isi, wE_isiT, wE_call, wE_g1, wE_g2, isB_bl, wE_tst, wE_not, wE_and, wE_or, wE_andV, wE_orV, wE_notV, wE_ifE, isI2_int, wE_int, wE_addI, wE_is, wE_mt, wE_mt0, wE_part, wE_noP, wE_sl, wE_chain, wS_for, wE_src, wE_seqI, wE_optI, wE_lc, wE_yes, wE_V0, wE_V1, wE_optR, wS_optS, wE_ix, ixW_lst, wE_get, gtW_lst, wGe1, wIx0, wIx1, wIx2, wIx3, wS_st, stW_lst, wSt0, wSt1, wSt2, wSt3, List.getElem?_cons_zero, List.getElem?_cons_succ, List.set_cons_zero, List.set_cons_succ, startM, List.map_cons, List.map_nil, List.length_cons, List.length_nil, List.replicate, List.cons_append, List.nil_append, List.set_set, wE_neg, k1, wIx_last (natL_last k2), wE_eqI, if_true, ht, r1', ixn]
    by_cases cg : c = g
    · rw [if_neg (by simp [cg])]
      subst cg
      have q1' := k6.at_ (f2.at_ q1 (fun z => z)) (fun z => z)
      simp only [wE_ok, wE_bind, wS_seq, wS_next, wS_brk, wS_cont, wS_drop, wS_ret, wS_retN, wS_ifS, wS_asg, wS_gname, wS_gsub, wS_gnil, wS_gcons, wS_augI, wE_C, wE_nil, wE_cons, wE_tup, wE_lst, wE_op, wE_un, wE_cb, wE_isi, wE_isiT, wE_call, wE_g1, wE_g2, isB_bl, wE_tst, wE_not, wE_and, wE_or, wE_andV, wE_orV, wE_notV, wE_ifE, isI2_int, wE_int, wE_addI, wE_is, wE_mt, wE_mt0, wE_part, wE_noP, wE_sl, wE_chain, wS_for, wE_src, wE_seqI, wE_optI, wE_lc, wE_yes, wE_V0, wE_V1, wE_optR, wS_optS, wE_ix, ixW_lst, wE_get, gtW_lst, wGe1, wIx0, wIx1, wIx2, wIx3, wS_st, stW_lst, wSt0, wSt1, wSt2, wSt3, List.getElem?_cons_zero, List.getElem?_cons_succ, List.set_cons_zero, List.set_cons_succ, startM, List.map_cons, List.map_nil, List.length_cons, List.length_nil, List.replicate, List.cons_append, List.nil_append, List.set_set, q1', wIx_dl hs, es, wE_tupL k1]
      rw [if_pos (by decide)]
      exact ⟨d', x, ws, q2, q3, f1.trans (f2.trans k6), es, k2, by omega, by first | trivial | rfl⟩
    · rw [if_pos (by simp; omega)]
      obtain ⟨b, hb, cb⟩ := has_next J k3 cg (r4 c hc)
      obtain ⟨z, hz, hbn, hlt⟩ := cand_down (edA_one h1) hed cb
      have nb := r4 c hc
      rw [hb] at nb ⊢
      refine ⟨by omega, ?_⟩
      rw [show no (some b) = VV.int (b : Nat) from rfl, wE_append k1 (by rw [natL_len]; omega)]
      exact ⟨ws ++ [b], b, by first | trivial | rfl, by rw [set_at k1, natL_snoc], .step k2 cg nb, ⟨z, hz⟩, by omega, by simp; omega, k6.new (Fr.set (.inl (Nat.le_refl _)))⟩
theorem least_way_bad1 {S : Sto} {n : Nat} {tv : VV} {s g : Int} (hs : ¬ (0 ≤ s ∧ s < (n : Nat))) :
    wX (Cm.m_least_way [.int (n : Nat), tv, .int s, .int g] S) (fun _ _ => False) (fun e S' => e = S.length ∧ S' = S ++ [.xd 12 [.str "nohouse", .int s]]) := by
  unfold Cm.m_least_way
  rw [wX_fn (by rfl)]
  simp only [wY_seq, wY_drop, wX_call, wX_cons, wX_nil, wX_V, wE_V0, wE_V1, startM, List.map_cons, List.map_nil, List.length_cons, List.length_nil, List.replicate, List.cons_append, List.nil_append]
  exact wX_mono looked_x (fun _ S0 e0 => absurd e0.2 hs) fun n' S0 e0 => e0.2
theorem least_way_bad2 {S : Sto} {n : Nat} {tv : VV} {s g : Int} (hs : 0 ≤ s ∧ s < (n : Nat)) (hg : ¬ (0 ≤ g ∧ g < (n : Nat))) :
    wX (Cm.m_least_way [.int (n : Nat), tv, .int s, .int g] S) (fun _ _ => False) (fun e S' => e = S.length ∧ S' = S ++ [.xd 12 [.str "nohouse", .int g]]) := by
  unfold Cm.m_least_way
  rw [wX_fn (by rfl)]
  simp only [wY_seq, wY_drop, wX_call, wX_cons, wX_nil, wX_V, wE_V0, wE_V1, startM, List.map_cons, List.map_nil, List.length_cons, List.length_nil, List.replicate, List.cons_append, List.nil_append]
  refine wX_mono looked_x (fun _ S0 e0 => ?_) fun n' S0 e0 => absurd hs e0.1
  obtain ⟨e0, _⟩ := e0
  subst e0
  exact wX_mono looked_x (fun _ S0 e0 => absurd e0.2 hg) fun n' S0 e0 => e0.2
/-! what is told, as data -/
def natD (xs : List Nat) : List PyData := xs.map fun i => .int (i : Nat)
theorem natD_ok {xs : List Nat} : okDs (natD xs) = true := okDs_all fun d hd => by
  obtain ⟨y, _, rfl⟩ := List.mem_map.mp hd
  rfl
theorem natL_mapM {S : Sto} {n : Nat} {xs : List Nat} : (natL xs).mapM (dtA S n) = some (natD xs) := mapM_map fun x _ => by unfold dtA; rfl
theorem natT_dt {S : Sto} {n : Nat} {xs : List Nat} : dtA S (n + 1) (.tup (natL xs)) = some (.tuple (natD xs)) := by
  unfold dtA
  rw [natL_mapM]
  rfl
theorem natR_dt {S : Sto} {n k : Nat} {xs : List Nat} (h : S[k]? = some (.lst (natL xs))) : dtA S (n + 1) (.ref k) = some (.list (natD xs)) := by
  unfold dtA
  rw [h]
  dsimp only
  rw [natL_mapM]
  rfl
def wayD (x : Int) (ws : List Nat) : PyData := .tuple [.int x, .tuple (natD ws)]
theorem way_dt {S : Sto} {n : Nat} {x : Int} {ws : List Nat} : dtA S (n + 2) (.tup [.int x, .tup (natL ws)]) = some (wayD x ws) := by
  unfold dtA
  rw [List.mapM_cons, List.mapM_cons, natT_dt, List.mapM_nil]
  rfl
theorem way_ok {x : Int} {ws : List Nat} (h : ws.length ≤ 1000) : okD (wayD x ws) = true := by
  unfold wayD okD okDs okDs okDs okD
  rw [natD_ok]
  have : (natD ws).length ≤ 1000 := by unfold natD; simpa using h
  simp [this]
end Sx
end
/-! Sy6: weakest preconditions of attributes, methods, makes, dicts. -/
noncomputable section
namespace Sx
open PySem L2
section
variable {P : Po} {F : YQ} {E : XQ} {σ : Sg} {S : Sto} {Q : VV → Sto → Prop} {t : FT}
theorem wE_fld {a : EM} : wE (mFld t a σ S) Q = wE (a σ S) fun x S => wE (gFld t x S) Q := wE_bind
theorem wX_fld {a : EM} : wX (mFld t a σ S) Q E = wX (a σ S) (fun x S => wE (gFld t x S) Q) E := by
  unfold mFld
  rw [wX_bind]
  congr 1
  funext x S
  exact wX_no (nx_fld x S)
theorem wX_in {neg : Bool} {x y : VV} : wX (gIn neg x y S) Q E = wE (gIn neg x y S) Q := wX_no (nx_in x y S)
theorem gFld_at {n c j : Nat} {fs : List VV} {y : VV} (h : S[n]? = some (.ins c fs)) (hj : t.lookup c = some j) (hy : fs[j]? = some y) : gFld t (.ref n) S = .ok y S := by
  have e : insAt S (.ref n) = some (c, fs) := by unfold insAt; dsimp only; rw [h]
  unfold gFld
  rw [e]
  show optR (fldR t (c, fs)) S = _
  unfold fldR
  dsimp only
  rw [hj]
  show optR (fs[j]?) S = _
  rw [hy]
  rfl
theorem wE_fldAt {n c j : Nat} {fs : List VV} {y : VV} (h : S[n]? = some (.ins c fs)) (hj : t.lookup c = some j) (hy : fs[j]? = some y) : wE (gFld t (.ref n) S) Q = Q y S := by
  rw [gFld_at h hj hy, wE_ok]
/-- o.f = x -/
theorem wS_gfld {x : VV} {o : EM} : wS (gmFld t o x σ S) P = wE (o σ S) fun a S => wS (optS (setF t a x S) σ) P := wS_toS
theorem wS_fldAt {n c j : Nat} {fs fs' : List VV} {x : VV} (h : S[n]? = some (.ins c fs)) (hj : t.lookup c = some j) (hy : putA fs j x = some fs') : wS (optS (setF t (.ref n) x S) σ) P = P.nx σ (S.set n (.ins c fs')) := by
  have e : insAt S (.ref n) = some (c, fs) := by unfold insAt; dsimp only; rw [h]
  have e2 : setF t (.ref n) x S = some (S.set n (.ins c fs')) := by
    show ((insAt S (.ref n)).bind fun p => (t.lookup p.1).bind fun j => (putA p.2 j x).map fun fs => S.set n (.ins p.1 fs)) = _
    rw [e]
    show ((t.lookup c).bind fun j => (putA fs j x).map fun fs => S.set n (.ins c fs)) = _
    rw [hj]
    show ((putA fs j x).map fun fs => S.set n (.ins c fs)) = _
    rw [hy]
    rfl
  rw [e2]
  rfl
theorem wY_asg {e : EM} {g : GM} : wY (mAsg e g σ S) P F = wX (e σ S) (fun x S => wY (g x σ S) { nx := P.nx } F) (fun n S => F n σ S) := by
  unfold mAsg
  rw [wY_toS]
  congr 1
  funext x S
  exact wY_nxo
/-- methods -/
def metW (o : Option (Nat × List VV)) (c : Nat) (ds : List VV) (m : FM) (x : VV) (a : AM) (σ : Sg) (S : Sto) (Q : VV → Sto → Prop) : Prop := match o with
  | some p => if p.1 = c then wE (a σ S) fun xs S2 => wE (m (x :: (xs ++ ds)) S2) Q else False
  | none => False
theorem wE_met {c : Nat} {ds : List VV} {m : FM} {o : EM} {a : AM} : wE (mMet c ds m o a σ S) Q = wE (o σ S) fun x S1 => metW (insAt S1 x) c ds m x a σ S1 Q := by
  unfold mMet
  rw [wE_bind]
  congr 1
  funext x S1
  unfold metW
  cases insAt S1 x with
  | none => rfl
  | some p =>
    dsimp only
    rw [wE_if, wE_bind]
    rfl
def metX (o : Option (Nat × List VV)) (c : Nat) (ds : List VV) (m : FM) (x : VV) (a : AM) (σ : Sg) (S : Sto) (Q : VV → Sto → Prop) (E : XQ) : Prop := match o with
  | some p => if p.1 = c then wX (a σ S) (fun xs S2 => wX (m (x :: (xs ++ ds)) S2) Q E) E else False
  | none => False
theorem wX_met {c : Nat} {ds : List VV} {m : FM} {o : EM} {a : AM} : wX (mMet c ds m o a σ S) Q E = wX (o σ S) (fun x S1 => metX (insAt S1 x) c ds m x a σ S1 Q E) E := by
  unfold mMet
  rw [wX_bind]
  congr 1
  funext x S1
  unfold metX
  cases insAt S1 x with
  | none => rfl
  | some p =>
    dsimp only
    rw [wX_if, wX_bind]
    rfl
theorem insAt_ref {n c : Nat} {fs : List VV} (h : S[n]? = some (.ins c fs)) : insAt S (.ref n) = some (c, fs) := by unfold insAt; dsimp only; rw [h]
theorem metW_at {c : Nat} {fs ds : List VV} {m : FM} {x : VV} {a : AM} : metW (some (c, fs)) c ds m x a σ S Q = wE (a σ S) fun xs S2 => wE (m (x :: (xs ++ ds)) S2) Q := if_pos rfl
theorem metX_at {c : Nat} {fs ds : List VV} {m : FM} {x : VV} {a : AM} : metX (some (c, fs)) c ds m x a σ S Q E = wX (a σ S) (fun xs S2 => wX (m (x :: (xs ++ ds)) S2) Q E) E := if_pos rfl
theorem wE_make {c : Nat} {ds : List VV} {m : FM} {a : AM} : wE (mMake c ds m a σ S) Q = wE (a σ S) fun xs S1 => wE (m (.ref S1.length :: (xs ++ ds)) (S1 ++ [.ins c []])) fun v S2 => v = .non ∧ Q (.ref S1.length) S2 := by
  unfold mMake
  rw [wE_bind]
  congr 1
  funext xs S1
  rw [wE_bind]
  congr 1
  funext v S2
  cases v with
  | non => exact propext ⟨fun h => ⟨rfl, h⟩, fun h => h.2⟩
  | _ => exact propext ⟨fun h => h.elim, fun h => by cases h.1⟩
theorem wE_callD {ds : List VV} {m : FM} {a : AM} : wE (mCallD ds m a σ S) Q = wE (a σ S) fun xs S1 => wE (m (xs ++ ds) S1) Q := wE_bind
theorem wX_callD {ds : List VV} {m : FM} {a : AM} : wX (mCallD ds m a σ S) Q E = wX (a σ S) (fun xs S1 => wX (m (xs ++ ds) S1) Q E) E := wX_bind
theorem wE_dK : wE (mDK σ S) Q = Q (.ref S.length) (S ++ [.dK []]) := (rfl)
/-! dicts -/
theorem isD_K {n : Nat} {kvs : List (Key × VV)} (h : S[n]? = some (.dK kvs)) : isD S (.ref n) = true := by unfold isD; dsimp only; rw [h]; rfl
theorem isD_L {n : Nat} {xs : List VV} (h : S[n]? = some (.lst xs)) : isD S (.ref n) = false := by unfold isD; dsimp only; rw [h]; rfl
theorem wE_inK {neg : Bool} {n : Nat} {kvs : List (Key × VV)} {y : VV} {k : Key} (h : S[n]? = some (.dK kvs)) (hy : keyV y = some k) : wE (gIn neg y (.ref n) S) Q = Q (.bl (if neg = true then !(valM kvs k).isSome else (valM kvs k).isSome)) S := by
  have e : inB S y (.ref n) = some (valM kvs k).isSome := by
    unfold inB
    dsimp only
    rw [if_pos (isD_K h)]
    unfold dGet
    rw [h]
    dsimp only
    rw [hy]
    rfl
  unfold gIn
  rw [e]
  rfl
theorem intD_map (n : Nat) : ∀ ks : List Int, (ks.map VV.int).mapM (dtA S n) = some (ks.map PyData.int)
  | [] => rfl
  | k :: ks => by
    rw [List.map_cons, List.mapM_cons, intD_map n ks]
    cases n <;> rfl
theorem ints_dt {n k : Nat} {ks : List Int} (h : S[k]? = some (.lst (ks.map VV.int))) : dtA S (n + 1) (.ref k) = some (.list (ks.map PyData.int)) := by
  unfold dtA
  rw [h]
  dsimp only
  rw [intD_map]
  rfl
theorem okDs_ints : ∀ ks : List Int, okDs (ks.map PyData.int) = true
  | [] => rfl
  | k :: ks => by
    rw [List.map_cons]
    show (okD (.int k) && okDs _) = true
    rw [okDs_ints ks]
    rfl
theorem ints_ok {ks : List Int} (h : ks.length ≤ 1000) : okD (.list (ks.map PyData.int)) = true := by
  show (decide ((ks.map PyData.int).length ≤ 1000) && okDs _) = true
  rw [okDs_ints, List.length_map, Bool.and_true]
  exact decide_eq_true h
theorem any_eqv {i : Int} : ∀ ks : List Int, ((ks.map PyData.int).any fun z => PyData.eqv z (.int i)) = ks.contains i
  | [] => rfl
  | k :: ks => by
    rw [List.map_cons, List.any_cons, any_eqv ks, List.contains_cons]
    simp only [PyData.eqv]
    rw [Bool.eq_iff_iff]
    simp only [Bool.or_eq_true, beq_iff_eq]
    constructor <;> rintro (h | h) <;> first | exact .inl h.symm | exact .inr h
theorem wE_inI {neg : Bool} {n : Nat} {ks : List Int} {i : Int} (h : S[n]? = some (.lst (ks.map VV.int))) (hl : ks.length ≤ 1000) : wE (gIn neg (.int i) (.ref n) S) Q = Q (.bl (if neg = true then !ks.contains i else ks.contains i)) S := by
  have d1 : dat S 8 (.int i) = some (.int i) := dtA_dat 1 8 _ _ (by decide) rfl
  have d2 : dat S 8 (.ref n) = some (.list (ks.map PyData.int)) := dtA_dat 1 8 _ _ (by decide) (ints_dt h)
  have s1 : SeqAt.shaped (.int i) = true := dtA_shaped (S := S) (n := 1) (x := .int i) rfl (by decide) rfl
  have s2 : SeqAt.shaped (.list (ks.map PyData.int)) = true := dtA_shaped (S := S) (n := 1) (ints_dt h) (by decide) (ints_ok hl)
  have e : inB S (.int i) (.ref n) = some (ks.contains i) := by
    unfold inB
    dsimp only
    rw [if_neg (by rw [isD_L h]; decide), d1, d2]
    show (if SeqAt.shaped (.int i) = true ∧ SeqAt.shaped (.list (ks.map PyData.int)) = true then some ((ks.map PyData.int).any fun z => PyData.eqv z (.int i)) else none) = _
    rw [if_pos ⟨s1, s2⟩, any_eqv]
  unfold gIn
  rw [e]
  rfl
theorem intsO_mapI : ∀ ks : List Int, intsO (ks.map VV.int) = some ks
  | [] => rfl
  | k :: ks => by
    rw [List.map_cons]
    show (intsO (ks.map VV.int)).map (fun x => k :: x) = _
    rw [intsO_mapI ks]
    rfl
theorem wE_remove {n : Nat} {ks : List Int} {k : Int} (h : S[n]? = some (.lst (ks.map VV.int))) (hk : k ∈ ks) : wE (gLm lmRemove (.ref n) [.int k] S) Q = Q .non (S.set n (.lst ((ks.eraseIdx (ks.idxOf k)).map VV.int))) := wE_lm h (by
  have e : intsO (ks.map VV.int) = some ks := intsO_mapI ks
  unfold lmRemove
  dsimp only
  rw [e]
  show (if ks.contains k = true then _ else none) = _
  rw [if_pos (by simpa using hk)])
theorem wE_popK {n : Nat} {kvs : List (Key × VV)} {y v : VV} {k : Key} (h : S[n]? = some (.dK kvs)) (hy : keyV y = some k) (hv : valM kvs k = some v) : wE (gPopK (.ref n) y S) Q = Q v (S.set n (.dK (dropM kvs k))) := by
  show wE (optP (popD S n y)) Q = _
  unfold popD
  rw [h]
  dsimp only
  rw [hy]
  show wE (optP ((valM kvs k).map fun v => (v, S.set n (.dK (dropM kvs k))))) Q = _
  rw [hv]
  rfl
theorem wE_dpop {o k : EM} : wE (mDPop o k σ S) Q = wE (o σ S) fun x S1 => if isD S1 x = true then wE (k σ S1) fun y S2 => wE (gPopK x y S2) Q else False := by
  unfold mDPop
  rw [wE_bind]
  congr 1
  funext x S1
  rw [wE_if, wE_bind]
  rfl
/-! sorting whole numbers -/
def leI (a b : Int) : Bool := PySem.W.dataLe false kD (.inl a) (.inl b)
def srtI (ks : List Int) : List Int := ks.mergeSort leI
theorem srtI_mem {ks : List Int} {x : Int} : x ∈ srtI ks ↔ x ∈ ks := (List.mergeSort_perm ks leI).mem_iff
theorem srtI_len {ks : List Int} : (srtI ks).length = ks.length := List.length_mergeSort _
theorem ints_can {ks : List Int} (h : ks.length ≤ 100000) : canSort S (ks.map VV.int) := by
  have e : ∀ k : Int, datD S (.int k) = .int k := fun k => by unfold datD; rw [show dat S 8 (.int k) = some (.int k) from dtA_dat 1 8 _ _ (by decide) rfl]; rfl
  have e1 : (ks.map VV.int).map (datD S) = ks.map PyData.int := by
    rw [List.map_map]
    exact List.map_congr_left fun k _ => e k
  refine ⟨fun x hx => ?_, ?_, ?_, by rw [List.length_map]; exact h⟩
  · obtain ⟨k, _, rfl⟩ := List.mem_map.mp hx
    rw [e, show dat S 8 (.int k) = some (.int k) from dtA_dat 1 8 _ _ (by decide) rfl]
    exact ⟨rfl, by simp [PyData.depth]⟩
  · rw [e1]
    exact PySem.W.AllAlike.of fun a b => rfl
  · rw [e1]
    exact PySem.W.Sortable.others fun a => ⟨fun z => (by cases z), fun xs z => (by cases z)⟩
theorem wE_sortI {n : Nat} {ks : List Int} (h : S[n]? = some (.lst (ks.map VV.int))) (hl : ks.length ≤ 100000) : wE (gSorted (.ref n) S) Q = Q (.ref S.length) (S ++ [.lst ((srtI ks).map VV.int)]) := by
  rw [wE_sorted h (ints_can hl)]
  have e : (ks.map VV.int).mergeSort (PySem.W.dataLe false (datD S)) = (srtI ks).map VV.int := by
    have ed : ∀ k : Int, datD S (.int k) = .int k := fun k => by unfold datD; rw [show dat S 8 (.int k) = some (.int k) from dtA_dat 1 8 _ _ (by decide) rfl]; rfl
    refine (List.map_mergeSort fun a _ b _ => ?_).symm
    unfold leI PySem.W.dataLe PySem.W.sortLe
    dsimp only
    rw [ed, ed]
    rfl
  rw [e]
theorem wE_sortK {n : Nat} {ks : List Int} {f : Int → VV} (h : S[n]? = some (.dK (ks.map fun k => (.inl k, f k)))) (hl : ks.length ≤ 100000) : wE (gSortA (.ref n) S) Q = Q (.ref S.length) (S ++ [.lst ((srtI ks).map VV.int)]) := by
  have e0 : (ks.map fun k => ((.inl k, f k) : Key × VV)).map (·.1) = ks.map .inl := by rw [List.map_map]; rfl
  have ok : keysOk ((ks.map fun k => ((.inl k, f k) : Key × VV)).map (·.1)) := by
    rw [e0]
    unfold keysOk
    have e1 : (ks.map (Sum.inl : Int → Key)).map kD = ks.map PyData.int := by rw [List.map_map]; rfl
    rw [e1, List.length_map]
    exact ⟨PySem.W.AllAlike.of fun a b => rfl, PySem.W.Sortable.others fun a => ⟨fun z => (by cases z), fun xs z => (by cases z)⟩, hl⟩
  unfold gSortA
  rw [if_pos (isD_K h)]
  dsimp only
  rw [h]
  show wE (gSortO S (.dK _)) Q = _
  unfold gSortO
  dsimp only
  rw [if_pos ok, e0]
  have e : ((ks.map (Sum.inl : Int → Key)).mergeSort (PySem.W.dataLe false kD)).map vK = (srtI ks).map VV.int := by
    rw [← List.map_mergeSort (r := leI) (s := PySem.W.dataLe false kD) (f := (Sum.inl : Int → Key)) (l := ks) (fun a _ b _ => rfl), List.map_map]
    rfl
  rw [e]
  rfl
theorem wE_lenK {n : Nat} {kvs : List (Key × VV)} (h : S[n]? = some (.dK kvs)) : wE (gLen (.ref n) S) Q = Q (.int (kvs.length : Nat)) S := by
  unfold gLen
  have e : lenOf S (.ref n) = some kvs.length := by unfold lenOf; dsimp only; rw [h]; rfl
  rw [e]
  rfl
theorem wS_setK {n : Nat} {kvs : List (Key × VV)} {y v : VV} {k : Key} (h : S[n]? = some (.dK kvs)) (hy : keyV y = some k) (hl : kvs.length ≤ 100000) : wS (optS (setS (.ref n) y v S) σ) P = P.nx σ (S.set n (.dK (putM kvs k v))) := by
  have e : setS (.ref n) y v S = some (S.set n (.dK (putM kvs k v))) := by
    show setR n y v S = _
    unfold setR
    rw [h]
    dsimp only
    rw [hy, if_pos hl]
    rfl
  rw [e]
  rfl
theorem valM_inl {ks : List Int} {f : Int → VV} {k : Int} : valM (ks.map fun k => ((.inl k, f k) : Key × VV)) (.inl k) = if k ∈ ks then some (f k) else none := by
  unfold valM
  induction ks with
  | nil => rfl
  | cons a r ih =>
    rw [List.map_cons, List.find?_cons]
    by_cases c : a = k
    · subst c
      simp
    · have e : decide ((Sum.inl a : Key) = .inl k) = false := decide_eq_false fun z => c (Sum.inl.inj z)
      simp only [e]
      rw [ih]
      by_cases d : k ∈ r
      · rw [if_pos d, if_pos (List.mem_cons_of_mem _ d)]
      · rw [if_neg d, if_neg (fun z => by rcases List.mem_cons.mp z with h | h; exact c h.symm; exact d h)]
theorem putM_new {ks : List Int} {f : Int → VV} {k : Int} (h : k ∉ ks) : putM (ks.map fun k => ((.inl k, f k) : Key × VV)) (.inl k) (f k) = (ks ++ [k]).map fun k => ((.inl k, f k) : Key × VV) := by
  unfold putM
  rw [if_neg, List.map_append]
  · rfl
  · rw [List.any_map]
    intro z
    obtain ⟨x, hx, e⟩ := List.any_eq_true.mp z
    have e := of_decide_eq_true e
    exact h (Sum.inl.inj e ▸ hx)
theorem dropM_inl {ks : List Int} {f : Int → VV} {k : Int} (nd : ks.Nodup) : dropM (ks.map fun k => ((.inl k, f k) : Key × VV)) (.inl k) = (ks.eraseIdx (ks.idxOf k)).map fun k => ((.inl k, f k) : Key × VV) := by
  unfold dropM
  rw [← List.erase_eq_eraseIdx_of_idxOf rfl, nd.erase_eq_filter, List.filter_map]
  congr 1
  refine List.filter_congr fun a _ => ?_
  show decide ((Sum.inl a : Key) ≠ .inl k) = _
  by_cases c : a = k
  · subst c
    simp
  · have : (Sum.inl a : Key) ≠ .inl k := fun z => c (Sum.inl.inj z)
    simp [c]
end
end Sx
end
/-! Sy7: running over a store whose end is written out. -/
noncomputable section
namespace Sx
open PySem L2
section
variable {P : Po} {F : YQ} {E : XQ} {σ : Sg} {S L M : Sto} {Q : VV → Sto → Prop} {t : FT}
theorem get_app {k : Nat} : (S ++ L)[S.length + k]? = L[k]? := by
  rw [List.getElem?_append_right (Nat.le_add_right _ _), Nat.add_sub_cancel_left]
theorem get_app0 : (S ++ L)[S.length]? = L[0]? := get_app (k := 0)
theorem set_app {k : Nat} {o : OO} : (S ++ L).set (S.length + k) o = S ++ L.set k o := by
  rw [List.set_append_right _ _ (Nat.le_add_right _ _), Nat.add_sub_cancel_left]
theorem set_app0 {o : OO} : (S ++ L).set S.length o = S ++ L.set 0 o := set_app (k := 0)
/-- what stands at an attribute -/
def wO {α : Type} (o : Option α) (Q : α → Prop) : Prop := match o with
  | some x => Q x
  | none => False
theorem wO_some {α : Type} {x : α} {Q : α → Prop} : wO (some x) Q = Q x := (rfl)
def fldW (t : FT) (o : Option OO) (S : Sto) (Q : VV → Sto → Prop) : Prop := match o with
  | some (.ins c fs) => wO (fldR t (c, fs)) fun x => Q x S
  | _ => False
theorem wE_gFld {n : Nat} : wE (gFld t (.ref n) S) Q = fldW t (S[n]?) S Q := by
  unfold gFld insAt fldW
  dsimp only
  cases S[n]? with
  | none => rfl
  | some o =>
    cases o with
    | ins c fs =>
      show wE (optR (fldR t (c, fs)) S) Q = wO (fldR t (c, fs)) fun x => Q x S
      cases fldR t (c, fs) <;> rfl
    | _ => rfl
theorem fldW1 {c j : Nat} {fs : List VV} : fldW [(c, j)] (some (.ins c fs)) S Q = wO (fs[j]?) fun x => Q x S := by
  show wO ((List.lookup c [(c, j)]).bind fun j => fs[j]?) (fun x => Q x S) = _
  rw [List.lookup_cons, beq_self_eq_true]
  rfl
theorem fldW2 {c d i j : Nat} {fs : List VV} (h : (c == d) = false) : fldW [(d, i), (c, j)] (some (.ins c fs)) S Q = wO (fs[j]?) fun x => Q x S := by
  show wO ((List.lookup c [(d, i), (c, j)]).bind fun j => fs[j]?) (fun x => Q x S) = _
  rw [List.lookup_cons, h, List.lookup_cons, beq_self_eq_true]
  rfl
theorem fldW3 {c d i j : Nat} {fs : List VV} : fldW [(c, j), (d, i)] (some (.ins c fs)) S Q = wO (fs[j]?) fun x => Q x S := by
  show wO ((List.lookup c [(c, j), (d, i)]).bind fun j => fs[j]?) (fun x => Q x S) = _
  rw [List.lookup_cons, beq_self_eq_true]
  rfl
def stfW (t : FT) (o : Option OO) (n : Nat) (x : VV) (S : Sto) (σ : Sg) (P : Po) : Prop := match o with
  | some (.ins c fs) => wO ((t.lookup c).bind fun j => putA fs j x) fun fs => P.nx σ (S.set n (.ins c fs))
  | _ => False
theorem wS_sFld {n : Nat} {x : VV} : wS (optS (setF t (.ref n) x S) σ) P = stfW t (S[n]?) n x S σ P := by
  show wS (optS ((insAt S (.ref n)).bind fun p => (t.lookup p.1).bind fun j => (putA p.2 j x).map fun fs => S.set n (.ins p.1 fs)) σ) P = _
  unfold insAt stfW
  dsimp only
  cases S[n]? with
  | none => rfl
  | some o =>
    cases o with
    | ins c fs =>
      show wS (optS ((t.lookup c).bind fun j => (putA fs j x).map fun fs => S.set n (.ins c fs)) σ) P = wO ((t.lookup c).bind fun j => putA fs j x) fun fs => P.nx σ (S.set n (.ins c fs))
      cases t.lookup c with
      | none => rfl
      | some j =>
        show wS (optS ((putA fs j x).map fun fs => S.set n (.ins c fs)) σ) P = wO (putA fs j x) _
        cases putA fs j x <;> rfl
    | _ => rfl
theorem stfW1 {c j n : Nat} {fs : List VV} {x : VV} : stfW [(c, j)] (some (.ins c fs)) n x S σ P = wO (putA fs j x) fun fs => P.nx σ (S.set n (.ins c fs)) := by
  show wO ((List.lookup c [(c, j)]).bind fun j => putA fs j x) (fun fs => P.nx σ (S.set n (.ins c fs))) = _
  rw [List.lookup_cons, beq_self_eq_true]
  rfl
theorem stfW2 {c d i j n : Nat} {fs : List VV} {x : VV} (h : (c == d) = false) : stfW [(d, i), (c, j)] (some (.ins c fs)) n x S σ P = wO (putA fs j x) fun fs => P.nx σ (S.set n (.ins c fs)) := by
  show wO ((List.lookup c [(d, i), (c, j)]).bind fun j => putA fs j x) (fun fs => P.nx σ (S.set n (.ins c fs))) = _
  rw [List.lookup_cons, h, List.lookup_cons, beq_self_eq_true]
  rfl
theorem stfW3 {c d i j n : Nat} {fs : List VV} {x : VV} : stfW [(c, j), (d, i)] (some (.ins c fs)) n x S σ P = wO (putA fs j x) fun fs => P.nx σ (S.set n (.ins c fs)) := by
  show wO ((List.lookup c [(c, j), (d, i)]).bind fun j => putA fs j x) (fun fs => P.nx σ (S.set n (.ins c fs))) = _
  rw [List.lookup_cons, beq_self_eq_true]
  rfl
theorem putA_end {fs : List VV} {j : Nat} {x : VV} (h : fs.length = j) : putA fs j x = some (fs ++ [x]) := by
  unfold putA
  rw [if_neg (by omega), if_pos h.symm]
theorem putA_nil {x : VV} : putA [] 0 x = some [x] := (rfl)
theorem putA_set0 {y x : VV} {fs : List VV} : putA (y :: fs) 0 x = some (x :: fs) := (rfl)
theorem stW_dK {n : Nat} {kvs : List (Key × VV)} {y v : VV} {k : Key} (h : S[n]? = some (.dK kvs)) (hy : keyV y = some k) (hl : kvs.length ≤ 100000) : stW (S[n]?) n y v S σ P = P.nx σ (S.set n (.dK (putM kvs k v))) := by
  have e := wS_setK (P := P) (σ := σ) (v := v) h hy hl
  rw [wS_st] at e
  exact e
theorem putA_cons {y x : VV} {fs : List VV} {j : Nat} : putA (y :: fs) (j + 1) x = (putA fs j x).map (y :: ·) := by
  unfold putA
  rw [List.length_cons]
  by_cases c : j < fs.length
  · rw [if_pos (by omega), if_pos c]
    rfl
  · rw [if_neg (by omega), if_neg c]
    by_cases d : j = fs.length
    · rw [if_pos (by omega), if_pos d]
      rfl
    · rw [if_neg (by omega), if_neg d]
      rfl
theorem wE_dT : wE (mDT σ S) Q = Q (.ref S.length) (S ++ [.dT []]) := (rfl)
theorem putA_at {fs : List VV} {j : Nat} {x : VV} (h : j < fs.length) : putA fs j x = some (fs.set j x) := if_pos h
def insO : Option OO → Option (Nat × List VV)
  | some (.ins c fs) => some (c, fs)
  | _ => none
theorem insAt_eq {n : Nat} : insAt S (.ref n) = insO (S[n]?) := by
  cases h : S[n]? with
  | none =>
    unfold insAt
    dsimp only
    rw [h]
    rfl
  | some o =>
    unfold insAt
    dsimp only
    rw [h]
    cases o <;> rfl
theorem insO_ins {c : Nat} {fs : List VV} : insO (some (.ins c fs)) = some (c, fs) := rfl
/-- o.f op= a constant -/
theorem wS_augC {o e : EM} {y : VV} {g : VV → VV → Sto → Res VV} (he : e = mC y) : wS (mAugA t g o e σ S) P = wE (o σ S) fun a S1 => wE (gFld t a S1) fun x S2 => wE (g x y S2) fun z S4 => if clI S4 a = clI S2 a then wS (optS (setF t a z S4) σ) P else False := by
  subst he
  unfold mAugA
  rw [wS_toS]
  congr 1
  funext a S1
  rw [wS_toS]
  congr 1
  funext x S2
  rw [wS_toS, wE_C, wS_toS]
  congr 1
  funext z S4
  rw [wS_if]
  rfl
theorem wY_turn {r : SR} {k : Sg → Sto → SR} : wY (r.turn k) P F = wY r { nx := fun σ S => wY (k σ S) P F, ct := fun σ S => wY (k σ S) P F, bk := P.nx, rt := P.rt } F := by cases r <;> rfl
theorem wY_for {m : IM} {g : GM} {b : SM} : wY (mFor m g b σ S) P F = wX (m σ S) (fun src S => wY (forL src.ok g b src.items σ S) P F) (fun n S => F n σ S) := by
  unfold mFor
  cases m σ S <;> rfl
theorem wX_seqI {a : EM} {Q : Src → Sto → Prop} : wX (mSeqI a σ S) Q E = wX (a σ S) (fun x S => wX (optI (srcOf S x) S) Q E) E := by
  unfold mSeqI
  rw [wX_bind]
  rfl
theorem wX_optI {s : Src} {Q : Src → Sto → Prop} : wX (optI (some s) S) Q E = Q s S := (rfl)
theorem forX_inv {ok : Sto → Prop} {g : GM} {b : SM} {items : List VV} (I : Nat → Sg → Sto → Prop) (h0 : I 0 σ S) (hok : ∀ i σ S, I i σ S → ok S)
    (step : ∀ i x σ S, items[i]? = some x → I i σ S → wY (g x σ S) { nx := fun σ S => wY (b σ S) { nx := I (i + 1), ct := I (i + 1), bk := P.nx, rt := P.rt } F } F)
    (fin : ∀ σ S, I items.length σ S → P.nx σ S) : wY (forL ok g b items σ S) P F := by
  suffices h : ∀ (k i : Nat) (σ : Sg) (S : Sto), i + k = items.length → I i σ S → wY (forL ok g b (items.drop i) σ S) P F by
    have := h items.length 0 σ S (Nat.zero_add _) h0
    rwa [List.drop_zero] at this
  intro k
  induction k with
  | zero =>
    intro i σ S hi hI
    have hl : i = items.length := hi
    rw [List.drop_eq_nil_of_le (by omega)]
    unfold forL
    rw [if_pos (hok i σ S hI)]
    exact fin σ S (hl ▸ hI)
  | succ k ih =>
    intro i σ S hi hI
    have hlt : i < items.length := by omega
    rw [List.drop_eq_getElem_cons hlt]
    unfold forL
    rw [if_pos (hok i σ S hI), wY_turn, wY_andThen, wY_nxo]
    have hx : items[i]? = some items[i] := List.getElem?_eq_getElem hlt
    refine wY_mono (step i _ σ S hx hI) (fun σ S h => ?_) (fun _ _ z => z) (fun _ _ z => z) (fun _ _ z => z) (fun _ _ _ z => z)
    refine wY_mono h (fun σ S h => ?_) (fun _ _ z => z) (fun _ _ z => z) (fun σ S h => ?_) (fun _ _ _ z => z)
    · exact ih (i + 1) σ S (by omega) h
    · exact ih (i + 1) σ S (by omega) h
theorem wY_gtup {n : Nat} {g : GMs} {xs : List VV} (h : xs.length = n) : wY (gmTup n g (.tup xs) σ S) P F = wY (g xs σ S) P F := by
  show wY (if xs.length = n then g xs σ S else .fail) P F = _
  rw [if_pos h]
theorem wY_gcons {x : VV} {xs : List VV} {g : GM} {r : GMs} : wY (gmCons g r (x :: xs) σ S) P F = wY (g x σ S) { P with nx := fun σ S => wY (r xs σ S) P F } F := wY_andThen
theorem wY_gname {i : Nat} {x : VV} : wY (gmName i x σ S) P F = P.nx (σ.set i (some x)) S := (rfl)
theorem wY_gnil : wY (gmNil [] σ S) P F = P.nx σ S := (rfl)
end
end Sx
end
/-! Sy8: weakest preconditions of the newer forms; comprehensions by what they hold. -/
noncomputable section
namespace Sx
open PySem L2
section
variable {σ : Sg} {S : Sto} {Q : VV → Sto → Prop} {P : Po} {E : XQ}
theorem wE_why {T : ExTab} {l : List MCla} {k : Nat} {m : EM} : wE (mWhy T l k m σ S) Q = wX (m σ S) (fun v S' => Q (.tup [.str "told", v]) S') fun n S' => wE (srE (mHs T l n (List.replicate k none) S')) Q := by
  unfold mWhy
  cases m σ S <;> rfl
theorem wE_srE {v : VV} : wE (srE (.rt v S)) Q = Q v S := (rfl)
theorem lock_w {d m : EM} (h : wE (d σ S) fun x _ => ∃ n o, x = .ref n ∧ S[n]? = some o ∧ dictU o = true ∧ wE (m σ (S.set n (.lk o))) fun v S2 => S2[n]? = some (.lk o) ∧ Q v (S2.set n o)) : wE (mLock d m σ S) Q := by
  obtain ⟨x, S1, e, n, o, rfl, h1, h2, h3⟩ := wE_ex h
  unfold mLock
  rw [e]
  dsimp only
  rw [h1]
  unfold lockO
  dsimp only
  rw [if_pos h2]
  obtain ⟨v, S2, e2, h4, h5⟩ := wE_ex h3
  rw [e2]
  unfold unlockR
  dsimp only
  rw [if_pos h4]
  exact h5
theorem wE_keysI {a : EM} {Q : Src → Sto → Prop} : wE (mKeysI a σ S) Q = wE (a σ S) fun x S1 => wE (optI (kSrc S1 x) S1) Q := wE_bind
theorem wE_itemsI {a : EM} {Q : Src → Sto → Prop} : wE (mItemsI a σ S) Q = wE (a σ S) fun x S1 => wE (optI (iSrc S1 x) S1) Q := wE_bind
theorem kSrc_K {n : Nat} {kvs : List (Key × VV)} (h : S[n]? = some (.lk (.dK kvs))) : kSrc S (.ref n) = some ⟨kvs.map fun p => vK p.1, fun S => S[n]? = some (.lk (.dK kvs))⟩ := by
  unfold kSrc
  dsimp only
  rw [h]
theorem iSrc_K {n : Nat} {kvs : List (Key × VV)} (h : S[n]? = some (.lk (.dK kvs))) : iSrc S (.ref n) = some ⟨kvs.map fun p => .tup [vK p.1, p.2], fun S => S[n]? = some (.lk (.dK kvs))⟩ := by
  unfold iSrc
  dsimp only
  rw [h]
theorem wE_dget {o k : EM} : wE (mDGet o k σ S) Q = wE (o σ S) fun x S1 => if isD S1 x = true then wE (k σ S1) fun y S2 => wE (gGet1 x y S2) Q else False := by
  unfold mDGet
  rw [wE_bind]
  congr 1
  funext x S1
  rw [wE_if]
  congr 1
  rw [wE_bind]
theorem get1_K {n : Nat} {kvs : List (Key × VV)} {y : VV} {k : Key} (h : S[n]? = some (.dK kvs)) (hy : keyV y = some k) : wE (gGet1 (.ref n) y S) Q = Q ((valM kvs k).getD .non) S := by
  unfold gGet1 dGet
  dsimp only
  rw [h]
  dsimp only
  rw [hy]
  rfl
theorem wE_js0 {acc : Str} : wE (mJs [] acc σ S) Q = Q (.str acc) S := (rfl)
theorem wE_js {a : EM} {r : List EM} {acc : Str} : wE (mJs (a :: r) acc σ S) Q = wE (a σ S) fun x S1 => wE (jsK (fun acc S2 => mJs r acc σ S2) acc x S1) Q := wE_bind
theorem wE_jsK {r : Str → Sto → Res VV} {acc y : Str} : wE (jsK r acc (.str y) S) Q = if (acc ++ y).length ≤ 100000 then wE (r (acc ++ y) S) Q else False := by
  unfold jsK
  rw [wE_if]
  rfl
theorem wE_fmt {a : EM} : wE (mFmt a σ S) Q = wE (a σ S) fun x S1 => wE (fmtR x S1) Q := wE_bind
theorem wE_fmtI {i : Int} : wE (fmtR (.int i) S) Q = if i.natAbs.log2 < 1920 then Q (.str (toString i)) S else False := by
  unfold fmtR
  rw [wE_if]
  rfl
theorem wE_str {i : Int} : wE (gStr (.int i) S) Q = if i.natAbs.log2 < 1920 then Q (.str (toString i)) S else False := by
  unfold gStr
  rw [wE_if]
  rfl
theorem wE_slT {xs : List VV} {lo hi : Option Int} : wE (gSl (.tup xs) lo hi S) Q = Q (.tup (cutM xs lo hi)) S := (rfl)
theorem wE_addT {xs ys : List VV} (h : xs.length + ys.length ≤ 100000) : wE (gAdd (.tup xs) (.tup ys) S) Q = Q (.tup (xs ++ ys)) S := by
  unfold gAdd
  simp [h, wE]
theorem lenOwn_w {c : Nat} {mir : FM} {x : VV} {fs : List VV} (h : insAt S x = some (c, fs)) (k : wE (mir [x] S) fun v S' => ∃ i : Int, v = .int i ∧ 0 ≤ i ∧ i ≤ 1000000 ∧ Q (.int i) S') : wE (gLenOwn c mir x S) Q := by
  unfold gLenOwn ownCall
  rw [h]
  dsimp only
  rw [if_pos rfl]
  obtain ⟨v, S', e, i, rfl, h0, h1, q⟩ := wE_ex k
  rw [e]
  unfold lenEnd
  dsimp only
  rw [if_pos ⟨h0, h1⟩]
  exact q
theorem reprOwn_w {c : Nat} {mir : FM} {x : VV} {fs : List VV} (h : insAt S x = some (c, fs)) (k : wE (mir [x] S) fun v S' => ∃ i : Str, v = .str i ∧ Q (.str i) S') : wE (gReprOwn c mir x S) Q := by
  unfold gReprOwn ownCall
  rw [h]
  dsimp only
  rw [if_pos rfl]
  obtain ⟨v, S', e, i, rfl, q⟩ := wE_ex k
  rw [e]
  exact q
theorem wE_dsp {ks : List Str} {a : AM} : wE (mDsp ks a σ S) Q = wE (a σ (S ++ [.dK []])) fun xs S1 => wE (dspK S.length ks xs S1) Q := wE_bind
theorem dspK_w {n : Nat} {ks : List Str} {xs : List VV} (h : S[n]? = some (.dK [])) (hl : xs.length = ks.length) : wE (dspK n ks xs S) Q = Q (.ref n) (S.set n (.dK (mergeM [] ((ks.map (Sum.inr : Str → Key)).zip xs)))) := by
  unfold dspK
  rw [if_pos ⟨h, hl⟩]
  rfl
/-! ### comprehensions -/
theorem frD {S1 S' : Sto} {o : OO} (f : Fr (fun k => k = S1.length) (S1 ++ [o]) S') : Fr No S1 S' := Fr.new Fr.app (f.wk fun k _ h => .inl (by omega))
theorem frL {M : Nat → Prop} {S1 S' : Sto} {o : OO} (f : Fr M (S1 ++ [o]) S') : S1.length < S'.length := by
  have := f.1
  rw [List.length_append] at this
  exact this
/-- a comprehension whose items lay what they want and change nothing that stands -/
theorem lc_map {m : IM} {g : GM} {e : EM} {own : List Nat} (n : Nat) (f : Nat → VV) (hn : n ≤ 100000)
    (hm : wE (m σ S) fun src S1 => src.items.length = n ∧ Fr No S S1 ∧ (∀ S', Fr No S1 S' → src.ok S') ∧
      ∀ (i : Nat) (x : VV) (S' : Sto), src.items[i]? = some x → Fr No S1 S' → S1.length < S'.length → wG (g x (wipeM σ own) S') fun σ2 S2 => Fr No S' S2 ∧ wE (e σ2 S2) fun v S3 => v = f i ∧ Fr No S2 S3)
    (q : ∀ r S', S.length ≤ r → S'[r]? = some (.lst ((List.range n).map f)) → Fr No S S' → Q (.ref r) S') : wE (mLc m g mYes e own σ S) Q := by
  rw [wE_lc]
  refine wE_mono hm fun src S1 ⟨h1, h2, h3, h4⟩ => ?_
  refine lcL_inv (fun i S' => S'[S1.length]? = some (.lst ((List.range i).map f)) ∧ Fr (fun k => k = S1.length) (S1 ++ [.lst []]) S') ⟨get_last, Fr.refl _⟩ (fun i S' h => h3 S' (frD h.2)) (fun i x S' hx ⟨k1, k2⟩ => ?_) fun S' ⟨k1, k2⟩ => ?_
  · have hi : i < n := by
      rw [← h1]
      exact (List.getElem?_eq_some_iff.mp hx).1
    refine wS_mono (h4 i x S' hx (frD k2) (frL k2)) (fun σ2 S2 ⟨k3, k4⟩ => ?_) (fun _ _ z => z) (fun _ _ z => z) (fun _ _ z => z)
    dsimp only
    rw [wE_yes, if_pos rfl]
    refine wE_mono k4 fun y S3 ⟨k5, k6⟩ => ?_
    subst k5
    have k7 := k6.at_ (k3.at_ k1 fun z => z) fun z => z
    refine ⟨_, k7, by rw [List.length_map, List.length_range]; omega, ?_, ?_⟩
    · rw [set_at k7, List.range_succ, List.map_append]
      rfl
    · exact k2.trans (((k3.trans k6).wk fun _ _ z => z.elim).trans (Fr.set rfl))
  · rw [h1] at k1
    refine q _ S' h2.1 k1 ?_
    refine h2.trans (Fr.new Fr.app (k2.wk fun k hk z => .inl (by omega)))
/-- the same with a test that keeps those where c is true -/
theorem lc_filt {m : IM} {g : GM} {t : TM} {e : EM} {own : List Nat} (n : Nat) (c : Nat → Bool) (f : Nat → VV) (hn : n ≤ 100000)
    (hm : wE (m σ S) fun src S1 => src.items.length = n ∧ Fr No S S1 ∧ (∀ S', Fr No S1 S' → src.ok S') ∧
      ∀ (i : Nat) (x : VV) (S' : Sto), src.items[i]? = some x → Fr No S1 S' → S1.length < S'.length → wG (g x (wipeM σ own) S') fun σ2 S2 => Fr No S' S2 ∧ wE (t σ2 S2) fun b S3 => b = c i ∧ Fr No S2 S3 ∧ (c i = true → wE (e σ2 S3) fun v S4 => v = f i ∧ Fr No S3 S4))
    (q : ∀ r S', S.length ≤ r → S'[r]? = some (.lst (((List.range n).filter c).map f)) → Fr No S S' → Q (.ref r) S') : wE (mLc m g t e own σ S) Q := by
  rw [wE_lc]
  refine wE_mono hm fun src S1 ⟨h1, h2, h3, h4⟩ => ?_
  refine lcL_inv (fun i S' => S'[S1.length]? = some (.lst (((List.range i).filter c).map f)) ∧ Fr (fun k => k = S1.length) (S1 ++ [.lst []]) S') ⟨get_last, Fr.refl _⟩ (fun i S' h => h3 S' (frD h.2)) (fun i x S' hx ⟨k1, k2⟩ => ?_) fun S' ⟨k1, k2⟩ => ?_
  · have hi : i < n := by
      rw [← h1]
      exact (List.getElem?_eq_some_iff.mp hx).1
    refine wS_mono (h4 i x S' hx (frD k2) (frL k2)) (fun σ2 S2 ⟨k3, k4⟩ => ?_) (fun _ _ z => z) (fun _ _ z => z) (fun _ _ z => z)
    refine wE_mono k4 fun b S3 ⟨k5, k6, k7⟩ => ?_
    subst k5
    have k8 := k6.at_ (k3.at_ k1 fun z => z) fun z => z
    cases hc : c i with
    | true =>
      rw [if_pos rfl]
      refine wE_mono (k7 hc) fun y S4 ⟨k9, k10⟩ => ?_
      subst k9
      have k11 := k10.at_ k8 fun z => z
      have hl : (((List.range i).filter c).map f).length < 100000 := by
        rw [List.length_map]
        have := List.length_filter_le c (List.range i)
        rw [List.length_range] at this
        omega
      refine ⟨_, k11, hl, ?_, ?_⟩
      · rw [set_at k11, List.range_succ, List.filter_append, List.map_append]
        have : [i].filter c = [i] := by simp [hc]
        rw [this]
        rfl
      · exact k2.trans ((((k3.trans k6).trans k10).wk fun _ _ z => z.elim).trans (Fr.set rfl))
    | false =>
      rw [if_neg (by decide)]
      refine ⟨?_, k2.trans ((k3.trans k6).wk fun _ _ z => z.elim)⟩
      rw [List.range_succ, List.filter_append]
      have : [i].filter c = [] := by simp [hc]
      rw [this, List.append_nil]
      exact k8
  · rw [h1] at k1
    refine q _ S' h2.1 k1 ?_
    refine h2.trans (Fr.new Fr.app (k2.wk fun k hk z => .inl (by omega)))
/-- two fors: the inner block of an item is told by F -/
theorem lcI_w {ok : Sto → Prop} {g : GM} {e : EM} {D : Nat} {k : Sto → Res VV} (f : Nat → VV) (acc : List VV) {items : List VV} (hok : ∀ S', Fr (fun k => k = D) S S' → ok S') (h0 : S[D]? = some (.lst acc)) (hl : acc.length + items.length ≤ 100000)
    (step : ∀ i x S', items[i]? = some x → Fr (fun k => k = D) S S' → wG (g x σ S') fun σ2 S2 => Fr No S' S2 ∧ wE (e σ2 S2) fun v S3 => v = f i ∧ Fr No S2 S3)
    (q : ∀ S', S'[D]? = some (.lst (acc ++ (List.range items.length).map f)) → Fr (fun k => k = D) S S' → wE (k S') Q) : wE (lcI ok g mYes e σ D k items S) Q := by
  suffices h : ∀ (j i : Nat) (S' : Sto), i + j = items.length → S'[D]? = some (.lst (acc ++ (List.range i).map f)) → Fr (fun k => k = D) S S' → wE (lcI ok g mYes e σ D k (items.drop i) S') Q by
    have := h items.length 0 S (Nat.zero_add _) (by rw [h0]; simp) (Fr.refl _)
    rwa [List.drop_zero] at this
  intro j
  induction j with
  | zero =>
    intro i S' hi hI hf
    have hl : i = items.length := hi
    rw [List.drop_eq_nil_of_le (by omega)]
    unfold lcI
    rw [if_pos (hok S' hf)]
    exact q S' (hl ▸ hI) hf
  | succ j ih =>
    intro i S' hi hI hf
    have hlt : i < items.length := by omega
    rw [List.drop_eq_getElem_cons hlt]
    unfold lcI
    rw [if_pos (hok S' hf), go_w]
    have hx : items[i]? = some items[i] := List.getElem?_eq_getElem hlt
    refine wS_mono (step i _ S' hx hf) (fun σ2 S2 ⟨h1, h2⟩ => ?_) (fun _ _ z => z) (fun _ _ z => z) (fun _ _ z => z)
    dsimp only
    rw [bindF_w, wE_yes, wE_if, if_pos rfl, bindF_w]
    refine wE_mono h2 fun y S3 ⟨h3, h4⟩ => ?_
    subst h3
    have h5 := h4.at_ (h1.at_ hI fun z => z) fun z => z
    have : appS S3 D (f i) = some (S3.set D (.lst (acc ++ (List.range i).map f ++ [f i]))) := by
      unfold appS
      rw [h5]
      show (if _ < 100000 then _ else _) = _
      rw [if_pos (by rw [List.length_append, List.length_map, List.length_range]; omega)]
    rw [this]
    refine ih (i + 1) _ (by omega) ?_ (hf.trans (((h1.trans h4).wk fun _ _ z => z.elim).trans (Fr.set rfl)))
    rw [set_at h5, List.range_succ, List.map_append, List.append_assoc]
    rfl
theorem lc2_map {m m1 : IM} {g g1 : GM} {e : EM} {own vs1 : List Nat} (n : Nat) (F : Nat → List VV) (hF : ∀ i, i < n → (F i).length ≤ 1000) (hn : n ≤ 100)
    (hm : wE (m σ S) fun src S1 => src.items.length = n ∧ Fr No S S1 ∧ (∀ S', Fr No S1 S' → src.ok S') ∧
      ∀ (i : Nat) (x : VV) (S' : Sto), src.items[i]? = some x → Fr No S1 S' → S1.length < S'.length → wG (g x (wipeM σ own) S') fun σ2 S2 => Fr No S' S2 ∧ wE (m1 σ2 S2) fun src1 S3 => Fr No S2 S3 ∧ src1.items.length = (F i).length ∧ (∀ S4, Fr (fun k => k = S1.length) S3 S4 → src1.ok S4) ∧
        ∀ (j : Nat) (y : VV) (S4 : Sto), src1.items[j]? = some y → Fr (fun k => k = S1.length) S3 S4 → wG (g1 y (wipeM σ2 vs1) S4) fun σ3 S5 => Fr No S4 S5 ∧ wE (e σ3 S5) fun v S6 => some v = (F i)[j]? ∧ Fr No S5 S6)
    (q : ∀ r S', S.length ≤ r → S'[r]? = some (.lst (((List.range n).map F).flatten)) → Fr No S S' → Q (.ref r) S') : wE (mLc2 m g mYes m1 g1 mYes e own vs1 σ S) Q := by
  unfold mLc2
  rw [wE_bind]
  refine wE_mono hm fun src S1 ⟨h1, h2, h3, h4⟩ => ?_
  suffices h : ∀ (j i : Nat) (S' : Sto), i + j = src.items.length → S'[S1.length]? = some (.lst (((List.range i).map F).flatten)) → Fr (fun k => k = S1.length) (S1 ++ [.lst []]) S' → wE (lcO src.ok g mYes m1 g1 mYes e (wipeM σ own) vs1 S1.length (src.items.drop i) S') Q by
    have := h src.items.length 0 _ (Nat.zero_add _) (by rw [get_last]; rfl) (Fr.refl _)
    rwa [List.drop_zero] at this
  intro j
  induction j with
  | zero =>
    intro i S' hi hI hf
    have hl : i = src.items.length := hi
    rw [List.drop_eq_nil_of_le (by omega)]
    unfold lcO
    rw [if_pos (h3 S' (frD hf))]
    rw [hl, h1] at hI
    refine q _ S' h2.1 hI ?_
    exact h2.trans (Fr.new Fr.app (hf.wk fun k hk z => .inl (by omega)))
  | succ j ih =>
    intro i S' hi hI hf
    have hlt : i < src.items.length := by omega
    rw [List.drop_eq_getElem_cons hlt]
    unfold lcO
    rw [if_pos (h3 S' (frD hf)), go_w]
    have hx : src.items[i]? = some src.items[i] := List.getElem?_eq_getElem hlt
    refine wS_mono (h4 i _ S' hx (frD hf) (frL hf)) (fun σ2 S2 ⟨k1, k2⟩ => ?_) (fun _ _ z => z) (fun _ _ z => z) (fun _ _ z => z)
    dsimp only
    rw [bindF_w, wE_yes, wE_if, if_pos rfl]
    obtain ⟨src1, S3, e3, k3, k4, k5, k6⟩ := wE_ex k2
    rw [e3]
    show wE (lcI src1.ok g1 mYes e (wipeM σ2 vs1) S1.length _ src1.items S3) Q
    have k7 := k3.at_ (k1.at_ hI fun z => z) fun z => z
    have hlen : (((List.range i).map F).flatten).length ≤ i * 1000 := by
      have : ∀ i, i ≤ n → (((List.range i).map F).flatten).length ≤ i * 1000 := by
        intro i
        induction i with
        | zero => intro _; simp
        | succ i ih =>
          intro h
          rw [List.range_succ, List.map_append, List.flatten_append, List.length_append]
          have := ih (by omega)
          have h5 := hF i (by omega)
          simp only [List.map_cons, List.map_nil, List.flatten_cons, List.flatten_nil, List.append_nil]
          omega
      exact this i (by omega)
    have hFi := hF i (by omega)
    have hfl : ∀ j, (hj : j < (F i).length) → (F i)[j]? = some ((F i).getD j .non) := fun j hj => by simp [List.getD, hj]
    refine lcI_w (fun j => (F i).getD j .non) _ k5 k7 (by omega) (fun j y S4 hy h5 => ?_) fun S4 h5 h6 => ?_
    · refine wS_mono (k6 j y S4 hy h5) (fun σ3 S5 ⟨h6, h7⟩ => ⟨h6, wE_mono h7 fun v S6 ⟨h8, h9⟩ => ⟨?_, h9⟩⟩) (fun _ _ z => z) (fun _ _ z => z) (fun _ _ z => z)
      have hj : j < (F i).length := by
        rw [← k4]
        exact (List.getElem?_eq_some_iff.mp hy).1
      rw [hfl j hj] at h8
      exact Option.some.inj h8
    · refine ih (i + 1) S4 (by omega) ?_ (hf.trans (((k1.trans k3).wk fun _ _ z => z.elim).trans h6))
      rw [h5, List.range_succ, List.map_append, List.flatten_append, k4]
      have : (List.range (F i).length).map (fun j => (F i).getD j .non) = F i := by
        refine List.ext_getElem? fun j => ?_
        rw [List.getElem?_map]
        by_cases hj : j < (F i).length
        · rw [List.getElem?_range hj, hfl j hj]
          rfl
        · rw [List.getElem?_eq_none (l := List.range _) (by rw [List.length_range]; omega), List.getElem?_eq_none (l := F i) (by omega)]
          rfl
      rw [this]
      simp
end
end Sx
end
/-! K06q: the way round a tie, on the mirror. -/
noncomputable section
namespace Sx
open PySem L2
theorem leI_le (a b : Int) : leI a b = decide (a ≤ b) := congrFun (congrFun (PySem.W.dataLe_int (fun i : Int => i)) a) b
theorem srt2 (a b : Int) : srtI [a, b] = if a ≤ b then [a, b] else [b, a] := by
  unfold srtI
  by_cases h : a ≤ b
  · simp [List.mergeSort, List.MergeSort.Internal.splitInTwo, List.merge, leI_le, h]
  · simp [List.mergeSort, List.MergeSort.Internal.splitInTwo, List.merge, leI_le, h]
/-- a comprehension that keeps the items of a list where p holds -/
theorem lc_filtL {α : Type} {xs : List α} {V : α → VV} {p : α → Bool} {σ : Sg} {S : Sto} {Q : VV → Sto → Prop} {m : IM} {g : GM} {t : TM} {e : EM} {own : List Nat} (hn : xs.length ≤ 100000)
    (hm : wE (m σ S) fun src S1 => src.items = xs.map V ∧ Fr No S S1 ∧ (∀ S', Fr No S1 S' → src.ok S') ∧
      ∀ (x : α) (S' : Sto), x ∈ xs → Fr No S1 S' → S1.length < S'.length → wG (g (V x) (wipeM σ own) S') fun σ2 S2 => Fr No S' S2 ∧ wE (t σ2 S2) fun b S3 => b = p x ∧ Fr No S2 S3 ∧ wE (e σ2 S3) fun v S4 => v = V x ∧ Fr No S3 S4)
    (q : ∀ r S', S.length ≤ r → S'[r]? = some (.lst ((xs.filter p).map V)) → Fr No S S' → Q (.ref r) S') : wE (mLc m g t e own σ S) Q := by
  rw [wE_lc]
  refine wE_mono hm fun src S1 ⟨h1, h2, h3, h4⟩ => ?_
  refine lcL_inv (fun i S' => S'[S1.length]? = some (.lst (((xs.take i).filter p).map V)) ∧ Fr (fun k => k = S1.length) (S1 ++ [.lst []]) S') ⟨get_last, Fr.refl _⟩ (fun i S' h => h3 S' (frD h.2)) (fun i x S' hx ⟨k1, k2⟩ => ?_) fun S' ⟨k1, k2⟩ => ?_
  · rw [h1, List.getElem?_map] at hx
    obtain ⟨y, hy, rfl⟩ := Option.map_eq_some_iff.mp hx
    refine wS_mono (h4 y S' (List.mem_of_getElem? hy) (frD k2) (frL k2)) (fun σ2 S2 ⟨k3, k4⟩ => ?_) (fun _ _ z => z) (fun _ _ z => z) (fun _ _ z => z)
    refine wE_mono k4 fun b S3 ⟨k5, k6, k7⟩ => ?_
    subst k5
    have k8 := k6.at_ (k3.at_ k1 fun z => z) fun z => z
    have tk : xs.take (i + 1) = xs.take i ++ [y] := by rw [List.take_add_one, hy]; rfl
    cases hc : p y with
    | true =>
      rw [if_pos rfl]
      refine wE_mono k7 fun v S4 ⟨k9, k10⟩ => ?_
      subst k9
      have k11 := k10.at_ k8 fun z => z
      have hl : (((xs.take i).filter p).map V).length < 100000 := by
        rw [List.length_map]
        have a1 := List.length_filter_le p (xs.take i)
        have a2 := (List.getElem?_eq_some_iff.mp hy).1
        rw [List.length_take] at a1
        omega
      refine ⟨_, k11, hl, ?_, ?_⟩
      · rw [set_at k11, tk, List.filter_append, List.map_append]
        have : [y].filter p = [y] := by simp [hc]
        rw [this]
        rfl
      · exact k2.trans ((((k3.trans k6).trans k10).wk fun _ _ z => z.elim).trans (Fr.set rfl))
    | false =>
      rw [if_neg (by decide)]
      refine ⟨?_, k2.trans ((k3.trans k6).wk fun _ _ z => z.elim)⟩
      rw [tk, List.filter_append]
      have : [y].filter p = [] := by simp [hc]
      rw [this, List.append_nil]
      exact k8
  · rw [h1, List.length_map, List.take_length] at k1
    refine q _ S' h2.1 k1 ?_
    exact h2.trans (Fr.new Fr.app (k2.wk fun k hk z => .inl (by omega)))
section
variable {σ : Sg} {S : Sto} {P : Po} {F : YQ} {T : ExTab}
theorem wY_tryH {h i : Nat} {sm : Nat → SM} {b : SM} : wY (mTryH T h i sm b σ S) P F = wY (b σ S) P (fun n σ S => wY (hotSR T h i sm n σ S) P F) := by
  unfold mTryH
  cases b σ S <;> rfl
theorem hot_at {e l c h i j : Nat} {fs : List VV} {word : Str} {ys : List VV} {c0 : Nat} (h1 : S[e]? = some (.xd c0 fs)) (h2 : fs[j]? = some (.ref l)) (h3 : S[l]? = some (.lst ys)) (hx : exIs T c0 h = some true) (hi : i < σ.length) : hotSR T h i (mHotL c word j) e σ S = .exc (S.length + 1) ((σ.set i none).set i none) (S ++ [.lst ys, .xd c [.str word, .ref S.length]]) := by
  have e1 : clsAt S e = some c0 := by unfold clsAt; rw [h1]
  have e2 : xdAt S e = some fs := by unfold xdAt; rw [h1]
  unfold hotSR
  rw [e1]
  show (match exIs T c0 h with
    | some true => if i < σ.length then goneX i (mHotL c word j e (σ.set i none) S) else .fail
    | some false => .exc e σ S
    | none => .fail) = _
  rw [hx]
  dsimp only
  rw [if_pos hi]
  unfold mHotL
  rw [e2]
  show goneX i (match fs[j]? with
    | some x => match refL S x with
      | some ys => .exc (S.length + 1) (σ.set i none) (S ++ [.lst ys, .xd c [.str word, .ref S.length]])
      | none => .fail
    | none => .fail) = _
  rw [h2]
  dsimp only
  have e3 : refL S (.ref l) = some ys := by
    show (S[l]?).bind lstI = _
    rw [h3]
    rfl
  rw [e3]
  rfl
theorem wE_sortBI {ks : List Int} {Q : VV → Sto → Prop} (hl : ks.length ≤ 100000) : wE (gSortB (.tup (ks.map VV.int)) S) Q = Q (.ref S.length) (S ++ [.lst ((srtI ks).map VV.int)]) := by
  unfold gSortB
  dsimp only
  rw [if_pos (ints_can hl)]
  have e : (ks.map VV.int).mergeSort (PySem.W.dataLe false (datD S)) = (srtI ks).map VV.int := by
    have ed : ∀ k : Int, datD S (.int k) = .int k := fun k => by unfold datD; rw [show dat S 8 (.int k) = some (.int k) from dtA_dat 1 8 _ _ (by decide) rfl]; rfl
    refine (List.map_mergeSort fun a _ b _ => ?_).symm
    unfold leI PySem.W.dataLe PySem.W.sortLe
    dsimp only
    rw [ed, ed]
    rfl
  rw [e]
  rfl
end
end Sx
namespace Sx.K06
open PySem L2 Gr
def jn (t : Tie) (s g : Nat) : Bool := decide (t.1 = s ∧ t.2.1 = g ∨ t.1 = g ∧ t.2.1 = s)
theorem cut2t {a b c : VV} : cutM [a, b, c] none (some 2) = [a, b] := by kernel_rfl
theorem srt_eq (a b s g : Nat) : decide ((srtI [(a : Int), (b : Int)]).map some = (srtI [(s : Int), (g : Int)]).map some) = decide (a = s ∧ b = g ∨ a = g ∧ b = s) := by
  rw [srt2, srt2]
  refine decide_eq_decide.mpr ?_
  by_cases h1 : (a : Int) ≤ b <;> by_cases h2 : (s : Int) ≤ g <;> simp only [h1, h2, if_true, if_false, List.map_cons, List.map_nil, List.cons.injEq, Option.some.injEq, and_true] <;> omega
theorem joins_w {S : Sto} {t : Tie} {s g : Nat} {Q : VV → Sto → Prop} (q : ∀ S', Fr No S S' → Q (.bl (jn t s g)) S') : wE (m_joins [tieV t, .int (s : Nat), .int (g : Nat)] S) Q := by
  unfold m_joins
  rw [wE_fn (by rfl)]
  unfold tieV
  simp only [wE_ok, wE_bind, wS_seq, wS_next, wS_brk, wS_cont, wS_drop, wS_ret, wS_retN, wS_ifS, wS_asg, wS_gname, wS_gsub, wS_gnil, wS_gcons, wS_augI, wE_C, wE_nil, wE_cons, wE_tup, wE_lst, wE_op, wE_un, wE_cb, wE_isi, wE_isiT, wE_call, wE_g1, wE_g2, isB_bl, wE_tst, wE_not, wE_and, wE_or, wE_andV, wE_orV, wE_notV, wE_ifE, isI2_int, wE_int, wE_addI, wE_is, wE_mt, wE_mt0, wE_part, wE_noP, wE_sl, wE_chain, wS_for, wE_src, wE_seqI, wE_optI, wE_yes, wE_V0, wE_V1, wE_optR, wS_optS, wE_ix, ixW_lst, wE_get, gtW_lst, wGe1, wIx0, wIx1, wIx2, wIx3, wS_st, stW_lst, wSt0, wSt1, wSt2, wSt3, List.getElem?_cons_zero, List.getElem?_cons_succ, List.set_cons_zero, List.set_cons_succ, startM, List.map_cons, List.map_nil, List.length_cons, List.length_nil, List.replicate, List.cons_append, List.nil_append, List.set_set, wE_fld, wE_met, insAt_eq, insO_ins, metW_at, List.append_nil, wE_keysI, wE_itemsI, wipeM, wE_slT, cut2t]
  rw [show [VV.int (t.1 : Nat), .int (t.2.1 : Nat)] = [((t.1 : Nat) : Int), ((t.2.1 : Nat) : Int)].map VV.int from rfl, wE_sortBI (by simp)]
  rw [if_pos (by decide)]
  have hh : (S ++ [OO.lst ((srtI [((t.1 : Nat) : Int), ((t.2.1 : Nat) : Int)]).map VV.int)] ++ [OO.lst [.int (s : Nat), .int (g : Nat)]])[(S ++ [OO.lst ((srtI [((t.1 : Nat) : Int), ((t.2.1 : Nat) : Int)]).map VV.int)]).length]? = some (.lst ([((s : Nat) : Int), ((g : Nat) : Int)].map VV.int)) := get_last
  rw [wE_sortI hh (by simp)]
  have k1 : (S ++ [OO.lst ((srtI [((t.1 : Nat) : Int), ((t.2.1 : Nat) : Int)]).map VV.int)] ++ [OO.lst [.int (s : Nat), .int (g : Nat)]] ++ [OO.lst ((srtI [((s : Nat) : Int), ((g : Nat) : Int)]).map VV.int)])[S.length]? = some (.lst (((srtI [((t.1 : Nat) : Int), ((t.2.1 : Nat) : Int)]).map some).map ov)) := by
    rw [List.map_map]
    exact ((Fr.app (M := No)).trans Fr.app).at_ get_last fun z => z
  have k2 : (S ++ [OO.lst ((srtI [((t.1 : Nat) : Int), ((t.2.1 : Nat) : Int)]).map VV.int)] ++ [OO.lst [.int (s : Nat), .int (g : Nat)]] ++ [OO.lst ((srtI [((s : Nat) : Int), ((g : Nat) : Int)]).map VV.int)])[(S ++ [OO.lst ((srtI [((t.1 : Nat) : Int), ((t.2.1 : Nat) : Int)]).map VV.int)] ++ [OO.lst [.int (s : Nat), .int (g : Nat)]]).length]? = some (.lst (((srtI [((s : Nat) : Int), ((g : Nat) : Int)]).map some).map ov)) := by
    rw [List.map_map]
    exact get_last
  rw [wE_eqLo k1 k2 (by rw [List.length_map, srtI_len]; exact Nat.le_of_ble_eq_true rfl) (by rw [List.length_map, srtI_len]; exact Nat.le_of_ble_eq_true rfl), if_neg (by decide), srt_eq]
  exact q _ ((Fr.app.trans Fr.app).trans Fr.app)
/-- the ties but this one -/
def lf (ts : List Tie) (s g : Nat) : List Tie := ts.filter fun t => !jn t s g
theorem lf_mem {ts : List Tie} {s g : Nat} {t : Tie} (h : t ∈ lf ts s g) : t ∈ ts := (List.mem_filter.mp h).1
theorem lf_len {ts : List Tie} {s g : Nat} : (lf ts s g).length ≤ ts.length := List.length_filter_le _ _
theorem bnd {n : Nat} {ts : List Tie} {s g : Nat} (h : ∀ t ∈ ts, t.1 < n ∧ t.2.1 < n) : ∀ t ∈ lf ts s g, t.1 < n ∧ t.2.1 < n := fun t ht => h t (lf_mem ht)
theorem one_ {ts : List Tie} {s g : Nat} (h : ∀ t ∈ ts, 1 ≤ t.2.2) : ∀ t ∈ lf ts s g, 1 ≤ t.2.2 := fun t ht => h t (lf_mem ht)
/-- the way round a tie, or who is cut off -/
theorem round_x {S : Sto} {T0 n s g : Nat} {ts : List Tie} (hT : S[T0]? = some (.lst (ts.map tieV))) (hts : ∀ t ∈ ts, t.1 < n ∧ t.2.1 < n) (h1 : ∀ t ∈ ts, 1 ≤ t.2.2) (hs : s < n) (hg : g < n) (hne : s ≠ g) (hn : n ≤ 20) (hl : ts.length ≤ 100) :
    wX (m_round_way [.int (n : Nat), .ref T0, .int (s : Nat), .int (g : Nat)] S) (fun v S' => ∃ (d : Di) (x : Int) (ws : List Nat), Sound (edA (lf ts s g)) g d ∧ UpTo (edA (lf ts s g)) g n d ∧ Fr No S S' ∧ d s = some x ∧ Way (edA (lf ts s g)) d g s ws g ∧ ws.length ≤ n + 1 ∧ v = .tup [.int x, .tup (natL ws)])
      (fun e S' => ∃ (d d2 : Di) (l : Nat), Sound (edA (lf ts s g)) g d ∧ UpTo (edA (lf ts s g)) g n d ∧ d s = none ∧ Sound (edA (lf ts s g)) s d2 ∧ UpTo (edA (lf ts s g)) s n d2 ∧ S'[e]? = some (.xd 18 [.str "lone", .ref l]) ∧ S'[l]? = some (.lst (natL (lot n d2))) ∧ Fr No S S') := by
  unfold m_round_way
  rw [wX_fn (by rfl)]
  simp only [wY_seq, wY_drop, wX_call, wX_cons, wX_nil, wX_V, wE_V0, wE_V1, startM, List.map_cons, List.map_nil, List.length_cons, List.length_nil, List.replicate, List.cons_append, List.nil_append]
  refine wX_mono looked_x (fun _ S0 e0 => ?_) fun n' S0 e0 => absurd ⟨by omega, by omega⟩ e0.1
  obtain ⟨e0, _⟩ := e0
  subst e0
  refine wX_mono looked_x (fun _ S0 e0 => ?_) fun n' S0 e0 => absurd ⟨by omega, by omega⟩ e0.1
  obtain ⟨e0, _⟩ := e0
  subst e0
  have ne0 : ((s : Int) == (g : Int)) = false := beq_false_of_ne (by omega)
  rw [wY_ifS]
  simp only [wX_tst, wX_op, wX_V, wE_V0, wE_V1, wX_eq, wE_eqI, ne0, Bool.false_eq_true, if_false, isB_bl, wY_next]
  rw [wY_asgN]
  refine wX_of (lc_filtL (xs := ts) (V := tieV) (p := fun t => !jn t s g) (by omega) ?_ fun r S1 hr k1 f1 => ?_)
  · rw [wE_seqI, wE_V1, wE_V0, srcOf_ref hT, wE_optI]
    refine ⟨rfl, Fr.refl _, fun S' f => f.at_ hT fun z => z, fun t S' ht f _ => ?_⟩
    show wG (gmName 6 (tieV t) _ S') _
    refine ⟨Fr.refl _, ?_⟩
    simp only [wE_ok, wE_bind, wS_seq, wS_next, wS_brk, wS_cont, wS_drop, wS_ret, wS_retN, wS_ifS, wS_asg, wS_gname, wS_gsub, wS_gnil, wS_gcons, wS_augI, wE_C, wE_nil, wE_cons, wE_tup, wE_lst, wE_op, wE_un, wE_cb, wE_isi, wE_isiT, wE_call, wE_g1, wE_g2, isB_bl, wE_tst, wE_not, wE_and, wE_or, wE_andV, wE_orV, wE_notV, wE_ifE, isI2_int, wE_int, wE_addI, wE_is, wE_mt, wE_mt0, wE_part, wE_noP, wE_sl, wE_chain, wS_for, wE_src, wE_seqI, wE_optI, wE_yes, wE_V0, wE_V1, wE_optR, wS_optS, wE_ix, ixW_lst, wE_get, gtW_lst, wGe1, wIx0, wIx1, wIx2, wIx3, wS_st, stW_lst, wSt0, wSt1, wSt2, wSt3, List.getElem?_cons_zero, List.getElem?_cons_succ, List.set_cons_zero, List.set_cons_succ, startM, List.map_cons, List.map_nil, List.length_cons, List.length_nil, List.replicate, List.cons_append, List.nil_append, List.set_set, wE_fld, wE_met, insAt_eq, insO_ins, metW_at, List.append_nil, wE_keysI, wE_itemsI, wipeM]
    refine joins_w fun S3 f3 => ⟨by first | rfl | trivial, f3, ?_⟩
    try simp only [wE_ok, wE_bind, wS_seq, wS_next, wS_brk, wS_cont, wS_drop, wS_ret, wS_retN, wS_ifS, wS_asg, wS_gname, wS_gsub, wS_gnil, wS_gcons, wS_augI, wE_C, wE_nil, wE_cons, wE_tup, wE_lst, wE_op, wE_un, wE_cb, wE_isi, wE_isiT, wE_call, wE_g1, wE_g2, isB_bl, wE_tst, wE_not, wE_and, wE_or, wE_andV, wE_orV, wE_notV, wE_ifE, isI2_int, wE_int, wE_addI, wE_is, wE_mt, wE_mt0, wE_part, wE_noP, wE_sl, wE_chain, wS_for, wE_src, wE_seqI, wE_optI, wE_yes, wE_V0, wE_V1, wE_optR, wS_optS, wE_ix, ixW_lst, wE_get, gtW_lst, wGe1, wIx0, wIx1, wIx2, wIx3, wS_st, stW_lst, wSt0, wSt1, wSt2, wSt3, List.getElem?_cons_zero, List.getElem?_cons_succ, List.set_cons_zero, List.set_cons_succ, startM, List.map_cons, List.map_nil, List.length_cons, List.length_nil, List.replicate, List.cons_append, List.nil_append, List.set_set, wE_fld, wE_met, insAt_eq, insO_ins, metW_at, List.append_nil, wE_keysI, wE_itemsI, wipeM]
    exact ⟨by first | rfl | trivial, Fr.refl _⟩
  · have k1' : S1[r]? = some (.lst ((lf ts s g).map tieV)) := k1
    dsimp only
    rw [wY_tryH, wY_ret, wX_call]
    simp only [wX_cons, wX_nil, wX_V, wE_V0, wE_V1, List.set_cons_zero, List.set_cons_succ]
    refine wX_mono (least_way_x k1' (bnd hts) (one_ h1) hs hg hn (Nat.le_trans lf_len hl)) (fun v S' ⟨d, x, ws, q1, q2, q3, q4, q5, q6, q7⟩ => ?_) fun e S' ⟨d, d2, l, q1, q2, q3, q4, q5, q6, q7, q8, q9⟩ => ?_
    · exact ⟨d, x, ws, q1, q2, f1.trans q3, q4, q5, q6, q7⟩
    · rw [hot_at q6 rfl q7 (by decide) (Nat.le_of_ble_eq_true rfl)]
      refine ⟨d, d2, S'.length, q1, q2, q3, q4, q5, ?_, ?_, (f1.trans q9).trans Fr.app⟩
      · rw [List.getElem?_append_right (by omega), Nat.add_sub_cancel_left]
        rfl
      · rw [List.getElem?_append_right (Nat.le_refl _), Nat.sub_self]
        rfl
theorem round_bad {S : Sto} {n : Nat} {tv : VV} {s g o : Int} (h : (¬ (0 ≤ s ∧ s < (n : Nat)) ∧ o = s) ∨ ((0 ≤ s ∧ s < (n : Nat)) ∧ ¬ (0 ≤ g ∧ g < (n : Nat)) ∧ o = g)) :
    wX (m_round_way [.int (n : Nat), tv, .int s, .int g] S) (fun _ _ => False) (fun e S' => S'[e]? = some (.xd 12 [.str "nohouse", .int o]) ∧ Fr No S S') := by
  unfold m_round_way
  rw [wX_fn (by rfl)]
  simp only [wY_seq, wY_drop, wX_call, wX_cons, wX_nil, wX_V, wE_V0, wE_V1, startM, List.map_cons, List.map_nil, List.length_cons, List.length_nil, List.replicate, List.cons_append, List.nil_append]
  rcases h with ⟨h, rfl⟩ | ⟨h, h2, rfl⟩
  · refine wX_mono looked_x (fun _ S0 e0 => absurd e0.2 h) fun n' S0 ⟨_, e1, e2⟩ => ?_
    subst e1 e2
    exact ⟨get_last, Fr.app⟩
  · refine wX_mono looked_x (fun _ S0 e0 => ?_) fun n' S0 e0 => absurd h e0.1
    obtain ⟨e0, _⟩ := e0
    subst e0
    refine wX_mono looked_x (fun _ S0 e0 => absurd e0.2 h2) fun n' S0 ⟨_, e1, e2⟩ => ?_
    subst e1 e2
    exact ⟨get_last, Fr.app⟩
theorem round_self {S : Sto} {n s : Nat} {tv : VV} (hs : s < n) :
    wX (m_round_way [.int (n : Nat), tv, .int (s : Nat), .int (s : Nat)] S) (fun _ _ => False) (fun e S' => S'[e]? = some (.xd 13 [.str "notie", .int (s : Nat), .int (s : Nat)]) ∧ Fr No S S') := by
  unfold m_round_way
  rw [wX_fn (by rfl)]
  simp only [wY_seq, wY_drop, wX_call, wX_cons, wX_nil, wX_V, wE_V0, wE_V1, startM, List.map_cons, List.map_nil, List.length_cons, List.length_nil, List.replicate, List.cons_append, List.nil_append]
  refine wX_mono looked_x (fun _ S0 e0 => ?_) fun n' S0 e0 => absurd ⟨by omega, by omega⟩ e0.1
  obtain ⟨e0, _⟩ := e0
  subst e0
  refine wX_mono looked_x (fun _ S0 e0 => ?_) fun n' S0 e0 => absurd ⟨by omega, by omega⟩ e0.1
  obtain ⟨e0, _⟩ := e0
  subst e0
  have ne0 : ((s : Int) == (s : Int)) = true := beq_self_eq_true _
  rw [wY_ifS]
  simp only [wX_tst, wX_op, wX_V, wE_V0, wE_V1, wX_eq, wE_eqI, ne0, Bool.false_eq_true, if_false, if_true, isB_bl, wY_raise, wX_cons, wX_nil]
  exact ⟨get_last, Fr.app⟩
/-! ### tried -/
theorem tried_w {S : Sto} {T0 n s g : Nat} {ts : List Tie} (hT : S[T0]? = some (.lst (ts.map tieV))) (hts : ∀ t ∈ ts, t.1 < n ∧ t.2.1 < n) (h1 : ∀ t ∈ ts, 1 ≤ t.2.2) (hs : s < n) (hg : g < n) (hne : s ≠ g) (hn : n ≤ 20) (hl : ts.length ≤ 100) :
    wE (m__law_tried [.int (n : Nat), .ref T0, .int (s : Nat), .int (g : Nat)] S) fun v S' => ∃ d : Di, Sound (edA (lf ts s g)) g d ∧ UpTo (edA (lf ts s g)) g n d ∧ Fr No S S' ∧
      ((d s = none ∧ ∃ l d2, v = .tup [.str "lone", .ref l] ∧ S'[l]? = some (.lst (natL (lot n d2))) ∧ Sound (edA (lf ts s g)) s d2 ∧ UpTo (edA (lf ts s g)) s n d2) ∨ ∃ x ws, d s = some x ∧ Way (edA (lf ts s g)) d g s ws g ∧ ws.length ≤ n + 1 ∧ v = .tup [.int x, .tup (natL ws)]) := by
  unfold m__law_tried
  rw [wE_fn (by rfl)]
  simp only [wX_ok, wX_exc, wX_bind, wY_seq, wY_next, wY_brk, wY_cont, wY_drop, wY_ret, wY_retN, wY_ifS, wY_asgN, wY_raise, wX_V, wX_C, wX_nil, wX_cons, wX_tup, wX_lst, wX_op, wX_un, wX_cb, wX_call, wX_g1, wX_g2, wX_tst, wX_not, wX_and, wX_or, wX_ifE, wX_chain, wX_int, wX_intC, wX_add, wX_mul, wX_eq, wX_is, wX_ix, wX_len, wX_list, wX_tuple, wX_neg, wY_try, wS_try, wE_ok, wE_bind, wS_seq, wS_next, wS_brk, wS_cont, wS_drop, wS_ret, wS_retN, wS_ifS, wS_asg, wS_gname, wS_gsub, wS_gnil, wS_gcons, wS_augI, wE_C, wE_nil, wE_cons, wE_tup, wE_lst, wE_op, wE_un, wE_cb, wE_isi, wE_isiT, wE_call, wE_g1, wE_g2, isB_bl, wE_tst, wE_not, wE_and, wE_or, wE_andV, wE_orV, wE_notV, wE_ifE, isI2_int, wE_int, wE_addI, wE_is, wE_mt, wE_mt0, wE_part, wE_noP, wE_sl, wE_chain, wS_for, wE_src, wE_seqI, wE_optI, wE_lc, wE_yes, wE_V0, wE_V1, wE_optR, wS_optS, wE_ix, ixW_lst, wE_get, gtW_lst, wGe1, wIx0, wIx1, wIx2, wIx3, wS_st, stW_lst, wSt0, wSt1, wSt2, wSt3, List.getElem?_cons_zero, List.getElem?_cons_succ, List.set_cons_zero, List.set_cons_succ, startM, List.map_cons, List.map_nil, List.length_cons, List.length_nil, List.replicate, List.cons_append, List.nil_append, List.set_set]
  refine wX_mono (round_x hT hts h1 hs hg hne hn hl) (fun v S' ⟨d, x, ws, q1, q2, q3, q4, q5, q6, q7⟩ => ?_) fun e S' ⟨d, d2, l, q1, q2, q3, q4, q5, q6, q7, q8⟩ => ?_
  · try simp only [wX_ok, wX_exc, wX_bind, wY_seq, wY_next, wY_brk, wY_cont, wY_drop, wY_ret, wY_retN, wY_ifS, wY_asgN, wY_raise, wX_V, wX_C, wX_nil, wX_cons, wX_tup, wX_lst, wX_op, wX_un, wX_cb, wX_call, wX_g1, wX_g2, wX_tst, wX_not, wX_and, wX_or, wX_ifE, wX_chain, wX_int, wX_intC, wX_add, wX_mul, wX_eq, wX_is, wX_ix, wX_len, wX_list, wX_tuple, wX_neg, wY_try, wS_try, wE_ok, wE_bind, wS_seq, wS_next, wS_brk, wS_cont, wS_drop, wS_ret, wS_retN, wS_ifS, wS_asg, wS_gname, wS_gsub, wS_gnil, wS_gcons, wS_augI, wE_C, wE_nil, wE_cons, wE_tup, wE_lst, wE_op, wE_un, wE_cb, wE_isi, wE_isiT, wE_call, wE_g1, wE_g2, isB_bl, wE_tst, wE_not, wE_and, wE_or, wE_andV, wE_orV, wE_notV, wE_ifE, isI2_int, wE_int, wE_addI, wE_is, wE_mt, wE_mt0, wE_part, wE_noP, wE_sl, wE_chain, wS_for, wE_src, wE_seqI, wE_optI, wE_lc, wE_yes, wE_V0, wE_V1, wE_optR, wS_optS, wE_ix, ixW_lst, wE_get, gtW_lst, wGe1, wIx0, wIx1, wIx2, wIx3, wS_st, stW_lst, wSt0, wSt1, wSt2, wSt3, List.getElem?_cons_zero, List.getElem?_cons_succ, List.set_cons_zero, List.set_cons_succ, startM, List.map_cons, List.map_nil, List.length_cons, List.length_nil, List.replicate, List.cons_append, List.nil_append, List.set_set]
    exact ⟨d, q1, q2, q3, .inr ⟨x, ws, q4, q5, q6, q7⟩⟩
  · rw [mHs_no q6 (by decide), mHs_no q6 (by decide), mHs_yes q6 (by decide) (by rfl), mXRetT_at (xs := [.str "lone", .ref l]) q6 (by rfl)]
    exact ⟨d, q1, q2, q8, .inl ⟨q3, l, d2, rfl, q7, q4, q5⟩⟩
theorem tried_bad {S : Sto} {n : Nat} {tv : VV} {s g o : Int} (h : (¬ (0 ≤ s ∧ s < (n : Nat)) ∧ o = s) ∨ ((0 ≤ s ∧ s < (n : Nat)) ∧ ¬ (0 ≤ g ∧ g < (n : Nat)) ∧ o = g)) :
    wE (m__law_tried [.int (n : Nat), tv, .int s, .int g] S) fun v S' => v = .tup [.str "nohouse", .int o] ∧ Fr No S S' := by
  unfold m__law_tried
  rw [wE_fn (by rfl)]
  simp only [wX_ok, wX_exc, wX_bind, wY_seq, wY_next, wY_brk, wY_cont, wY_drop, wY_ret, wY_retN, wY_ifS, wY_asgN, wY_raise, wX_V, wX_C, wX_nil, wX_cons, wX_tup, wX_lst, wX_op, wX_un, wX_cb, wX_call, wX_g1, wX_g2, wX_tst, wX_not, wX_and, wX_or, wX_ifE, wX_chain, wX_int, wX_intC, wX_add, wX_mul, wX_eq, wX_is, wX_ix, wX_len, wX_list, wX_tuple, wX_neg, wY_try, wS_try, wE_ok, wE_bind, wS_seq, wS_next, wS_brk, wS_cont, wS_drop, wS_ret, wS_retN, wS_ifS, wS_asg, wS_gname, wS_gsub, wS_gnil, wS_gcons, wS_augI, wE_C, wE_nil, wE_cons, wE_tup, wE_lst, wE_op, wE_un, wE_cb, wE_isi, wE_isiT, wE_call, wE_g1, wE_g2, isB_bl, wE_tst, wE_not, wE_and, wE_or, wE_andV, wE_orV, wE_notV, wE_ifE, isI2_int, wE_int, wE_addI, wE_is, wE_mt, wE_mt0, wE_part, wE_noP, wE_sl, wE_chain, wS_for, wE_src, wE_seqI, wE_optI, wE_lc, wE_yes, wE_V0, wE_V1, wE_optR, wS_optS, wE_ix, ixW_lst, wE_get, gtW_lst, wGe1, wIx0, wIx1, wIx2, wIx3, wS_st, stW_lst, wSt0, wSt1, wSt2, wSt3, List.getElem?_cons_zero, List.getElem?_cons_succ, List.set_cons_zero, List.set_cons_succ, startM, List.map_cons, List.map_nil, List.length_cons, List.length_nil, List.replicate, List.cons_append, List.nil_append, List.set_set]
  refine wX_mono (round_bad h) (fun v S' z => z.elim) fun e S' ⟨q6, f⟩ => ?_
  rw [mHs_yes q6 (by decide) (by rfl), mXRetT_at (xs := [.str "nohouse", .int o]) q6 (by rfl)]
  exact ⟨rfl, f⟩
theorem tried_self {S : Sto} {n s : Nat} {tv : VV} (hs : s < n) :
    wE (m__law_tried [.int (n : Nat), tv, .int (s : Nat), .int (s : Nat)] S) fun v S' => v = .tup [.str "notie", .int (s : Nat), .int (s : Nat)] ∧ Fr No S S' := by
  unfold m__law_tried
  rw [wE_fn (by rfl)]
  simp only [wX_ok, wX_exc, wX_bind, wY_seq, wY_next, wY_brk, wY_cont, wY_drop, wY_ret, wY_retN, wY_ifS, wY_asgN, wY_raise, wX_V, wX_C, wX_nil, wX_cons, wX_tup, wX_lst, wX_op, wX_un, wX_cb, wX_call, wX_g1, wX_g2, wX_tst, wX_not, wX_and, wX_or, wX_ifE, wX_chain, wX_int, wX_intC, wX_add, wX_mul, wX_eq, wX_is, wX_ix, wX_len, wX_list, wX_tuple, wX_neg, wY_try, wS_try, wE_ok, wE_bind, wS_seq, wS_next, wS_brk, wS_cont, wS_drop, wS_ret, wS_retN, wS_ifS, wS_asg, wS_gname, wS_gsub, wS_gnil, wS_gcons, wS_augI, wE_C, wE_nil, wE_cons, wE_tup, wE_lst, wE_op, wE_un, wE_cb, wE_isi, wE_isiT, wE_call, wE_g1, wE_g2, isB_bl, wE_tst, wE_not, wE_and, wE_or, wE_andV, wE_orV, wE_notV, wE_ifE, isI2_int, wE_int, wE_addI, wE_is, wE_mt, wE_mt0, wE_part, wE_noP, wE_sl, wE_chain, wS_for, wE_src, wE_seqI, wE_optI, wE_lc, wE_yes, wE_V0, wE_V1, wE_optR, wS_optS, wE_ix, ixW_lst, wE_get, gtW_lst, wGe1, wIx0, wIx1, wIx2, wIx3, wS_st, stW_lst, wSt0, wSt1, wSt2, wSt3, List.getElem?_cons_zero, List.getElem?_cons_succ, List.set_cons_zero, List.set_cons_succ, startM, List.map_cons, List.map_nil, List.length_cons, List.length_nil, List.replicate, List.cons_append, List.nil_append, List.set_set]
  refine wX_mono (round_self hs) (fun v S' z => z.elim) fun e S' ⟨q6, f⟩ => ?_
  rw [mHs_no q6 (by decide), mHs_yes q6 (by decide) (by rfl), mXRetT_at (xs := [.str "notie", .int (s : Nat), .int (s : Nat)]) q6 (by rfl)]
  exact ⟨rfl, f⟩
end Sx.K06
end
/-! K06p: the law of ways round ties, on the mirror. -/
noncomputable section
namespace Sx.K06
open PySem L2 Gr
theorem okL : okD (.str "lone") = true := by decide +kernel
theorem okH : okD (.str "nohouse") = true := by decide +kernel
theorem okT : okD (.str "notie") = true := by decide +kernel
def lotD (n : Nat) (d : Di) : PyData := .tuple [.str "lone", .list (natD (lot n d))]
theorem lot_len {n : Nat} {d : Di} : (lot n d).length ≤ n := by
  unfold lot
  exact Nat.le_trans (List.length_filter_le _ _) (by simp)
theorem lotD_ok {n : Nat} {d : Di} (h : n ≤ 1000) : okD (lotD n d) = true := by
  have h2 : okD (.list (natD (lot n d))) = true := by
    unfold okD
    rw [natD_ok]
    have : (natD (lot n d)).length ≤ 1000 := by
      unfold natD
      rw [List.length_map]
      exact Nat.le_trans lot_len h
    simp [this]
  unfold lotD okD okDs okDs okDs
  rw [h2, okL]
  rfl
theorem lot_dt {S : Sto} {n l : Nat} {d : Di} (h : S[l]? = some (.lst (natL (lot n d)))) : dtA S 5 (.tup [.str "lone", .ref l]) = some (lotD n d) := by
  unfold dtA
  rw [List.mapM_cons, List.mapM_cons, natR_dt h, List.mapM_nil]
  rfl
def selfD (s : Nat) : PyData := .tuple [.str "notie", .int (s : Nat), .int (s : Nat)]
theorem self_dt {S : Sto} {s : Nat} : dtA S 5 (.tup [.str "notie", .int (s : Nat), .int (s : Nat)]) = some (selfD s) := rfl
theorem self_ok {s : Nat} : okD (selfD s) = true := by
  unfold selfD okD okDs okDs okDs okDs
  rw [okT]
  rfl
/-- in a pair of pairs -/
theorem eqv_pair (a b c d : Int) : PyData.eqv (.tuple [.int a, .int b]) (.tuple [.int c, .int d]) = (decide (a = c) && decide (b = d)) := by
  simp only [PyData.eqv, PyData.eqvAll]
  rw [Bool.eq_iff_iff]
  simp
theorem in_w {S : Sto} {t : Tie} {s g : Nat} {Q : VV → Sto → Prop} : wE (gIn true (.tup [.int (t.1 : Nat), .int (t.2.1 : Nat)]) (.tup [.tup [.int (s : Nat), .int (g : Nat)], .tup [.int (g : Nat), .int (s : Nat)]]) S) Q = Q (.bl (!jn t s g)) S := by
  have a1 : dtA S 3 (.tup [.int (t.1 : Nat), .int (t.2.1 : Nat)]) = some (.tuple [.int (t.1 : Nat), .int (t.2.1 : Nat)]) := rfl
  have a2 : dtA S 3 (.tup [.tup [.int (s : Nat), .int (g : Nat)], .tup [.int (g : Nat), .int (s : Nat)]]) = some (.tuple [.tuple [.int (s : Nat), .int (g : Nat)], .tuple [.int (g : Nat), .int (s : Nat)]]) := rfl
  have d1 := dtA_dat 3 8 _ _ (by decide) a1
  have d2 := dtA_dat 3 8 _ _ (by decide) a2
  have s1 := dtA_shaped a1 (by decide) (by simp [okD, okDs])
  have s2 := dtA_shaped a2 (by decide) (by simp [okD, okDs])
  have e : inB S (.tup [.int (t.1 : Nat), .int (t.2.1 : Nat)]) (.tup [.tup [.int (s : Nat), .int (g : Nat)], .tup [.int (g : Nat), .int (s : Nat)]]) = some (jn t s g) := by
    unfold inB
    dsimp only
    rw [d1, d2]
    show (if SeqAt.shaped (.tuple [.int (t.1 : Nat), .int (t.2.1 : Nat)]) = true ∧ SeqAt.shaped (.tuple [.tuple [.int (s : Nat), .int (g : Nat)], .tuple [.int (g : Nat), .int (s : Nat)]]) = true then some (([.tuple [.int (s : Nat), .int (g : Nat)], .tuple [.int (g : Nat), .int (s : Nat)]] : List PyData).any fun z => PyData.eqv z (.tuple [.int (t.1 : Nat), .int (t.2.1 : Nat)])) else none) = _
    rw [if_pos ⟨s1, s2⟩, List.any_cons, List.any_cons, List.any_nil, eqv_pair, eqv_pair]
    congr 1
    unfold jn
    rw [Bool.eq_iff_iff]
    simp only [Bool.or_eq_true, Bool.and_eq_true, decide_eq_true_eq, Bool.or_false]
    omega
  unfold gIn
  rw [e]
  rfl
theorem main (x : VV) (S0 : Sto) (hbox : wE (Cm.m__law_box [x] S0) fun v S' => ∃ b c, v = .ref b ∧ Box S' b c) : wE (m_law [x] S0) fun v _ => v = .bl true := by
  unfold m_law
  rw [wE_fn (by rfl), wS_seq]
  simp only [wE_ok, wE_bind, wS_seq, wS_next, wS_brk, wS_cont, wS_drop, wS_ret, wS_retN, wS_ifS, wS_asg, wS_gname, wS_gsub, wS_gnil, wS_gcons, wS_augI, wE_C, wE_nil, wE_cons, wE_tup, wE_lst, wE_op, wE_un, wE_cb, wE_isi, wE_isiT, wE_call, wE_g1, wE_g2, isB_bl, wE_tst, wE_not, wE_and, wE_or, wE_andV, wE_orV, wE_notV, wE_ifE, isI2_int, wE_int, wE_addI, wE_is, wE_mt, wE_mt0, wE_part, wE_noP, wE_sl, wE_chain, wS_for, wE_src, wE_seqI, wE_optI, wE_yes, wE_V0, wE_V1, wE_optR, wS_optS, wE_ix, ixW_lst, wE_get, gtW_lst, wGe1, wIx0, wIx1, wIx2, wIx3, wS_st, stW_lst, wSt0, wSt1, wSt2, wSt3, List.getElem?_cons_zero, List.getElem?_cons_succ, List.set_cons_zero, List.set_cons_succ, startM, List.map_cons, List.map_nil, List.length_cons, List.length_nil, List.replicate, List.cons_append, List.nil_append, List.set_set, wE_fld, wE_met, insAt_eq, insO_ins, metW_at, List.append_nil, wE_keysI, wE_itemsI, wipeM]
  refine wE_mono hbox fun v S1 ⟨b, c, hv, b1⟩ => ?_
  subst hv
  try simp only [wE_ok, wE_bind, wS_seq, wS_next, wS_brk, wS_cont, wS_drop, wS_ret, wS_retN, wS_ifS, wS_asg, wS_gname, wS_gsub, wS_gnil, wS_gcons, wS_augI, wE_C, wE_nil, wE_cons, wE_tup, wE_lst, wE_op, wE_un, wE_cb, wE_isi, wE_isiT, wE_call, wE_g1, wE_g2, isB_bl, wE_tst, wE_not, wE_and, wE_or, wE_andV, wE_orV, wE_notV, wE_ifE, isI2_int, wE_int, wE_addI, wE_is, wE_mt, wE_mt0, wE_part, wE_noP, wE_sl, wE_chain, wS_for, wE_src, wE_seqI, wE_optI, wE_yes, wE_V0, wE_V1, wE_optR, wS_optS, wE_ix, ixW_lst, wE_get, gtW_lst, wGe1, wIx0, wIx1, wIx2, wIx3, wS_st, stW_lst, wSt0, wSt1, wSt2, wSt3, List.getElem?_cons_zero, List.getElem?_cons_succ, List.set_cons_zero, List.set_cons_succ, startM, List.map_cons, List.map_nil, List.length_cons, List.length_nil, List.replicate, List.cons_append, List.nil_append, List.set_set, wE_fld, wE_met, insAt_eq, insO_ins, metW_at, List.append_nil, wE_keysI, wE_itemsI, wipeM]
  refine wE_mono (take_w b1 (by decide) (by decide)) fun v S2 ⟨t, hv, t0, t1, b2, f2⟩ => ?_
  subst hv
  obtain ⟨n, hn⟩ : ∃ n : Nat, 2 + t = (n : Int) := ⟨(2 + t).toNat, by omega⟩
  have hn2 : 2 ≤ n := by omega
  have hn8 : n ≤ 8 := by omega
  rw [wE_addI, hn]
  try simp only [wE_ok, wE_bind, wS_seq, wS_next, wS_brk, wS_cont, wS_drop, wS_ret, wS_retN, wS_ifS, wS_asg, wS_gname, wS_gsub, wS_gnil, wS_gcons, wS_augI, wE_C, wE_nil, wE_cons, wE_tup, wE_lst, wE_op, wE_un, wE_cb, wE_isi, wE_isiT, wE_call, wE_g1, wE_g2, isB_bl, wE_tst, wE_not, wE_and, wE_or, wE_andV, wE_orV, wE_notV, wE_ifE, isI2_int, wE_int, wE_addI, wE_is, wE_mt, wE_mt0, wE_part, wE_noP, wE_sl, wE_chain, wS_for, wE_src, wE_seqI, wE_optI, wE_yes, wE_V0, wE_V1, wE_optR, wS_optS, wE_ix, ixW_lst, wE_get, gtW_lst, wGe1, wIx0, wIx1, wIx2, wIx3, wS_st, stW_lst, wSt0, wSt1, wSt2, wSt3, List.getElem?_cons_zero, List.getElem?_cons_succ, List.set_cons_zero, List.set_cons_succ, startM, List.map_cons, List.map_nil, List.length_cons, List.length_nil, List.replicate, List.cons_append, List.nil_append, List.set_set, wE_fld, wE_met, insAt_eq, insO_ins, metW_at, List.append_nil, wE_keysI, wE_itemsI, wipeM]
  refine wE_mono (take_w b2 (by decide) (by decide)) fun v S3 ⟨t2, hv, _, _, b3, f3⟩ => ?_
  subst hv
  rw [wE_addI]
  refine wE_mono (some_ties_w b3 (by omega) (by omega)) fun v S4 ⟨T1, ts0, hv, h4, hsub, hpr, hlen, b4, hk4, f4⟩ => ?_
  subst hv
  have hTb : T1 ≠ b := by have := b3.lt; omega
  refine wE_mono (shuffled_w b4 h4 hTb (by rw [List.length_map]; omega)) fun v S5 ⟨T0, ys, hv, h5, hperm, b5, hk5, f5⟩ => ?_
  subst hv
  obtain ⟨ts, rfl, hp⟩ := map_perm hperm ts0 rfl
  have hlen' : ts.length ≤ 14 := by rw [hp.length_eq]; exact hlen
  have hgood : ∀ t ∈ ts, t.1 < n ∧ t.2.1 < n := fun t ht => by
    have hm : tieP t ∈ pairsN n := hsub.subset (List.mem_map.mpr ⟨t, hp.mem_iff.mp ht, rfl⟩)
    have := pairsN_mem hm
    unfold tieP at this
    dsimp only at this
    omega
  have hone : ∀ t ∈ ts, 1 ≤ t.2.2 := fun t ht => (hpr t (hp.mem_iff.mp ht)).1
  try simp only [wE_ok, wE_bind, wS_seq, wS_next, wS_brk, wS_cont, wS_drop, wS_ret, wS_retN, wS_ifS, wS_asg, wS_gname, wS_gsub, wS_gnil, wS_gcons, wS_augI, wE_C, wE_nil, wE_cons, wE_tup, wE_lst, wE_op, wE_un, wE_cb, wE_isi, wE_isiT, wE_call, wE_g1, wE_g2, isB_bl, wE_tst, wE_not, wE_and, wE_or, wE_andV, wE_orV, wE_notV, wE_ifE, isI2_int, wE_int, wE_addI, wE_is, wE_mt, wE_mt0, wE_part, wE_noP, wE_sl, wE_chain, wS_for, wE_src, wE_seqI, wE_optI, wE_yes, wE_V0, wE_V1, wE_optR, wS_optS, wE_ix, ixW_lst, wE_get, gtW_lst, wGe1, wIx0, wIx1, wIx2, wIx3, wS_st, stW_lst, wSt0, wSt1, wSt2, wSt3, List.getElem?_cons_zero, List.getElem?_cons_succ, List.set_cons_zero, List.set_cons_succ, startM, List.map_cons, List.map_nil, List.length_cons, List.length_nil, List.replicate, List.cons_append, List.nil_append, List.set_set, wE_fld, wE_met, insAt_eq, insO_ins, metW_at, List.append_nil, wE_keysI, wE_itemsI, wipeM]
  rw [wE_list h5]
  have b6 := b5.app (T := [OO.lst (ts.map tieV)])
  have hT := (Fr.app (M := No) (T := [OO.lst (ts.map tieV)])).at_ h5 fun z => z
  have hH : (S5 ++ [OO.lst (ts.map tieV)])[S5.length]? = some (.lst (ts.map tieV)) := get_last
  generalize hT1 : S5.length = T2 at hH ⊢
  generalize S5 ++ [OO.lst (ts.map tieV)] = S6 at b6 hT hH ⊢
  rw [rng1_nat (by omega), wE_optI]
  refine forL_inv (fun i σ S' => ∃ o5 o6 o7 o8 o9 o10 o11 : Option VV, σ = [some x, some (.ref b), some (.int (n : Nat)), some (.ref T0), some (.ref T2), o5, o6, o7, o8, o9, o10, o11] ∧ Fr No S6 S') ⟨_, _, _, _, _, _, _, rfl, Fr.refl _⟩ (fun _ _ _ _ => trivial) ?_ ?_
  · rintro i z σ S7 hx ⟨o5, o6, o7, o8, o9, o10, o11, rfl, f7⟩
    rw [List.getElem?_map] at hx
    obtain ⟨s, hs, rfl⟩ := Option.map_eq_some_iff.mp hx
    obtain ⟨hs, rfl⟩ := range_at hs
    try simp only [wE_ok, wE_bind, wS_seq, wS_next, wS_brk, wS_cont, wS_drop, wS_ret, wS_retN, wS_ifS, wS_asg, wS_gname, wS_gsub, wS_gnil, wS_gcons, wS_augI, wE_C, wE_nil, wE_cons, wE_tup, wE_lst, wE_op, wE_un, wE_cb, wE_isi, wE_isiT, wE_call, wE_g1, wE_g2, isB_bl, wE_tst, wE_not, wE_and, wE_or, wE_andV, wE_orV, wE_notV, wE_ifE, isI2_int, wE_int, wE_addI, wE_is, wE_mt, wE_mt0, wE_part, wE_noP, wE_sl, wE_chain, wS_for, wE_src, wE_seqI, wE_optI, wE_yes, wE_V0, wE_V1, wE_optR, wS_optS, wE_ix, ixW_lst, wE_get, gtW_lst, wGe1, wIx0, wIx1, wIx2, wIx3, wS_st, stW_lst, wSt0, wSt1, wSt2, wSt3, List.getElem?_cons_zero, List.getElem?_cons_succ, List.set_cons_zero, List.set_cons_succ, startM, List.map_cons, List.map_nil, List.length_cons, List.length_nil, List.replicate, List.cons_append, List.nil_append, List.set_set, wE_fld, wE_met, insAt_eq, insO_ins, metW_at, List.append_nil, wE_keysI, wE_itemsI, wipeM]
    rw [rng1_nat (by omega), wE_optI]
    refine forL_inv (fun i σ S' => ∃ o6 o7 o8 o9 o10 o11 : Option VV, σ = [some x, some (.ref b), some (.int (n : Nat)), some (.ref T0), some (.ref T2), some (.int (s : Nat)), o6, o7, o8, o9, o10, o11] ∧ Fr No S6 S') ⟨_, _, _, _, _, _, rfl, f7⟩ (fun _ _ _ _ => trivial) ?_ ?_
    · rintro j z σ S8 hx ⟨o6, o7, o8, o9, o10, o11, rfl, f8⟩
      rw [List.getElem?_map] at hx
      obtain ⟨g, hg, rfl⟩ := Option.map_eq_some_iff.mp hx
      obtain ⟨hg, rfl⟩ := range_at hg
      have hT8 := f8.at_ hT fun z => z
      have hH8 := f8.at_ hH fun z => z
      try simp only [wE_ok, wE_bind, wS_seq, wS_next, wS_brk, wS_cont, wS_drop, wS_ret, wS_retN, wS_ifS, wS_asg, wS_gname, wS_gsub, wS_gnil, wS_gcons, wS_augI, wE_C, wE_nil, wE_cons, wE_tup, wE_lst, wE_op, wE_un, wE_cb, wE_isi, wE_isiT, wE_call, wE_g1, wE_g2, isB_bl, wE_tst, wE_not, wE_and, wE_or, wE_andV, wE_orV, wE_notV, wE_ifE, isI2_int, wE_int, wE_addI, wE_is, wE_mt, wE_mt0, wE_part, wE_noP, wE_sl, wE_chain, wS_for, wE_src, wE_seqI, wE_optI, wE_yes, wE_V0, wE_V1, wE_optR, wS_optS, wE_ix, ixW_lst, wE_get, gtW_lst, wGe1, wIx0, wIx1, wIx2, wIx3, wS_st, stW_lst, wSt0, wSt1, wSt2, wSt3, List.getElem?_cons_zero, List.getElem?_cons_succ, List.set_cons_zero, List.set_cons_succ, startM, List.map_cons, List.map_nil, List.length_cons, List.length_nil, List.replicate, List.cons_append, List.nil_append, List.set_set, wE_fld, wE_met, insAt_eq, insO_ins, metW_at, List.append_nil, wE_keysI, wE_itemsI, wipeM]
      refine lc_filtL (xs := ts) (V := tieV) (p := fun t => !jn t s g) (by omega) ?_ fun r S9 hr k9 f9 => ?_
      · try simp only [wE_ok, wE_bind, wS_seq, wS_next, wS_brk, wS_cont, wS_drop, wS_ret, wS_retN, wS_ifS, wS_asg, wS_gname, wS_gsub, wS_gnil, wS_gcons, wS_augI, wE_C, wE_nil, wE_cons, wE_tup, wE_lst, wE_op, wE_un, wE_cb, wE_isi, wE_isiT, wE_call, wE_g1, wE_g2, isB_bl, wE_tst, wE_not, wE_and, wE_or, wE_andV, wE_orV, wE_notV, wE_ifE, isI2_int, wE_int, wE_addI, wE_is, wE_mt, wE_mt0, wE_part, wE_noP, wE_sl, wE_chain, wS_for, wE_src, wE_seqI, wE_optI, wE_yes, wE_V0, wE_V1, wE_optR, wS_optS, wE_ix, ixW_lst, wE_get, gtW_lst, wGe1, wIx0, wIx1, wIx2, wIx3, wS_st, stW_lst, wSt0, wSt1, wSt2, wSt3, List.getElem?_cons_zero, List.getElem?_cons_succ, List.set_cons_zero, List.set_cons_succ, startM, List.map_cons, List.map_nil, List.length_cons, List.length_nil, List.replicate, List.cons_append, List.nil_append, List.set_set, wE_fld, wE_met, insAt_eq, insO_ins, metW_at, List.append_nil, wE_keysI, wE_itemsI, wipeM]
        rw [srcOf_ref hT8, wE_optI]
        refine ⟨rfl, Fr.refl _, fun S' f => f.at_ hT8 fun z => z, fun t S' ht f _ => ?_⟩
        show wG (gmName 11 (tieV t) _ S') _
        refine ⟨Fr.refl _, ?_⟩
        unfold tieV
        simp only [wE_ok, wE_bind, wS_seq, wS_next, wS_brk, wS_cont, wS_drop, wS_ret, wS_retN, wS_ifS, wS_asg, wS_gname, wS_gsub, wS_gnil, wS_gcons, wS_augI, wE_C, wE_nil, wE_cons, wE_tup, wE_lst, wE_op, wE_un, wE_cb, wE_isi, wE_isiT, wE_call, wE_g1, wE_g2, isB_bl, wE_tst, wE_not, wE_and, wE_or, wE_andV, wE_orV, wE_notV, wE_ifE, isI2_int, wE_int, wE_addI, wE_is, wE_mt, wE_mt0, wE_part, wE_noP, wE_sl, wE_chain, wS_for, wE_src, wE_seqI, wE_optI, wE_yes, wE_V0, wE_V1, wE_optR, wS_optS, wE_ix, ixW_lst, wE_get, gtW_lst, wGe1, wIx0, wIx1, wIx2, wIx3, wS_st, stW_lst, wSt0, wSt1, wSt2, wSt3, List.getElem?_cons_zero, List.getElem?_cons_succ, List.set_cons_zero, List.set_cons_succ, startM, List.map_cons, List.map_nil, List.length_cons, List.length_nil, List.replicate, List.cons_append, List.nil_append, List.set_set, wE_fld, wE_met, insAt_eq, insO_ins, metW_at, List.append_nil, wE_keysI, wE_itemsI, wipeM, wE_slT, cut2t]
        rw [if_pos (by decide), if_pos (by decide), if_pos (by decide), in_w]
        exact ⟨by first | rfl | trivial, Fr.refl _, by first | rfl | trivial, Fr.refl _⟩
      have k9' : S9[r]? = some (.lst ((lf ts s g).map tieV)) := k9
      try simp only [wE_ok, wE_bind, wS_seq, wS_next, wS_brk, wS_cont, wS_drop, wS_ret, wS_retN, wS_ifS, wS_asg, wS_gname, wS_gsub, wS_gnil, wS_gcons, wS_augI, wE_C, wE_nil, wE_cons, wE_tup, wE_lst, wE_op, wE_un, wE_cb, wE_isi, wE_isiT, wE_call, wE_g1, wE_g2, isB_bl, wE_tst, wE_not, wE_and, wE_or, wE_andV, wE_orV, wE_notV, wE_ifE, isI2_int, wE_int, wE_addI, wE_is, wE_mt, wE_mt0, wE_part, wE_noP, wE_sl, wE_chain, wS_for, wE_src, wE_seqI, wE_optI, wE_yes, wE_V0, wE_V1, wE_optR, wS_optS, wE_ix, ixW_lst, wE_get, gtW_lst, wGe1, wIx0, wIx1, wIx2, wIx3, wS_st, stW_lst, wSt0, wSt1, wSt2, wSt3, List.getElem?_cons_zero, List.getElem?_cons_succ, List.set_cons_zero, List.set_cons_succ, startM, List.map_cons, List.map_nil, List.length_cons, List.length_nil, List.replicate, List.cons_append, List.nil_append, List.set_set, wE_fld, wE_met, insAt_eq, insO_ins, metW_at, List.append_nil, wE_keysI, wE_itemsI, wipeM]
      refine wE_mono (law_least_w k9' (bnd hgood) (one_ hone) hs hg (by omega) (Nat.le_trans lf_len (by omega))) fun v S10 ⟨d, s10, u10, f10, hv⟩ => ?_
      have hed := edA_lt (bnd (s := s) (g := g) hgood)
      have k10 := f10.at_ k9' fun z => z
      have f610 : Fr No S6 S10 := f8.trans (f9.trans f10)
      have cmp : ∀ (S11 : Sto) (due : VV) (D : PyData) (R : Sto → Prop), Fr No S6 S11 → okD D = true → (∀ S', Fr No S11 S' → dtA S' 5 due = some D) → (wE (m__law_tried [.int (n : Nat), .ref T2, .int (s : Nat), .int (g : Nat)] S11) fun v S12 => dtA S12 5 v = some D ∧ Fr No S11 S12) → (∀ S', Fr No S6 S' → R S') →
          wE (m__law_tried [.int (n : Nat), .ref T2, .int (s : Nat), .int (g : Nat)] S11) fun x3 S => wE (Cm.m__law_same 6 [x3, due] S) fun x4 S => isB x4 fun b2 => if (!b2) = true then (if True then VV.bl false = VV.bl true else R S) else wE (gEq true (.ref T2) (.ref T0) S) fun x5 S => isB x5 fun b3 => if b3 = true then VV.bl false = VV.bl true else R S := by
        intro S11 due D R f11 hD hdue htold hR
        refine wE_mono htold fun v S12 ⟨hv, f12⟩ => ?_
        refine wE_mono (same_w 5 S12 v due D (by decide) hv (hdue S12 f12) hD) fun v9 S13 ⟨hv9, f13⟩ => ?_
        subst hv9
        have f613 := (f11.trans f12).trans f13
        simp only [isB_bl, Bool.not_true, Bool.false_eq_true, if_false]
        have tok : okD (.list (ts.map tieD)) = true := ties_ok (by omega)
        rw [wE_eqA (ties_dt (m := 3) (f613.at_ hH fun z => z)) (ties_dt (m := 3) (f613.at_ hT fun z => z)) (by decide) (by decide) tok tok, SeqAt.eqv_refl _ (okD_lay _ tok)]
        simp only [if_true, Bool.not_true, isB_bl, Bool.false_eq_true, if_false]
        exact hR S13 f613
      have hH10 : ∀ S11, Fr No S6 S11 → S11[T2]? = some (.lst (ts.map tieV)) := fun S11 f => f.at_ hH fun z => z
      have eqS : ∀ {S : Sto} {Q : VV → Sto → Prop}, wE (gEq false (.int (s : Nat)) (.int (g : Nat)) S) Q = Q (.bl ((s : Int) == (g : Int))) S := fun {S Q} => by
        rw [wE_eqI, if_neg (by decide)]
      have self : s = g → ∀ (S11 : Sto) (R : Sto → Prop), Fr No S6 S11 → (∀ S', Fr No S6 S' → R S') → wE (m__law_tried [.int (n : Nat), .ref T2, .int (s : Nat), .int (g : Nat)] S11) fun x3 S => wE (Cm.m__law_same 6 [x3, .tup [.str "notie", .int (s : Nat), .int (s : Nat)]] S) fun x4 S => isB x4 fun b2 => if (!b2) = true then (if True then VV.bl false = VV.bl true else R S) else wE (gEq true (.ref T2) (.ref T0) S) fun x5 S => isB x5 fun b3 => if b3 = true then VV.bl false = VV.bl true else R S := by
        intro e S11 R f11 hR
        refine cmp S11 _ (selfD s) R f11 self_ok (fun _ _ => self_dt) ?_ hR
        subst e
        refine wE_mono (tried_self hs) fun v S12 ⟨hv, f12⟩ => ?_
        subst hv
        exact ⟨self_dt, f12⟩
      rcases hv with ⟨e1, rfl⟩ | ⟨xx, ws, e1, e2, e3, rfl⟩
      · simp only [isNonV, Bool.false_eq_true, if_false, if_true]
        refine wE_mono (lot_w k10 (bnd hgood) hs (by omega) (Nat.le_trans lf_len (by omega))) fun v S11 ⟨l, d2, hv, l1, l2, l3, l4, f11⟩ => ?_
        subst hv
        have f611 := f610.trans f11
        rw [if_pos (by decide), eqS]
        by_cases e : s = g
        · have eb : ((s : Int) == (g : Int)) = true := by rw [e]; exact beq_self_eq_true _
          simp only [eb, isB_bl, if_true]
          rw [if_pos (by decide)]
          refine self e S11 _ f611 fun S' f => ?_
          exact ⟨_, _, _, _, _, _, rfl, f⟩
        · have eb : ((s : Int) == (g : Int)) = false := beq_false_of_ne (by omega)
          simp only [eb, isB_bl, Bool.false_eq_true, if_false]
          refine cmp S11 _ (lotD n d2) _ f611 (lotD_ok (by omega)) (fun S' f => lot_dt (f.at_ l1 fun z => z)) ?_ fun S' f => ?_
          · refine wE_mono (tried_w (hH10 S11 f611) hgood hone hs hg e (by omega) (by omega)) fun v S12 ⟨d', a1, a2, a3, a4⟩ => ?_
            have : d' = d := best_eq edA_pos (fun e he => (hed e he).1) a1 s10 a2 u10
            subst this
            rcases a4 with ⟨_, l', d3, rfl, c2, c3, c4⟩ | ⟨x'', ws', c1, _⟩
            · have : d3 = d2 := best_eq edA_pos (fun e he => (hed e he).1) c3 l2 c4 l3
              subst this
              exact ⟨lot_dt c2, a3⟩
            · rw [e1] at c1; cases c1
          · exact ⟨_, _, _, _, _, _, rfl, f⟩
      · simp only [isNonV, Bool.false_eq_true, if_false]
        rw [eqS]
        by_cases e : s = g
        · have eb : ((s : Int) == (g : Int)) = true := by rw [e]; exact beq_self_eq_true _
          simp only [eb, isB_bl, if_true]
          rw [if_pos (by decide)]
          refine self e S10 _ f610 fun S' f => ?_
          exact ⟨_, _, _, _, _, _, rfl, f⟩
        · have eb : ((s : Int) == (g : Int)) = false := beq_false_of_ne (by omega)
          simp only [eb, isB_bl, Bool.false_eq_true, if_false]
          refine cmp S10 _ (wayD xx ws) _ f610 (way_ok (by omega)) (fun S' f => way_dt) ?_ fun S' f => ?_
          · refine wE_mono (tried_w (hH10 S10 f610) hgood hone hs hg e (by omega) (by omega)) fun v S12 ⟨d', a1, a2, a3, a4⟩ => ?_
            have : d' = d := best_eq edA_pos (fun e he => (hed e he).1) a1 s10 a2 u10
            subst this
            rcases a4 with ⟨c1, _⟩ | ⟨x'', ws', c1, c2, c3, rfl⟩
            · rw [e1] at c1; cases c1
            · rw [e1] at c1
              cases c1
              rw [c2.uniq e2]
              exact ⟨way_dt, a3⟩
          · exact ⟨_, _, _, _, _, _, rfl, f⟩
    · rintro σ S' ⟨o6, o7, o8, o9, o10, o11, rfl, f⟩
      exact ⟨_, _, _, _, _, _, _, rfl, f⟩
  · rintro σ S7 ⟨o5, o6, o7, o8, o9, o10, o11, rfl, f7⟩
    have b7 := b6.fr f7 (fun z => z) (fun z => z)
    try simp only [wE_ok, wE_bind, wS_seq, wS_next, wS_brk, wS_cont, wS_drop, wS_ret, wS_retN, wS_ifS, wS_asg, wS_gname, wS_gsub, wS_gnil, wS_gcons, wS_augI, wE_C, wE_nil, wE_cons, wE_tup, wE_lst, wE_op, wE_un, wE_cb, wE_isi, wE_isiT, wE_call, wE_g1, wE_g2, isB_bl, wE_tst, wE_not, wE_and, wE_or, wE_andV, wE_orV, wE_notV, wE_ifE, isI2_int, wE_int, wE_addI, wE_is, wE_mt, wE_mt0, wE_part, wE_noP, wE_sl, wE_chain, wS_for, wE_src, wE_seqI, wE_optI, wE_yes, wE_V0, wE_V1, wE_optR, wS_optS, wE_ix, ixW_lst, wE_get, gtW_lst, wGe1, wIx0, wIx1, wIx2, wIx3, wS_st, stW_lst, wSt0, wSt1, wSt2, wSt3, List.getElem?_cons_zero, List.getElem?_cons_succ, List.set_cons_zero, List.set_cons_succ, startM, List.map_cons, List.map_nil, List.length_cons, List.length_nil, List.replicate, List.cons_append, List.nil_append, List.set_set, wE_fld, wE_met, insAt_eq, insO_ins, metW_at, List.append_nil, wE_keysI, wE_itemsI, wipeM]
    rw [wE_neg, wE_pow (i := 10) (j := 20) (by decide) (by decide) (by decide), if_pos (by decide)]
    refine wE_mono (take_w b7.app (by decide) (by decide)) fun v S8 ⟨u, hv, u0, u1, b8, f8⟩ => ?_
    subst hv
    have hb7 := b7.lt
    rw [f8.at_ get_last (show S7.length ≠ b by omega), ixW_lst]
    refine wIx_of u0 u1 fun z hz => ?_
    obtain ⟨odd, rfl, hodd⟩ : ∃ i : Int, z = .int i ∧ ¬ (0 ≤ i ∧ i < (n : Int)) := by
      simp only [List.mem_cons, List.not_mem_nil, or_false] at hz
      rcases hz with rfl | rfl | rfl
      · exact ⟨_, rfl, by omega⟩
      · exact ⟨_, rfl, by omega⟩
      · exact ⟨_, rfl, by have : ((10 : Int) ^ (20 : Int).toNat) = 100000000000000000000 := by decide +kernel
                          omega⟩
    refine wE_mono (tried_bad (.inl ⟨hodd, rfl⟩)) fun v S9 ⟨hv, f9⟩ => ?_
    subst hv
    try simp only [wE_ok, wE_bind, wS_seq, wS_next, wS_brk, wS_cont, wS_drop, wS_ret, wS_retN, wS_ifS, wS_asg, wS_gname, wS_gsub, wS_gnil, wS_gcons, wS_augI, wE_C, wE_nil, wE_cons, wE_tup, wE_lst, wE_op, wE_un, wE_cb, wE_isi, wE_isiT, wE_call, wE_g1, wE_g2, isB_bl, wE_tst, wE_not, wE_and, wE_or, wE_andV, wE_orV, wE_notV, wE_ifE, isI2_int, wE_int, wE_addI, wE_is, wE_mt, wE_mt0, wE_part, wE_noP, wE_sl, wE_chain, wS_for, wE_src, wE_seqI, wE_optI, wE_yes, wE_V0, wE_V1, wE_optR, wS_optS, wE_ix, ixW_lst, wE_get, gtW_lst, wGe1, wIx0, wIx1, wIx2, wIx3, wS_st, stW_lst, wSt0, wSt1, wSt2, wSt3, List.getElem?_cons_zero, List.getElem?_cons_succ, List.set_cons_zero, List.set_cons_succ, startM, List.map_cons, List.map_nil, List.length_cons, List.length_nil, List.replicate, List.cons_append, List.nil_append, List.set_set, wE_fld, wE_met, insAt_eq, insO_ins, metW_at, List.append_nil, wE_keysI, wE_itemsI, wipeM]
    refine wE_mono (tried_bad (s := 0) (g := odd) (.inr ⟨⟨by omega, by omega⟩, hodd, rfl⟩)) fun v S10 ⟨hv, f10⟩ => ?_
    subst hv
    try simp only [wE_ok, wE_bind, wS_seq, wS_next, wS_brk, wS_cont, wS_drop, wS_ret, wS_retN, wS_ifS, wS_asg, wS_gname, wS_gsub, wS_gnil, wS_gcons, wS_augI, wE_C, wE_nil, wE_cons, wE_tup, wE_lst, wE_op, wE_un, wE_cb, wE_isi, wE_isiT, wE_call, wE_g1, wE_g2, isB_bl, wE_tst, wE_not, wE_and, wE_or, wE_andV, wE_orV, wE_notV, wE_ifE, isI2_int, wE_int, wE_addI, wE_is, wE_mt, wE_mt0, wE_part, wE_noP, wE_sl, wE_chain, wS_for, wE_src, wE_seqI, wE_optI, wE_yes, wE_V0, wE_V1, wE_optR, wS_optS, wE_ix, ixW_lst, wE_get, gtW_lst, wGe1, wIx0, wIx1, wIx2, wIx3, wS_st, stW_lst, wSt0, wSt1, wSt2, wSt3, List.getElem?_cons_zero, List.getElem?_cons_succ, List.set_cons_zero, List.set_cons_succ, startM, List.map_cons, List.map_nil, List.length_cons, List.length_nil, List.replicate, List.cons_append, List.nil_append, List.set_set, wE_fld, wE_met, insAt_eq, insO_ins, metW_at, List.append_nil, wE_keysI, wE_itemsI, wipeM]
    refine wE_mono (tried_bad (s := odd) (g := 1) (.inl ⟨hodd, rfl⟩)) fun v S11 ⟨hv, f11⟩ => ?_
    subst hv
    try simp only [wE_ok, wE_bind, wS_seq, wS_next, wS_brk, wS_cont, wS_drop, wS_ret, wS_retN, wS_ifS, wS_asg, wS_gname, wS_gsub, wS_gnil, wS_gcons, wS_augI, wE_C, wE_nil, wE_cons, wE_tup, wE_lst, wE_op, wE_un, wE_cb, wE_isi, wE_isiT, wE_call, wE_g1, wE_g2, isB_bl, wE_tst, wE_not, wE_and, wE_or, wE_andV, wE_orV, wE_notV, wE_ifE, isI2_int, wE_int, wE_addI, wE_is, wE_mt, wE_mt0, wE_part, wE_noP, wE_sl, wE_chain, wS_for, wE_src, wE_seqI, wE_optI, wE_yes, wE_V0, wE_V1, wE_optR, wS_optS, wE_ix, ixW_lst, wE_get, gtW_lst, wGe1, wIx0, wIx1, wIx2, wIx3, wS_st, stW_lst, wSt0, wSt1, wSt2, wSt3, List.getElem?_cons_zero, List.getElem?_cons_succ, List.set_cons_zero, List.set_cons_succ, startM, List.map_cons, List.map_nil, List.length_cons, List.length_nil, List.replicate, List.cons_append, List.nil_append, List.set_set, wE_fld, wE_met, insAt_eq, insO_ins, metW_at, List.append_nil, wE_keysI, wE_itemsI, wipeM]
    rw [if_pos (by decide), if_pos (by decide), if_pos (by decide)]
    have kA : (S11 ++ [OO.lst [.tup [.str "nohouse", .int odd], .tup [.str "nohouse", .int odd], .tup [.str "nohouse", .int odd]]])[S11.length]? = some (.lst [.tup [.str "nohouse", .int odd], .tup [.str "nohouse", .int odd], .tup [.str "nohouse", .int odd]]) := get_last
    have hD : ∀ {S : Sto} {r : Nat}, S[r]? = some (.lst [.tup [.str "nohouse", .int odd], .tup [.str "nohouse", .int odd], .tup [.str "nohouse", .int odd]]) → dtA S 5 (.ref r) = some (.list [.tuple [.str "nohouse", .int odd], .tuple [.str "nohouse", .int odd], .tuple [.str "nohouse", .int odd]]) := fun h => by
      unfold dtA
      rw [h]
      rfl
    have o1 : okD (.tuple [.str "nohouse", .int odd]) = true := by
      unfold okD okDs okDs okDs
      rw [okH]
      rfl
    have oD : okD (.list [.tuple [.str "nohouse", .int odd], .tuple [.str "nohouse", .int odd], .tuple [.str "nohouse", .int odd]]) = true := okD_list (Nat.le_of_ble_eq_true rfl) fun d hd => by
      simp only [List.mem_cons, List.not_mem_nil, or_false] at hd
      rcases hd with rfl | rfl | rfl <;> exact o1
    rw [wE_mulL get_last (by decide) (by decide) (Nat.le_of_ble_eq_true rfl)]
    refine wE_mono (same_w 5 _ _ _ _ (by decide) (hD (((Fr.app (M := No)).trans Fr.app).at_ kA fun z => z)) (hD get_last) oD) fun v S12 ⟨hv, _⟩ => ?_
    exact hv
theorem law_true (ns : List Int) (hns : ns.length ≤ 63) : ∃ S, m_law [.rol (ns.map VV.int)] [] = .ok (.bl true) S := by
  obtain ⟨v, S, e, hv⟩ := wE_ex (main _ _ (wE_mono (box_w (S := []) hns) fun v S' ⟨b, c, hv, hb, _⟩ => ⟨b, c, hv, hb⟩))
  subst hv
  exact ⟨S, e⟩
end Sx.K06
end
noncomputable section
namespace Sx.K06
open PySem PySem.Spec
open PyProof.Rows L2
/-! the head, printed by mir.py -/
def dd__law_box : He.DefD := ⟨("_law_box", none), "_law_box", "_law_box", defArgs (top 16), defBody (top 16), defScope (top 16), [], []⟩
def dd__law_take : He.DefD := ⟨("_law_take", none), "_law_take", "_law_take", defArgs (top 17), defBody (top 17), defScope (top 17), [], []⟩
def dd__law_shuffled : He.DefD := ⟨("_law_shuffled", none), "_law_shuffled", "_law_shuffled", defArgs (top 20), defBody (top 20), defScope (top 20), [], []⟩
def dd__law_same : He.DefD := ⟨("_law_same", none), "_law_same", "_law_same", defArgs (top 18), defBody (top 18), defScope (top 18), [], []⟩
def dd__law_pairs : He.DefD := ⟨("_law_pairs", none), "_law_pairs", "_law_pairs", defArgs (top 19), defBody (top 19), defScope (top 19), [], []⟩
def dd__law_some_ties : He.DefD := ⟨("_law_some_ties", none), "_law_some_ties", "_law_some_ties", defArgs (top 21), defBody (top 21), defScope (top 21), [], []⟩
def dd_looked_house : He.DefD := ⟨("looked_house", none), "looked_house", "looked_house", defArgs (top 11), defBody (top 11), defScope (top 11), [], []⟩
def dd_beside : He.DefD := ⟨("beside", none), "beside", "beside", defArgs (top 7), defBody (top 7), defScope (top 7), [], []⟩
def dd_far : He.DefD := ⟨("far", none), "far", "far", defArgs (top 8), defBody (top 8), defScope (top 8), [], []⟩
def dd_nexts : He.DefD := ⟨("nexts", none), "nexts", "nexts", defArgs (top 9), defBody (top 9), defScope (top 9), [], []⟩
def dd_reached : He.DefD := ⟨("reached", none), "reached", "reached", defArgs (top 10), defBody (top 10), defScope (top 10), [], []⟩
def dd_least_way : He.DefD := ⟨("least_way", none), "least_way", "least_way", defArgs (top 12), defBody (top 12), defScope (top 12), [], []⟩
def dd_joins : He.DefD := ⟨("joins", none), "joins", "joins", defArgs (top 13), defBody (top 13), defScope (top 13), [], []⟩
def dd_round_way : He.DefD := ⟨("round_way", none), "round_way", "round_way", defArgs (top 14), defBody (top 14), defScope (top 14), [], []⟩
def dd__law_tried : He.DefD := ⟨("_law_tried", none), "_law_tried", "_law_tried", defArgs (top 26), defBody (top 26), defScope (top 26), [], []⟩
def dd__law_far : He.DefD := ⟨("_law_far", none), "_law_far", "_law_far", defArgs (top 22), defBody (top 22), defScope (top 22), [], []⟩
def dd__law_next : He.DefD := ⟨("_law_next", none), "_law_next", "_law_next", defArgs (top 23), defBody (top 23), defScope (top 23), [], []⟩
def dd__law_least : He.DefD := ⟨("_law_least", none), "_law_least", "_law_least", defArgs (top 25), defBody (top 25), defScope (top 25), [], []⟩
def dd__law_lot : He.DefD := ⟨("_law_lot", none), "_law_lot", "_law_lot", defArgs (top 24), defBody (top 24), defScope (top 24), [], []⟩
def dd_law : He.DefD := ⟨("law", none), "law", "law", defArgs (top 27), defBody (top 27), defScope (top 27), [], []⟩
def dx_SlipError : He.DefD := ⟨("SlipError", some "__init__"), "__init__", "SlipError.__init__", defArgs (inClass (top 1) 0), defBody (inClass (top 1) 0), defScope (inClass (top 1) 0), [], []⟩
def dx_NoHouse : He.DefD := ⟨("NoHouse", some "__init__"), "__init__", "NoHouse.__init__", defArgs (inClass (top 2) 0), defBody (inClass (top 2) 0), defScope (inClass (top 2) 0), [], []⟩
def dx_NoWay : He.DefD := ⟨("NoWay", some "__init__"), "__init__", "NoWay.__init__", defArgs (inClass (top 4) 0), defBody (inClass (top 4) 0), defScope (inClass (top 4) 0), [], []⟩
def dx_NoTie : He.DefD := ⟨("NoTie", some "__init__"), "__init__", "NoTie.__init__", defArgs (inClass (top 3) 0), defBody (inClass (top 3) 0), defScope (inClass (top 3) 0), [], []⟩
def dx_Lone : He.DefD := ⟨("Lone", some "__init__"), "__init__", "Lone.__init__", defArgs (inClass (top 5) 0), defBody (inClass (top 5) 0), defScope (inClass (top 5) 0), [], []⟩
def fn0 : List He.DefD := [dd__law_box, dd__law_take, dd__law_shuffled, dd__law_same, dd__law_pairs, dd__law_some_ties, dd_looked_house, dd_beside, dd_far, dd_nexts, dd_reached, dd_least_way, dd_joins, dd_round_way, dd__law_tried, dd__law_far]
def fn1 : List He.DefD := [dd__law_next, dd__law_least, dd__law_lot, dd_law, dx_SlipError, dx_NoHouse, dx_NoWay, dx_NoTie, dx_Lone]
def fn : List He.DefD := fn0 ++ (fn1)
def fa0 : List He.Fa := [.glo "_law_box", .glo "_law_take", .glo "_law_shuffled", .glo "_law_same", .glo "_law_pairs", .glo "_law_some_ties", .glo "looked_house", .glo "beside", .glo "far", .glo "nexts", .glo "reached", .glo "least_way", .glo "joins", .glo "round_way", .glo "_law_tried", .glo "_law_far", .glo "_law_next", .glo "_law_least", .glo "_law_lot", .glo "law", .free "list", .free "len", .free "isinstance", .free "tuple"]
def fa1 : List He.Fa := [.free "zip", .free "all", .free "bool", .free "int", .free "str", .free "range", .free "sum", .free "sorted", .free "min", .free "enumerate", .free "ValueError", .glo "SlipError", .glo "NoHouse", .glo "NoWay", .glo "NoTie", .glo "Lone"]
def fa : List He.Fa := fa0 ++ (fa1)
def nm0 : List Str := ["SlipError", "NoHouse", "NoTie", "NoWay", "Lone", "beside", "far", "nexts", "reached", "looked_house", "least_way", "joins", "round_way", "_law_box", "_law_take", "_law_same"]
def nm1 : List Str := ["_law_pairs", "_law_shuffled", "_law_some_ties", "_law_far", "_law_next", "_law_lot", "_law_least", "_law_tried"]
def nm : List Str := nm0 ++ (nm1)
def lay (K : PySem.W.Frag) : Lay := ⟨K, fun c => He.ga K (cname c), atts, []⟩
def fb : List Fb := [xdB "SlipError" ["word"], xdB "NoHouse" ["word", "house"], xdB "NoWay" ["word", "lot"], xdB "NoTie" ["word", "one", "other"], xdB "Lone" ["word", "lot"], cfB "SlipError" "__init__", veB, fun K => exTB K (lay K) T hs]
abbrev Rw : PySem.W.OpenRow := PySem.W.OpenLaw.row PySem.Challenge.rw_swapslip_k06_ways_round_ties
abbrev hk : PySem.W.Hook := hookB 4 fb fa fn
def ob (s : PySem.W.SharedT) : He.AlD := obsBG 4 fb fa fn (HandSHeadRun.getT s)
theorem ob_eq (s : PySem.W.SharedT) : ob s = hk.obs s.abs := obsBG_eq (HandSHeadRun.getT_eq s)
theorem run (w : World) : HandSHeadRun.RunEq Rw (PySem.W.view Rw.prog [27]) hk ob 2500 nm w := by
  intro os
  kernel_rfl
theorem facts {P : Program} {w : World} {K : PySem.W.Frag} {h : Heap} {mg : Str → Option Value} {f : Addr} (X : K.In h) (G : h.Ns mainGlobals mg) (hfa : mg ("law" : Str) = some (.ref f)) (c0 : SaysB fb fa fn K) :
    ∃ fd : FuncData, (∀ (s : Shared) (v : Value), BindsTo s fd ⟨[v], []⟩ [("_law_script", v)]) ∧ ∀ base : Heap, K.In base → base.Ns mainGlobals mg → FnOk P w K mg base (L2.CX P w) 10 f fd ["_law_script"] (spM (lay K) m_law) := by
  have c := c0.d
  obtain ⟨fd__law_box, F__law_box⟩ := c.def_ 0 (d := dd__law_box) rfl
  have gl__law_box := He.glo_ok X G (c.fact 0 (f := .glo "_law_box") rfl)
  obtain ⟨fd__law_take, F__law_take⟩ := c.def_ 1 (d := dd__law_take) rfl
  have gl__law_take := He.glo_ok X G (c.fact 1 (f := .glo "_law_take") rfl)
  obtain ⟨fd__law_shuffled, F__law_shuffled⟩ := c.def_ 2 (d := dd__law_shuffled) rfl
  have gl__law_shuffled := He.glo_ok X G (c.fact 2 (f := .glo "_law_shuffled") rfl)
  obtain ⟨fd__law_same, F__law_same⟩ := c.def_ 3 (d := dd__law_same) rfl
  have gl__law_same := He.glo_ok X G (c.fact 3 (f := .glo "_law_same") rfl)
  obtain ⟨fd__law_pairs, F__law_pairs⟩ := c.def_ 4 (d := dd__law_pairs) rfl
  have gl__law_pairs := He.glo_ok X G (c.fact 4 (f := .glo "_law_pairs") rfl)
  obtain ⟨fd__law_some_ties, F__law_some_ties⟩ := c.def_ 5 (d := dd__law_some_ties) rfl
  have gl__law_some_ties := He.glo_ok X G (c.fact 5 (f := .glo "_law_some_ties") rfl)
  obtain ⟨fd_looked_house, F_looked_house⟩ := c.def_ 6 (d := dd_looked_house) rfl
  have gl_looked_house := He.glo_ok X G (c.fact 6 (f := .glo "looked_house") rfl)
  obtain ⟨fd_beside, F_beside⟩ := c.def_ 7 (d := dd_beside) rfl
  have gl_beside := He.glo_ok X G (c.fact 7 (f := .glo "beside") rfl)
  obtain ⟨fd_far, F_far⟩ := c.def_ 8 (d := dd_far) rfl
  have gl_far := He.glo_ok X G (c.fact 8 (f := .glo "far") rfl)
  obtain ⟨fd_nexts, F_nexts⟩ := c.def_ 9 (d := dd_nexts) rfl
  have gl_nexts := He.glo_ok X G (c.fact 9 (f := .glo "nexts") rfl)
  obtain ⟨fd_reached, F_reached⟩ := c.def_ 10 (d := dd_reached) rfl
  have gl_reached := He.glo_ok X G (c.fact 10 (f := .glo "reached") rfl)
  obtain ⟨fd_least_way, F_least_way⟩ := c.def_ 11 (d := dd_least_way) rfl
  have gl_least_way := He.glo_ok X G (c.fact 11 (f := .glo "least_way") rfl)
  obtain ⟨fd_joins, F_joins⟩ := c.def_ 12 (d := dd_joins) rfl
  have gl_joins := He.glo_ok X G (c.fact 12 (f := .glo "joins") rfl)
  obtain ⟨fd_round_way, F_round_way⟩ := c.def_ 13 (d := dd_round_way) rfl
  have gl_round_way := He.glo_ok X G (c.fact 13 (f := .glo "round_way") rfl)
  obtain ⟨fd__law_tried, F__law_tried⟩ := c.def_ 14 (d := dd__law_tried) rfl
  have gl__law_tried := He.glo_ok X G (c.fact 14 (f := .glo "_law_tried") rfl)
  obtain ⟨fd__law_far, F__law_far⟩ := c.def_ 15 (d := dd__law_far) rfl
  have gl__law_far := He.glo_ok X G (c.fact 15 (f := .glo "_law_far") rfl)
  obtain ⟨fd__law_next, F__law_next⟩ := c.def_ 16 (d := dd__law_next) rfl
  have gl__law_next := He.glo_ok X G (c.fact 16 (f := .glo "_law_next") rfl)
  obtain ⟨fd__law_least, F__law_least⟩ := c.def_ 17 (d := dd__law_least) rfl
  have gl__law_least := He.glo_ok X G (c.fact 17 (f := .glo "_law_least") rfl)
  obtain ⟨fd__law_lot, F__law_lot⟩ := c.def_ 18 (d := dd__law_lot) rfl
  have gl__law_lot := He.glo_ok X G (c.fact 18 (f := .glo "_law_lot") rfl)
  obtain ⟨fd_law, F_law⟩ := c.def_ 19 (d := dd_law) rfl
  have gl_law := He.glo_ok X G (c.fact 19 (f := .glo "law") rfl)
  have g_list := He.free_ok X G (c.fact 20 (f := .free "list") rfl)
  have g_len := He.free_ok X G (c.fact 21 (f := .free "len") rfl)
  have g_isinstance := He.free_ok X G (c.fact 22 (f := .free "isinstance") rfl)
  have g_tuple := He.free_ok X G (c.fact 23 (f := .free "tuple") rfl)
  have g_zip := He.free_ok X G (c.fact 24 (f := .free "zip") rfl)
  have g_all := He.free_ok X G (c.fact 25 (f := .free "all") rfl)
  have g_bool := He.free_ok X G (c.fact 26 (f := .free "bool") rfl)
  have g_int := He.free_ok X G (c.fact 27 (f := .free "int") rfl)
  have g_str := He.free_ok X G (c.fact 28 (f := .free "str") rfl)
  have g_range := He.free_ok X G (c.fact 29 (f := .free "range") rfl)
  have g_sum := He.free_ok X G (c.fact 30 (f := .free "sum") rfl)
  have g_sorted := He.free_ok X G (c.fact 31 (f := .free "sorted") rfl)
  have g_min := He.free_ok X G (c.fact 32 (f := .free "min") rfl)
  have g_enumerate := He.free_ok X G (c.fact 33 (f := .free "enumerate") rfl)
  have g_ValueError := He.free_ok X G (c.fact 34 (f := .free "ValueError") rfl)
  have gl_SlipError := He.glo_ok X G (c.fact 35 (f := .glo "SlipError") rfl)
  have gl_NoHouse := He.glo_ok X G (c.fact 36 (f := .glo "NoHouse") rfl)
  have gl_NoWay := He.glo_ok X G (c.fact 37 (f := .glo "NoWay") rfl)
  have gl_NoTie := He.glo_ok X G (c.fact 38 (f := .glo "NoTie") rfl)
  have gl_Lone := He.glo_ok X G (c.fact 39 (f := .glo "Lone") rfl)
  obtain ⟨fd_SlipError, F_SlipError⟩ := c.def_ 20 (d := dx_SlipError) rfl
  obtain ⟨fd_NoHouse, F_NoHouse⟩ := c.def_ 21 (d := dx_NoHouse) rfl
  obtain ⟨fd_NoWay, F_NoWay⟩ := c.def_ 22 (d := dx_NoWay) rfl
  obtain ⟨fd_NoTie, F_NoTie⟩ := c.def_ 23 (d := dx_NoTie) rfl
  obtain ⟨fd_Lone, F_Lone⟩ := c.def_ 24 (d := dx_Lone) rfl
  have e := hfa.symm.trans gl_law
  cases e
  have bb := FunD.bindsA (ps := ["_law_script"]) F_law fun _ _ _ _ _ _ us hl => match us, hl with | [_], _ => rfl
  refine ⟨fd_law, fun s v => bb s [v] rfl, fun base _ _ => ?_⟩
  have ET : ExT K (lay K) T hs := exTB_ok (c0.b 7)
  have hA : ∀ c, (lay K).att c = atts c := fun _ => rfl
  have C_NoWay : mg "NoWay" = some (.ref ((lay K).C 17)) := gl_NoWay
  have C_Lone : mg "Lone" = some (.ref ((lay K).C 18)) := gl_Lone
  have C_NoTie : mg "NoTie" = some (.ref ((lay K).C 13)) := gl_NoTie
  have C_NoHouse : mg "NoHouse" = some (.ref ((lay K).C 12)) := gl_NoHouse
  obtain ⟨h1_SlipError, h2_SlipError, h3_SlipError, h4_SlipError⟩ := xdB_ok (c0.b 0)
  have bi_SlipError : Binds K fd_SlipError ["self", "word"] [] := F_SlipError.bindsN (fun _ _ _ _ _ _ us hl => match us, hl with | [_, _], _ => rfl)
  have CF := cfB_ok (c0.b 5)
  have XI_SlipError := fun base => xi_SlipError (P := P) (w := w) (base := base) F_SlipError g_ValueError (veB_ok (c0.b 6))
  have XIH_SlipError := fun base => xiH_SlipError (P := P) (w := w) (base := base) F_SlipError g_ValueError (veB_ok (c0.b 6))
  obtain ⟨h1_NoHouse, h2_NoHouse, h3_NoHouse, h4_NoHouse⟩ := xdB_ok (c0.b 1)
  have bi_NoHouse : Binds K fd_NoHouse ["self", "house"] [] := F_NoHouse.bindsN (fun _ _ _ _ _ _ us hl => match us, hl with | [_, _], _ => rfl)
  have X_NoHouse : ∀ base, XDf P w K mg base (lay K) "NoHouse" 12 2 "nohouse" ["house"] := fun base => ⟨⟨_, _, _, h1_NoHouse, h2_NoHouse, h3_NoHouse, xi_NoHouse F_NoHouse CF gl_SlipError (XI_SlipError base) bi_SlipError, bi_NoHouse, rfl⟩, h4_NoHouse, rfl, by decide +kernel, gl_NoHouse⟩
  obtain ⟨h1_NoWay, h2_NoWay, h3_NoWay, h4_NoWay⟩ := xdB_ok (c0.b 2)
  have bi_NoWay : Binds K fd_NoWay ["self", "lot"] [] := F_NoWay.bindsN (fun _ _ _ _ _ _ us hl => match us, hl with | [_, _], _ => rfl)
  have X_NoWay : ∀ base, XDl P w K mg base (lay K) "NoWay" 17 2 "noway" "lot" := fun base => ⟨⟨_, _, _, h1_NoWay, h2_NoWay, h3_NoWay, xi_NoWay F_NoWay CF gl_SlipError (XI_SlipError base) bi_SlipError g_list, bi_NoWay⟩, h4_NoWay, rfl, by decide +kernel, gl_NoWay⟩
  obtain ⟨h1_NoTie, h2_NoTie, h3_NoTie, h4_NoTie⟩ := xdB_ok (c0.b 3)
  have bi_NoTie : Binds K fd_NoTie ["self", "one", "other"] [] := F_NoTie.bindsN (fun _ _ _ _ _ _ us hl => match us, hl with | [_, _, _], _ => rfl)
  have X_NoTie : ∀ base, XDf P w K mg base (lay K) "NoTie" 13 2 "notie" ["one", "other"] := fun base => ⟨⟨_, _, _, h1_NoTie, h2_NoTie, h3_NoTie, xi_NoTie F_NoTie CF gl_SlipError (XI_SlipError base) bi_SlipError, bi_NoTie, rfl⟩, h4_NoTie, rfl, by decide +kernel, gl_NoTie⟩
  obtain ⟨h1_Lone, h2_Lone, h3_Lone, h4_Lone⟩ := xdB_ok (c0.b 4)
  have bi_Lone : Binds K fd_Lone ["self", "lot"] [] := F_Lone.bindsN (fun _ _ _ _ _ _ us hl => match us, hl with | [_, _], _ => rfl)
  have XH_Lone : ∀ base, XDlH P w K mg base (lay K) "Lone" 18 2 "lone" "lot" := fun base => ⟨⟨_, _, _, h1_Lone, h2_Lone, h3_Lone, xiH_Lone F_Lone CF gl_SlipError (XIH_SlipError base) bi_SlipError g_list, bi_Lone⟩, h4_Lone, rfl, by decide +kernel, gl_Lone⟩
  have X_Lone : ∀ base, XDl P w K mg base (lay K) "Lone" 18 2 "lone" "lot" := fun base => ⟨⟨_, _, _, h1_Lone, h2_Lone, h3_Lone, xi_Lone F_Lone CF gl_SlipError (XI_SlipError base) bi_SlipError g_list, bi_Lone⟩, h4_Lone, rfl, by decide +kernel, gl_Lone⟩
  have D__law_box := ok__law_box (P := P) (w := w) (base := base) (L := lay K) rfl F__law_box gl__law_box g_list
  have D__law_take := ok__law_take (P := P) (w := w) (base := base) (L := lay K) rfl F__law_take gl__law_take g_len
  have D__law_shuffled := ok__law_shuffled (P := P) (w := w) (base := base) (L := lay K) rfl F__law_shuffled gl__law_shuffled D__law_take g_len
  have D__law_same := ok__law_same (P := P) (w := w) (base := base) (L := lay K) rfl F__law_same gl__law_same g_isinstance g_tuple g_list g_zip g_all g_len g_bool g_int g_str 6
  have D__law_pairs := ok__law_pairs (P := P) (w := w) (base := base) (L := lay K) rfl F__law_pairs gl__law_pairs g_range g_sum
  have D__law_some_ties := ok__law_some_ties (P := P) (w := w) (base := base) (L := lay K) rfl F__law_some_ties gl__law_some_ties D__law_pairs D__law_take g_len
  have DN_looked_house := ok_looked_house (P := P) (w := w) (base := base) (L := lay K) rfl F_looked_house gl_looked_house (X_NoHouse base)
  have D_looked_house := DN_looked_house.df
  have DN_beside := ok_beside (P := P) (w := w) (base := base) (L := lay K) rfl F_beside gl_beside g_range g_sorted
  have D_beside := DN_beside.df
  have DN_far := ok_far (P := P) (w := w) (base := base) (L := lay K) rfl F_far gl_far DN_looked_house DN_beside g_range
  have D_far := DN_far.df
  have DN_nexts := ok_nexts (P := P) (w := w) (base := base) (L := lay K) rfl F_nexts gl_nexts DN_far DN_beside g_range g_len
  have D_nexts := DN_nexts.df
  have DN_reached := ok_reached (P := P) (w := w) (base := base) (L := lay K) rfl F_reached gl_reached DN_far g_range
  have D_reached := DN_reached.df
  have DN_least_way := ok_least_way (P := P) (w := w) (base := base) (L := lay K) rfl F_least_way gl_least_way DN_looked_house DN_far DN_reached DN_nexts g_tuple (X_NoWay base)
  have D_least_way := DN_least_way.df
  have D_joins := ok_joins (P := P) (w := w) (base := base) (L := lay K) rfl F_joins gl_joins g_sorted
  have D_round_way := ok_round_way (P := P) (w := w) (base := base) (L := lay K) rfl F_round_way gl_round_way D_looked_house D_joins DN_least_way (X_NoTie base) C_NoWay ET hA (XH_Lone base) h1_NoWay
  have D__law_tried := ok__law_tried (P := P) (w := w) (base := base) (L := lay K) rfl F__law_tried gl__law_tried D_round_way C_Lone C_NoTie C_NoHouse ET hA
  have D__law_far := ok__law_far (P := P) (w := w) (base := base) (L := lay K) rfl F__law_far gl__law_far g_range
  have D__law_next := ok__law_next (P := P) (w := w) (base := base) (L := lay K) rfl F__law_next gl__law_next D__law_far g_min
  have D__law_least := ok__law_least (P := P) (w := w) (base := base) (L := lay K) rfl F__law_least gl__law_least D__law_far D__law_next g_range g_tuple
  have D__law_lot := ok__law_lot (P := P) (w := w) (base := base) (L := lay K) rfl F__law_lot gl__law_lot D__law_far g_enumerate
  exact okF_law (P := P) (w := w) (base := base) (L := lay K) rfl F_law D__law_box D__law_take D__law_shuffled D__law_some_ties D__law_least D__law_lot D__law_same D__law_tried g_list g_range
end Sx.K06
end
section
open PySem PySem.W PySem.Calls PyProof.Rows
theorem PySem.Challenge.cw_swapslip_k06_ways_round_ties_holds : PySem.Challenge.rw_swapslip_k06_ways_round_ties.Holds := by
  w_on; o_law
  refine HandSHeadRun.head_any (r := OpenLaw.row PySem.Challenge.rw_swapslip_k06_ways_round_ties) (q := view (OpenLaw.row PySem.Challenge.rw_swapslip_k06_ways_round_ties).prog [27]) (H := Sx.K06.hk) (ob := Sx.K06.ob) (M := 2500) (loose := Sx.K06.nm) (d := HandSHeadRun.topDef (OpenLaw.row PySem.Challenge.rw_swapslip_k06_ways_round_ties).prog 27) (kwd := []) Sx.K06.ob_eq
    (by kernel_rfl) (fun s => by kernel_rfl) Sx.K06.run (by kernel_rfl) (by kernel_rfl) (by kernel_rfl) (by rfl) (by first | assumption | decide +kernel) (by decide +kernel) ⟨rfl, rfl, rfl, rfl, rfl, by decide +kernel⟩ ?hw ?hc
  case hw => w_witness2
  case hc =>
    refine L2.walk_ofE (l := PySem.Challenge.rw_swapslip_k06_ways_round_ties) (n := 63) (k := 10) (x := "_law_script") (CX := Sx.CXA PySem.Challenge.rw_swapslip_k06_ways_round_ties.prog) rfl (by decide) (by kernel_rfl) ⟨rfl, by decide, by decide⟩ ?F (fun H s e s' z => Sx.no_CXA H s e s' z)
    intro w mg fa h Y G hmg0
    obtain ⟨K, KX, c⟩ := Y
    have hmg : mg ("law" : PySem.Str) = some (.ref fa) := by
      have e : (HandSHeadRun.topDef (OpenLaw.row PySem.Challenge.rw_swapslip_k06_ways_round_ties).prog 27).name = ("law" : PySem.Str) := by kernel_rfl
      rw [← e]
      exact hmg0
    obtain ⟨fd, hb, hF⟩ := Sx.K06.facts (P := (PySem.Challenge.rw_swapslip_k06_ways_round_ties).prog) (w := w) KX G hmg c
    exact ⟨K, fd, Sx.spM (Sx.K06.lay K) Sx.K06.m_law, KX, hb, fun H a ns hl hO hS => Sx.law_out (L := Sx.K06.lay K) hl hO hS Sx.K06.law_true, fun base k1 k2 => Sx.fn_anyW (hF base k1 k2)⟩
end
