import PyProof.Rows.All
import Wide.All
import OpenK.AllK
import Wide.FinOn
import HandS.ForMost
import HandS.Exc
import HandS.Defaults
import HandS.TupAny
import HandS.Wide
import KE.DataCmp
import KE.DatumOrd
import KE.SortData
import HandS.Deep
import HandS.More
import HandS.WordsDict
import HandS.TupLen
import HandS.Conv
import HandS.Replace
import HandS.Text
import HandS.Iter
import HandS.Rev
import HandS.RevRange
import KE.GoesEnum
import KE.GoesZip
import HandS.DictComp
import HandS.StrSplit
import HandS.ExcCtx
import HandS.HotCalls
import HandS.ExcInit
import KE.KExcSuper
import HandS.HeadHook1
import HandS.HeadHook2
import HandS.Small
import HandS.IsInst
import HandS.ExcField
import KE.KExcIs
import HandS.Head0
import HandS.Head1
import HandS.Head2
import HandS.HeadEnd
import HandS.IterVal
import KE.KOwnIter
import PySem.Challenge.RW_rankedtongues_k16_first_ranking_that_fit
set_option Elab.async false
set_option linter.all false
set_option maxRecDepth 100000
/-! The value layer: data, how data lie in the heap. -/
namespace VL
open PySem PySem.Spec L2

/-- data, without addresses -/
inductive D where
  | non | bl (b : Bool) | int (i : Int) | str (s : List Nat)
  | lst (xs : List D) | tup (xs : List D) | scr (ns : List Int)
  | dic (ks vs : List D)
  | ins (c : Nat) (ns : List Str) (vs : List D)
  | exc (c : Nat) (ns : List Str) (vs : List D)

abbrev toS (s : List Nat) : Str := ⟨s.toArray⟩
def keyD : Key → D
  | .inl i => .int i
  | .inr x => .str x.cps.toList

/-- what is fixed for the whole law -/
structure Gx where
  K : PySem.W.Frag
  cls : Nat → Addr
  hot : Option (Addr × Nat × Option Addr)

/-- F is a part of H -/
abbrev Sub (F H : Hp) : Prop := ∀ (a : Addr) (o : HO), F a = some o → H a = some o
theorem Sub.rfl' {F : Hp} : Sub F F := fun _ _ h => h
theorem Sub.tr {F G H : Hp} (a : Sub F G) (b : Sub G H) : Sub F H := fun x o h => b x o (a x o h)
theorem Sub.rd {F H : Hp} (s : Sub F H) {a : Addr} {u : HO} (h : Rd F a u) : Rd H a u := by
  rcases h with h | ⟨o, h⟩
  · exact .inl (s _ _ h)
  · exact .inr ⟨o, s _ _ h⟩
theorem Sub.sqL {F H : Hp} (s : Sub F H) {K : PySem.W.Frag} {a : Addr} {xs : List V} (h : SqL K F a xs) : SqL K H a xs := by
  rcases h with h | h
  · exact .inl (s.rd h)
  · exact .inr h
theorem Sub.sqT {F H : Hp} (s : Sub F H) {K : PySem.W.Frag} {a : Addr} {xs : List V} (h : SqT K F a xs) : SqT K H a xs := by
  rcases h with h | h
  · exact .inl (s.rd h)
  · exact .inr h

/-- a dict at a: its keys, its values -/
def DicAt (F : Hp) (a : Addr) (ks : List D) (vs : List V) : Prop :=
  (∃ kvs : List (Key × V), F a = some (.dK kvs) ∧ ks = kvs.map (fun p => keyD p.1) ∧ vs = kvs.map (·.2)) ∨
  (∃ kvs : List (List Key × V), F a = some (.dT kvs) ∧ ks = kvs.map (fun p => D.tup (p.1.map keyD)) ∧ vs = kvs.map (·.2))
theorem Sub.dic {F H : Hp} (s : Sub F H) {a : Addr} {ks : List D} {vs : List V} (h : DicAt F a ks vs) : DicAt H a ks vs := by
  rcases h with ⟨k, h, e⟩ | ⟨k, h, e⟩
  · exact .inl ⟨k, s _ _ h, e⟩
  · exact .inr ⟨k, s _ _ h, e⟩
/-- the own dict of an exception -/
def XdAt (F : Hp) (od : Option Addr) (ns : List Str) (vs : List V) : Prop :=
  (od = none ∧ ns = [] ∧ vs = []) ∨ ∃ d, od = some d ∧ F d = some (.xd (ns.zip vs)) ∧ ns.length = vs.length
theorem Sub.xd {F H : Hp} (s : Sub F H) {od : Option Addr} {ns : List Str} {vs : List V} (h : XdAt F od ns vs) : XdAt H od ns vs := by
  rcases h with h | ⟨d, e, h, l⟩
  · exact .inl h
  · exact .inr ⟨d, e, s _ _ h, l⟩

mutual
/-- v lies in F as these data -/
def Rep (G : Gx) (F : Hp) : D → V → Prop
  | .non, v => v = .non
  | .bl b, v => v = .bl b
  | .int i, v => v = .int i
  | .str s, v => v = .str (toS s)
  | .lst xs, v => ∃ a vs, v = .ref a ∧ F a = some (.lst vs) ∧ Reps G F xs vs
  | .scr ns, v => ∃ a, v = .ref a ∧ SqL G.K F a (ns.map V.int)
  | .tup xs, v => ∃ a vs, v = .ref a ∧ SqT G.K F a vs ∧ Reps G F xs vs
  | .dic ks ws, v => ∃ a vs, v = .ref a ∧ DicAt F a ks vs ∧ Reps G F ws vs
  | .ins c ns ws, v => ∃ a dx vs, v = .ref a ∧ F a = some (.ins (G.cls c) dx (ns.zip vs)) ∧ ns.length = vs.length ∧ Reps G F ws vs
  | .exc c ns ws, v => ∃ a od vs, v = .ref a ∧ G.hot = some (a, c, od) ∧ XdAt F od ns vs ∧ Reps G F ws vs
def Reps (G : Gx) (F : Hp) : List D → List V → Prop
  | [], vs => vs = []
  | d :: ds, vs => ∃ v ws, vs = v :: ws ∧ Rep G F d v ∧ Reps G F ds ws
end

mutual
theorem Rep.mono {G : Gx} {F H : Hp} (s : Sub F H) : ∀ {d : D} {v : V}, Rep G F d v → Rep G H d v
  | .non, v, h => by unfold Rep at h ⊢; exact h
  | .bl b, v, h => by unfold Rep at h ⊢; exact h
  | .int i, v, h => by unfold Rep at h ⊢; exact h
  | .str z, v, h => by unfold Rep at h ⊢; exact h
  | .lst xs, v, h => by
    unfold Rep at h ⊢
    obtain ⟨a, vs, e, q, r⟩ := h
    exact ⟨a, vs, e, s _ _ q, Reps.mono s r⟩
  | .scr ns, v, h => by
    unfold Rep at h ⊢
    obtain ⟨a, e, q⟩ := h
    exact ⟨a, e, s.sqL q⟩
  | .tup xs, v, h => by
    unfold Rep at h ⊢
    obtain ⟨a, vs, e, q, r⟩ := h
    exact ⟨a, vs, e, s.sqT q, Reps.mono s r⟩
  | .dic ks ws, v, h => by
    unfold Rep at h ⊢
    obtain ⟨a, vs, e, q, r⟩ := h
    exact ⟨a, vs, e, s.dic q, Reps.mono s r⟩
  | .ins c ns ws, v, h => by
    unfold Rep at h ⊢
    obtain ⟨a, dx, vs, e, q, l, r⟩ := h
    exact ⟨a, dx, vs, e, s _ _ q, l, Reps.mono s r⟩
  | .exc c ns ws, v, h => by
    unfold Rep at h ⊢
    obtain ⟨a, od, vs, e, q, l, r⟩ := h
    exact ⟨a, od, vs, e, q, s.xd l, Reps.mono s r⟩
theorem Reps.mono {G : Gx} {F H : Hp} (s : Sub F H) : ∀ {ds : List D} {vs : List V}, Reps G F ds vs → Reps G H ds vs
  | [], vs, h => by unfold Reps at h ⊢; exact h
  | d :: ds, vs, h => by
    unfold Reps at h ⊢
    obtain ⟨v, ws, e, r, q⟩ := h
    exact ⟨v, ws, e, Rep.mono s r, Reps.mono s q⟩
end

section
variable {G : Gx} {F H : Hp}
theorem rep_non {v : V} : Rep G F .non v ↔ v = .non := by unfold Rep; exact Iff.rfl
theorem rep_bl {b : Bool} {v : V} : Rep G F (.bl b) v ↔ v = .bl b := by unfold Rep; exact Iff.rfl
theorem rep_int {i : Int} {v : V} : Rep G F (.int i) v ↔ v = .int i := by unfold Rep; exact Iff.rfl
theorem rep_str {s : List Nat} {v : V} : Rep G F (.str s) v ↔ v = .str (toS s) := by unfold Rep; exact Iff.rfl
theorem rep_lst {xs : List D} {v : V} : Rep G F (.lst xs) v ↔ ∃ a vs, v = .ref a ∧ F a = some (.lst vs) ∧ Reps G F xs vs := by
  conv => lhs; unfold Rep
theorem rep_tup {xs : List D} {v : V} : Rep G F (.tup xs) v ↔ ∃ a vs, v = .ref a ∧ SqT G.K F a vs ∧ Reps G F xs vs := by
  conv => lhs; unfold Rep
theorem reps_nil {vs : List V} : Reps G F [] vs ↔ vs = [] := by unfold Reps; exact Iff.rfl
theorem reps_cons {d : D} {ds : List D} {v : V} {vs : List V} : Reps G F (d :: ds) (v :: vs) ↔ Rep G F d v ∧ Reps G F ds vs := by
  conv => lhs; unfold Reps
  constructor
  · rintro ⟨v', ws, e, r, q⟩
    injection e with e1 e2
    subst e1 e2
    exact ⟨r, q⟩
  · rintro ⟨r, q⟩
    exact ⟨v, vs, rfl, r, q⟩
theorem Reps.len : ∀ {ds : List D} {vs : List V}, Reps G F ds vs → ds.length = vs.length
  | [], vs, h => by rw [reps_nil.mp h]; rfl
  | d :: ds, [], h => by
    unfold Reps at h
    obtain ⟨v, ws, e, _⟩ := h
    cases e
  | d :: ds, v :: vs, h => by
    rw [List.length_cons, List.length_cons, Reps.len (reps_cons.mp h).2]
theorem Reps.get : ∀ {ds : List D} {vs : List V} {i : Nat} {v : V}, Reps G F ds vs → vs[i]? = some v → ∃ d, ds[i]? = some d ∧ Rep G F d v
  | [], vs, i, v, h, e => by rw [reps_nil.mp h] at e; simp at e
  | d :: ds, [], i, v, h, e => by simp at e
  | d :: ds, w :: vs, 0, v, h, e => by
    simp at e
    subst e
    exact ⟨d, rfl, (reps_cons.mp h).1⟩
  | d :: ds, w :: vs, i + 1, v, h, e => by
    simp at e
    obtain ⟨d', e', r⟩ := Reps.get (reps_cons.mp h).2 e
    exact ⟨d', by simpa using e', r⟩
theorem Reps.get' {ds : List D} {vs : List V} {i : Nat} {d : D} (h : Reps G F ds vs) (e : ds[i]? = some d) : ∃ v, vs[i]? = some v ∧ Rep G F d v := by
  have hl := h.len
  obtain ⟨hi, _⟩ := List.getElem?_eq_some_iff.mp e
  have hv : vs[i]? = some vs[i] := List.getElem?_eq_getElem (by omega)
  obtain ⟨d', e', r⟩ := h.get hv
  rw [e] at e'
  injection e' with e'
  subst e'
  exact ⟨_, hv, r⟩
theorem Reps.app : ∀ {xs ys : List D} {vs ws : List V}, Reps G F xs vs → Reps G F ys ws → Reps G F (xs ++ ys) (vs ++ ws)
  | [], ys, vs, ws, h, k => by rw [reps_nil.mp h]; exact k
  | d :: ds, ys, [], ws, h, k => by
    have := h.len
    simp at this
  | d :: ds, ys, v :: vs, ws, h, k => reps_cons.mpr ⟨(reps_cons.mp h).1, Reps.app (reps_cons.mp h).2 k⟩
theorem Reps.one {d : D} {v : V} (h : Rep G F d v) : Reps G F [d] [v] := reps_cons.mpr ⟨h, reps_nil.mpr rfl⟩
theorem Reps.take : ∀ {ds : List D} {vs : List V} (n : Nat), Reps G F ds vs → Reps G F (ds.take n) (vs.take n)
  | ds, vs, 0, h => by simp; exact reps_nil.mpr rfl
  | [], vs, n + 1, h => by rw [reps_nil.mp h]; exact reps_nil.mpr rfl
  | d :: ds, [], n + 1, h => by have := h.len; simp at this
  | d :: ds, v :: vs, n + 1, h => by
    rw [List.take_succ_cons, List.take_succ_cons]
    exact reps_cons.mpr ⟨(reps_cons.mp h).1, Reps.take n (reps_cons.mp h).2⟩
theorem Reps.drop : ∀ {ds : List D} {vs : List V} (n : Nat), Reps G F ds vs → Reps G F (ds.drop n) (vs.drop n)
  | ds, vs, 0, h => h
  | [], vs, n + 1, h => by rw [reps_nil.mp h]; exact reps_nil.mpr rfl
  | d :: ds, [], n + 1, h => by have := h.len; simp at this
  | d :: ds, v :: vs, n + 1, h => by
    rw [List.drop_succ_cons, List.drop_succ_cons]
    exact Reps.drop n (reps_cons.mp h).2
theorem Reps.set : ∀ {ds : List D} {vs : List V} (n : Nat) {d : D} {v : V}, Reps G F ds vs → Rep G F d v → Reps G F (ds.set n d) (vs.set n v)
  | [], vs, n, d, v, h, r => by rw [reps_nil.mp h]; exact reps_nil.mpr rfl
  | e :: ds, [], n, d, v, h, r => by have := h.len; simp at this
  | e :: ds, w :: vs, 0, d, v, h, r => reps_cons.mpr ⟨r, (reps_cons.mp h).2⟩
  | e :: ds, w :: vs, n + 1, d, v, h, r => reps_cons.mpr ⟨(reps_cons.mp h).1, Reps.set n (reps_cons.mp h).2 r⟩
theorem Reps.ints : ∀ {ns : List Int} {vs : List V}, Reps G F (ns.map D.int) vs ↔ vs = ns.map V.int
  | [], vs => reps_nil
  | n :: ns, [] => by
    constructor
    · intro h
      have := h.len
      simp at this
    · intro h
      cases h
  | n :: ns, v :: vs => by
    rw [List.map_cons, reps_cons, rep_int, Reps.ints, List.map_cons]
    constructor
    · rintro ⟨rfl, rfl⟩
      rfl
    · intro h
      injection h with h1 h2
      exact ⟨h1, h2⟩
theorem Reps.rev {ds : List D} {vs : List V} (h : Reps G F ds vs) : Reps G F ds.reverse vs.reverse := by
  induction ds generalizing vs with
  | nil => rw [reps_nil.mp h]; exact reps_nil.mpr rfl
  | cons d ds ih =>
    cases vs with
    | nil => have := h.len; simp at this
    | cons v vs =>
      rw [List.reverse_cons, List.reverse_cons]
      exact (ih (reps_cons.mp h).2).app (Reps.one (reps_cons.mp h).1)
end

/-- read at the top in H, below in F -/
def Red (G : Gx) (F H : Hp) : D → V → Prop
  | .lst xs, v => ∃ a vs, v = .ref a ∧ H a = some (.lst vs) ∧ Reps G F xs vs
  | .dic ks ws, v => ∃ a vs, v = .ref a ∧ DicAt H a ks vs ∧ Reps G F ws vs
  | .ins c ns ws, v => ∃ a dx vs, v = .ref a ∧ H a = some (.ins (G.cls c) dx (ns.zip vs)) ∧ ns.length = vs.length ∧ Reps G F ws vs
  | d, v => Rep G F d v
theorem Rep.red {G : Gx} {F H : Hp} (s : Sub F H) {d : D} {v : V} (h : Rep G F d v) : Red G F H d v := by
  cases d with
  | lst xs =>
    unfold Rep at h
    obtain ⟨a, vs, e, q, r⟩ := h
    exact ⟨a, vs, e, s _ _ q, r⟩
  | dic ks ws =>
    unfold Rep at h
    obtain ⟨a, vs, e, q, r⟩ := h
    exact ⟨a, vs, e, s.dic q, r⟩
  | ins c ns ws =>
    unfold Rep at h
    obtain ⟨a, dx, vs, e, q, l, r⟩ := h
    exact ⟨a, dx, vs, e, s _ _ q, l, r⟩
  | _ => exact h

/-- an own object at a: what it is -/
def Own (G : Gx) (F : Hp) (o : HO) : D → Prop
  | .lst xs => ∃ vs, o = .lst vs ∧ Reps G F xs vs
  | .dic ks ws => ∃ vs, Reps G F ws vs ∧ ((∃ kvs : List (Key × V), o = .dK kvs ∧ ks = kvs.map (fun p => keyD p.1) ∧ vs = kvs.map (·.2)) ∨
      (∃ kvs : List (List Key × V), o = .dT kvs ∧ ks = kvs.map (fun p => D.tup (p.1.map keyD)) ∧ vs = kvs.map (·.2)))
  | .ins c ns ws => ∃ dx vs, o = .ins (G.cls c) dx (ns.zip vs) ∧ ns.length = vs.length ∧ Reps G F ws vs
  | _ => False
theorem Own.mono {G : Gx} {F F' : Hp} (s : Sub F F') {o : HO} {d : D} (h : Own G F o d) : Own G F' o d := by
  cases d with
  | lst xs =>
    obtain ⟨vs, e, r⟩ := h
    exact ⟨vs, e, r.mono s⟩
  | dic ks ws =>
    obtain ⟨vs, r, e⟩ := h
    exact ⟨vs, r.mono s, e⟩
  | ins c ns ws =>
    obtain ⟨dx, vs, e, l, r⟩ := h
    exact ⟨dx, vs, e, l, r.mono s⟩
  | _ => exact h
theorem Own.red {G : Gx} {F H : Hp} {o : HO} {d : D} {a : Addr} (h : Own G F o d) (ha : H a = some o) : Red G F H d (.ref a) := by
  cases d with
  | lst xs =>
    obtain ⟨vs, e, r⟩ := h
    exact ⟨a, vs, rfl, by rw [ha, e], r⟩
  | dic ks ws =>
    obtain ⟨vs, r, ⟨k, e, q⟩ | ⟨k, e, q⟩⟩ := h
    · exact ⟨a, vs, rfl, .inl ⟨k, by rw [ha, e], q⟩, r⟩
    · exact ⟨a, vs, rfl, .inr ⟨k, by rw [ha, e], q⟩, r⟩
  | ins c ns ws =>
    obtain ⟨dx, vs, e, l, r⟩ := h
    exact ⟨a, dx, vs, rfl, by rw [ha, e], l, r⟩
  | _ => exact h.elim
/-- an own object put into the frozen part -/
theorem Own.rep {G : Gx} {F F' : Hp} {o : HO} {d : D} {a : Addr} (h : Own G F o d) (s : Sub F F') (ha : F' a = some o) : Rep G F' d (.ref a) := by
  cases d with
  | lst xs =>
    obtain ⟨vs, e, r⟩ := h
    unfold Rep
    exact ⟨a, vs, rfl, by rw [ha, e], r.mono s⟩
  | dic ks ws =>
    obtain ⟨vs, r, ⟨k, e, q⟩ | ⟨k, e, q⟩⟩ := h
    · unfold Rep
      exact ⟨a, vs, rfl, .inl ⟨k, by rw [ha, e], q⟩, r.mono s⟩
    · unfold Rep
      exact ⟨a, vs, rfl, .inr ⟨k, by rw [ha, e], q⟩, r.mono s⟩
  | ins c ns ws =>
    obtain ⟨dx, vs, e, l, r⟩ := h
    unfold Rep
    exact ⟨a, dx, vs, rfl, by rw [ha, e], l, r.mono s⟩
  | _ => exact h.elim
end VL

set_option maxHeartbeats 200000
/-! The value layer: slots, the relation between a frame and its data, results. -/
namespace VL
open PySem PySem.Spec L2

/-- sh: shared, never changed again; ro: borrowed, only read; ow: the frame's own; me: the object that a method changes -/
inductive Md where
  | sh | ro | ow | me
  deriving DecidableEq
abbrev Slot := Option (Md × D)
abbrev VEnv := List Slot
abbrev OwnM := Nat → Option Addr

/-- what is fixed while a def runs: the heap at its entry (less the object that it may change), its frozen part, that object -/
structure Bx where
  H0 : Hp
  F0 : Hp
  me : Option Addr

def SlotOk (G : Gx) (B : Bx) (F : Hp) (own : OwnM) (H : Hp) (i : Nat) (v : V) : Md × D → Prop
  | (.sh, d) => Rep G F d v
  | (.ro, d) => Red G F B.H0 d v
  | (.ow, d) => ∃ a o, v = .ref a ∧ own i = some a ∧ H a = some o ∧ Own G F o d
  | (.me, d) => ∃ a o, v = .ref a ∧ own i = some a ∧ B.me = some a ∧ H a = some o ∧ Own G F o d

structure Rl (G : Gx) (B : Bx) (F : Hp) (own : OwnM) (σ : St) (H : Hp) (ρ : VEnv) : Prop where
  len : ρ.length = σ.length
  slot : ∀ i p, ρ[i]? = some (some p) → ∃ v, σ[i]? = some (some v) ∧ SlotOk G B F own H i v p
  same : Sub B.H0 H
  fsub : Sub F H
  f0 : Sub B.F0 F
  fnew : ∀ a o, F a = some o → B.F0 a = some o ∨ B.H0 a = none
  ownF : ∀ i a, own i = some a → F a = none
  own0 : ∀ i a, own i = some a → B.H0 a = none
  ownH : ∀ i a, own i = some a → ∃ o, H a = some o
  inj : ∀ i j a, own i = some a → own j = some a → i = j

structure Grow (own own' : OwnM) (H H' F F' : Hp) : Prop where
  keep : ∀ a o, H a = some o → (∀ j, own j ≠ some a) → H' a = some o
  dom : ∀ a o, H a = some o → ∃ o', H' a = some o'
  frz : Sub F F'
  new : ∀ a o, F' a = some o → F a = some o ∨ H a = none ∨ ∃ j, own j = some a
  own : ∀ j a, own' j = some a → own j = some a

theorem Grow.rfl' {own : OwnM} {H F : Hp} : Grow own own H H F F :=
  ⟨fun _ _ h _ => h, fun _ o h => ⟨o, h⟩, Sub.rfl', fun _ _ h => .inl h, fun _ _ h => h⟩
theorem Grow.tr {own own1 own2 : OwnM} {H H1 H2 F F1 F2 : Hp} (a : Grow own own1 H H1 F F1) (b : Grow own1 own2 H1 H2 F1 F2) : Grow own own2 H H2 F F2 where
  keep := fun x o h n => b.keep x o (a.keep x o h n) fun j e => n j (a.own j x e)
  dom := fun x o h => by
    obtain ⟨o1, h1⟩ := a.dom x o h
    exact b.dom x o1 h1
  frz := a.frz.tr b.frz
  new := fun x o h => by
    rcases b.new x o h with h | h | ⟨j, h⟩
    · exact a.new x o h
    · refine .inr (.inl ?_)
      cases e : H x with
      | none => rfl
      | some u =>
        obtain ⟨u', h'⟩ := a.dom x u e
        rw [h] at h'
        cases h'
    · exact .inr (.inr ⟨j, a.own j x h⟩)
  own := fun j x h => a.own j x (b.own j x h)

section
variable {G : Gx} {B : Bx} {F F' : Hp} {own own' : OwnM} {σ : St} {H H' : Hp} {ρ : VEnv}
/-- allocation alone: the heap and the frozen part grow -/
theorem Rl.alloc (R : Rl G B F own σ H ρ) (h : Sub H H') (f : Sub F F') (fh : Sub F' H') (n : ∀ a o, F' a = some o → F a = some o ∨ H a = none) :
    Rl G B F' own σ H' ρ ∧ Grow own own H H' F F' := by
  refine ⟨⟨R.len, fun i p e => ?_, R.same.tr h, fh, R.f0.tr f, fun a o e => ?_, fun i a e => ?_, R.own0, fun i a e => ?_, R.inj⟩, ⟨fun a o e _ => h a o e, fun a o e => ⟨o, h a o e⟩, f, fun a o e => ?_, fun _ _ e => e⟩⟩
  · obtain ⟨v, hv, q⟩ := R.slot i p e
    refine ⟨v, hv, ?_⟩
    obtain ⟨m, d⟩ := p
    cases m with
    | sh => exact Rep.mono f q
    | ro =>
      have q' : Red G F B.H0 d v := q
      show Red G F' B.H0 d v
      cases d with
      | lst xs => obtain ⟨a, vs, e, s, r⟩ := q'; exact ⟨a, vs, e, s, r.mono f⟩
      | dic ks ws => obtain ⟨a, vs, e, s, r⟩ := q'; exact ⟨a, vs, e, s, r.mono f⟩
      | ins c ns ws => obtain ⟨a, dx, vs, e, s, l, r⟩ := q'; exact ⟨a, dx, vs, e, s, l, r.mono f⟩
      | _ => exact Rep.mono f q'
    | ow =>
      obtain ⟨a, o, e1, e2, e3, q⟩ := q
      exact ⟨a, o, e1, e2, h a o e3, q.mono f⟩
    | me =>
      obtain ⟨a, o, e1, e2, e4, e3, q⟩ := q
      exact ⟨a, o, e1, e2, e4, h a o e3, q.mono f⟩
  · rcases n a o e with e | e
    · exact R.fnew a o e
    · refine .inr ?_
      cases q : B.H0 a with
      | none => rfl
      | some u =>
        have := R.same a u q
        rw [e] at this
        cases this
  · cases q : F' a with
    | none => rfl
    | some u =>
      rcases n a u q with z | z
      · rw [R.ownF i a e] at z
        cases z
      · obtain ⟨o, ho⟩ := R.ownH i a e
        rw [z] at ho
        cases ho
  · obtain ⟨o, ho⟩ := R.ownH i a e
    exact ⟨o, h a o ho⟩
  · rcases n a o e with e | e
    · exact .inl e
    · exact .inr (.inl e)
theorem sub_upd {H : Hp} {p : Addr} {o : HO} (h : H p = none) : Sub H (upd H p o) := fun a u e => by
  rw [upd_ne (ne_of_none e h)]
  exact e
/-- one new object, not in the frozen part -/
theorem Rl.fresh {p : Addr} {o : HO} (R : Rl G B F own σ H ρ) (hp : H p = none) : Rl G B F own σ (upd H p o) ρ ∧ Grow own own H (upd H p o) F F :=
  R.alloc (sub_upd hp) Sub.rfl' (R.fsub.tr (sub_upd hp)) fun _ _ e => .inl e
theorem Rl.freeF {p : Addr} (R : Rl G B F own σ H ρ) (hp : H p = none) : F p = none := by
  cases q : F p with
  | none => rfl
  | some u =>
    have := R.fsub p u q
    rw [hp] at this
    cases this
theorem Rl.free0 {p : Addr} (R : Rl G B F own σ H ρ) (hp : H p = none) : B.H0 p = none := by
  cases q : B.H0 p with
  | none => rfl
  | some u =>
    have := R.same p u q
    rw [hp] at this
    cases this
theorem Rl.freeO {p : Addr} (R : Rl G B F own σ H ρ) (hp : H p = none) : ∀ j, own j ≠ some p := fun j e => by
  obtain ⟨o, ho⟩ := R.ownH j p e
  rw [hp] at ho
  cases ho
/-- one new object, in the frozen part too -/
theorem Rl.freshF {p : Addr} {o : HO} (R : Rl G B F own σ H ρ) (hp : H p = none) : Rl G B (upd F p o) own σ (upd H p o) ρ ∧ Grow own own H (upd H p o) F (upd F p o) := by
  have hf := R.freeF hp
  refine R.alloc (sub_upd hp) (sub_upd hf) (fun a u e => ?_) fun a u e => ?_
  · by_cases ha : a = p
    · subst ha
      rw [upd_same] at e ⊢
      exact e
    · rw [upd_ne ha] at e ⊢
      exact R.fsub a u e
  · by_cases ha : a = p
    · subst ha
      exact .inr hp
    · rw [upd_ne ha] at e
      exact .inl e
/-- an own temp (in no slot) is put into the frozen part -/
theorem Rl.freeze {p : Addr} {o : HO} (R : Rl G B F own σ H ρ) (hp : H p = some o) (hf : F p = none) (h0 : B.H0 p = none) (hn : ∀ j, own j ≠ some p) : Rl G B (upd F p o) own σ H ρ := by
  have s : Sub F (upd F p o) := sub_upd hf
  refine ⟨R.len, fun i q e => ?_, R.same, fun a u e => ?_, R.f0.tr s, fun a u e => ?_, fun i a e => ?_, R.own0, R.ownH, R.inj⟩
  · obtain ⟨v, hv, q'⟩ := R.slot i q e
    refine ⟨v, hv, ?_⟩
    obtain ⟨m, d⟩ := q
    cases m with
    | sh => exact Rep.mono s q'
    | ro =>
      have q'' : Red G F B.H0 d v := q'
      show Red G _ B.H0 d v
      cases d with
      | lst xs => obtain ⟨a, vs, e, s', r⟩ := q''; exact ⟨a, vs, e, s', r.mono s⟩
      | dic ks ws => obtain ⟨a, vs, e, s', r⟩ := q''; exact ⟨a, vs, e, s', r.mono s⟩
      | ins c ns ws => obtain ⟨a, dx, vs, e, s', l, r⟩ := q''; exact ⟨a, dx, vs, e, s', l, r.mono s⟩
      | _ => exact Rep.mono s q''
    | ow =>
      obtain ⟨a, o', e1, e2, e3, q⟩ := q'
      exact ⟨a, o', e1, e2, e3, q.mono s⟩
    | me =>
      obtain ⟨a, o', e1, e2, e4, e3, q⟩ := q'
      exact ⟨a, o', e1, e2, e4, e3, q.mono s⟩
  · by_cases ha : a = p
    · subst ha
      rw [upd_same] at e
      rw [hp, ← e]
    · rw [upd_ne ha] at e
      exact R.fsub a u e
  · by_cases ha : a = p
    · subst ha
      exact .inr h0
    · rw [upd_ne ha] at e
      exact R.fnew a u e
  · have ha : a ≠ p := fun z => hn i (z ▸ e)
    rw [upd_ne ha]
    exact R.ownF i a e
/-- slots are forgotten -/
theorem Rl.weak {σ' : St} {ρ' : VEnv} (R : Rl G B F own σ H ρ) (l1 : ρ'.length = σ'.length) (h : ∀ (i : Nat) (p : Md × D), ρ'[i]? = some (some p) → ρ[i]? = some (some p) ∧ σ'[i]? = σ[i]?) : Rl G B F own σ' H ρ' :=
  ⟨l1, fun i p e => by
    obtain ⟨e1, e2⟩ := h i p e
    rw [e2]
    exact R.slot i p e1, R.same, R.fsub, R.f0, R.fnew, R.ownF, R.own0, R.ownH, R.inj⟩
def clr (own : OwnM) (i : Nat) : OwnM := fun j => if j = i then none else own j
theorem clr_some {own : OwnM} {i j : Nat} {a : Addr} (h : clr own i j = some a) : own j = some a ∧ j ≠ i := by
  unfold clr at h
  split at h
  · cases h
  · exact ⟨h, by assumption⟩
theorem clr_ne {own : OwnM} {i j : Nat} (h : j ≠ i) : clr own i j = own j := if_neg h
theorem SlotOk.clr {i j : Nat} {v : V} {p : Md × D} (h : SlotOk G B F own H j v p) (n : j ≠ i) : SlotOk G B F (clr own i) H j v p := by
  obtain ⟨m, d⟩ := p
  cases m with
  | sh => exact h
  | ro => exact h
  | ow =>
    obtain ⟨a, o, e1, e2, e3, q⟩ := h
    exact ⟨a, o, e1, by rw [clr_ne n]; exact e2, e3, q⟩
  | me =>
    obtain ⟨a, o, e1, e2, e4, e3, q⟩ := h
    exact ⟨a, o, e1, by rw [clr_ne n]; exact e2, e4, e3, q⟩
/-- a shared value is stored in slot i -/
theorem Rl.setSh {i : Nat} {v : V} {d : D} (R : Rl G B F own σ H ρ) (r : Rep G F d v) : Rl G B F (clr own i) (σ.set i (some v)) H (ρ.set i (some (.sh, d))) := by
  refine ⟨by rw [List.length_set, List.length_set]; exact R.len, fun j p e => ?_, R.same, R.fsub, R.f0, R.fnew, fun j a e => R.ownF j a (clr_some e).1, fun j a e => R.own0 j a (clr_some e).1,
    fun j a e => R.ownH j a (clr_some e).1, fun j k a e e' => R.inj j k a (clr_some e).1 (clr_some e').1⟩
  by_cases hj : j = i
  · subst hj
    have hl : j < (ρ.set j (some (.sh, d))).length := (List.getElem?_eq_some_iff.mp e).1
    rw [List.length_set] at hl
    rw [List.getElem?_set_self hl] at e
    injection e with e
    injection e with e
    subst e
    exact ⟨v, by rw [List.getElem?_set_self (by rw [← R.len]; exact hl)], r⟩
  · rw [List.getElem?_set_ne (Ne.symm hj)] at e ⊢
    obtain ⟨w, hw, q⟩ := R.slot j p e
    exact ⟨w, hw, q.clr hj⟩
def put (own : OwnM) (i : Nat) (a : Addr) : OwnM := fun j => if j = i then some a else own j
theorem put_ne {own : OwnM} {i j : Nat} {a : Addr} (h : j ≠ i) : put own i a j = own j := if_neg h
theorem put_same {own : OwnM} {i : Nat} {a : Addr} : put own i a i = some a := if_pos rfl
theorem SlotOk.put {i j : Nat} {x : Addr} {v : V} {p : Md × D} (h : SlotOk G B F own H j v p) (n : j ≠ i) : SlotOk G B F (put own i x) H j v p := by
  obtain ⟨m, d⟩ := p
  cases m with
  | sh => exact h
  | ro => exact h
  | ow =>
    obtain ⟨a, o, e1, e2, e3, q⟩ := h
    exact ⟨a, o, e1, by rw [put_ne n]; exact e2, e3, q⟩
  | me =>
    obtain ⟨a, o, e1, e2, e4, e3, q⟩ := h
    exact ⟨a, o, e1, by rw [put_ne n]; exact e2, e4, e3, q⟩
/-- an own object is stored in slot i -/
theorem Rl.setOw {i : Nat} {x : Addr} {o : HO} {d : D} (R : Rl G B F own σ H ρ) (hx : H x = some o) (hf : F x = none) (h0 : B.H0 x = none) (hn : ∀ j, own j ≠ some x) (q : Own G F o d) :
    Rl G B F (put own i x) (σ.set i (some (.ref x))) H (ρ.set i (some (.ow, d))) := by
  have ps : ∀ {j : Nat} {a : Addr}, put own i x j = some a → (j = i ∧ a = x) ∨ (j ≠ i ∧ own j = some a) := fun {j a} e => by
    by_cases hj : j = i
    · subst hj
      rw [put_same] at e
      injection e with e
      exact .inl ⟨rfl, e.symm⟩
    · rw [put_ne hj] at e
      exact .inr ⟨hj, e⟩
  refine ⟨by rw [List.length_set, List.length_set]; exact R.len, fun j p e => ?_, R.same, R.fsub, R.f0, R.fnew, fun j a e => ?_, fun j a e => ?_, fun j a e => ?_, fun j k a e e' => ?_⟩
  · by_cases hj : j = i
    · subst hj
      have hl : j < (ρ.set j (some (.ow, d))).length := (List.getElem?_eq_some_iff.mp e).1
      rw [List.length_set] at hl
      rw [List.getElem?_set_self hl] at e
      injection e with e
      injection e with e
      subst e
      exact ⟨.ref x, by rw [List.getElem?_set_self (by rw [← R.len]; exact hl)], x, o, rfl, put_same, hx, q⟩
    · rw [List.getElem?_set_ne (Ne.symm hj)] at e ⊢
      obtain ⟨w, hw, q⟩ := R.slot j p e
      exact ⟨w, hw, q.put hj⟩
  · rcases ps e with ⟨_, rfl⟩ | ⟨_, e⟩
    · exact hf
    · exact R.ownF j a e
  · rcases ps e with ⟨_, rfl⟩ | ⟨_, e⟩
    · exact h0
    · exact R.own0 j a e
  · rcases ps e with ⟨_, rfl⟩ | ⟨_, e⟩
    · exact ⟨o, hx⟩
    · exact R.ownH j a e
  · rcases ps e with ⟨rfl, rfl⟩ | ⟨n, e⟩
    · rcases ps e' with ⟨h, _⟩ | ⟨_, e'⟩
      · exact h.symm
      · exact absurd e' (hn k)
    · rcases ps e' with ⟨_, e2⟩ | ⟨_, e'⟩
      · rw [e2] at e
        exact absurd e (hn j)
      · exact R.inj j k a e e'
/-- the own object of slot i is put into the frozen part -/
theorem Rl.frzSlot {i : Nat} {a : Addr} {o : HO} {d : D} (R : Rl G B F own σ H ρ) (hs : σ[i]? = some (some (.ref a))) (ho : own i = some a) (ha : H a = some o) (q : Own G F o d) :
    Rl G B (upd F a o) (clr own i) σ H (ρ.set i (some (.sh, d))) ∧ Grow own (clr own i) H H F (upd F a o) ∧ Rep G (upd F a o) d (.ref a) := by
  have hf := R.ownF i a ho
  have s : Sub F (upd F a o) := sub_upd hf
  have rp : Rep G (upd F a o) d (.ref a) := q.rep s upd_same
  have R1 : Rl G B F (clr own i) σ H (ρ.set i none) := by
    refine ⟨by rw [List.length_set]; exact R.len, fun j p e => ?_, R.same, R.fsub, R.f0, R.fnew, fun j b e => R.ownF j b (clr_some e).1, fun j b e => R.own0 j b (clr_some e).1,
      fun j b e => R.ownH j b (clr_some e).1, fun j k b e e' => R.inj j k b (clr_some e).1 (clr_some e').1⟩
    by_cases hj : j = i
    · subst hj
      by_cases hl : j < ρ.length
      · rw [List.getElem?_set_self hl] at e
        injection e with e
        cases e
      · rw [List.getElem?_eq_none (by rw [List.length_set]; omega)] at e
        cases e
    · rw [List.getElem?_set_ne (Ne.symm hj)] at e
      obtain ⟨w, hw, q⟩ := R.slot j p e
      exact ⟨w, hw, q.clr hj⟩
  have R2 := R1.freeze ha hf (R.own0 i a ho) fun j e => (clr_some e).2 (R.inj j i a (clr_some e).1 ho)
  refine ⟨?_, ⟨fun _ _ h _ => h, fun _ o h => ⟨o, h⟩, s, fun b u e => ?_, fun j b e => (clr_some e).1⟩, rp⟩
  · have R3 := R2.setSh (i := i) rp
    have e1 : σ.set i (some (V.ref a)) = σ := by
      apply List.ext_getElem?
      intro j
      by_cases hj : j = i
      · subst hj
        have hl := (List.getElem?_eq_some_iff.mp hs).1
        rw [List.getElem?_set_self hl, hs]
      · rw [List.getElem?_set_ne (Ne.symm hj)]
    have e2 : clr (clr own i) i = clr own i := by
      funext j
      unfold clr
      split <;> rfl
    rw [e1, e2, List.set_set] at R3
    exact R3
  · by_cases hb : b = a
    · subst hb
      exact .inr (.inr ⟨i, ho⟩)
    · rw [upd_ne hb] at e
      exact .inl e
/-- the own object of slot i is written -/
theorem Rl.write {i : Nat} {a : Addr} {o o' : HO} {m : Md} {d d' : D} (R : Rl G B F own σ H ρ) (hm : m = .ow ∨ m = .me) (hi : ρ[i]? = some (some (m, d))) (hs : σ[i]? = some (some (.ref a))) (q : Own G F o' d') :
    own i = some a → Rl G B F own σ (upd H a o') (ρ.set i (some (m, d'))) ∧ Grow own own H (upd H a o') F F := by
  intro ho
  have hf := R.ownF i a ho
  have h0 := R.own0 i a ho
  have ne : ∀ {b : Addr} {u : HO}, F b = some u → b ≠ a := fun {b u} e z => by
    rw [z, hf] at e
    cases e
  have ne0 : ∀ {b : Addr} {u : HO}, B.H0 b = some u → b ≠ a := fun {b u} e z => by
    rw [z, h0] at e
    cases e
  have hli : i < ρ.length := (List.getElem?_eq_some_iff.mp hi).1
  obtain ⟨v0, hv0, q0⟩ := R.slot i _ hi
  refine ⟨⟨by rw [List.length_set]; exact R.len, fun j p e => ?_, fun b u e => ?_, fun b u e => ?_, R.f0, R.fnew, R.ownF, R.own0, fun j b e => ?_, R.inj⟩, ⟨fun b u e n => ?_, fun b u e => ?_, Sub.rfl', fun _ _ e => .inl e, fun _ _ e => e⟩⟩
  · by_cases hj : j = i
    · subst hj
      rw [List.getElem?_set_self hli] at e
      injection e with e
      injection e with e
      subst e
      refine ⟨.ref a, hs, ?_⟩
      rcases hm with rfl | rfl
      · exact ⟨a, o', rfl, ho, upd_same, q⟩
      · obtain ⟨a1, o1, e1, e2, e4, _⟩ := q0
        rw [hs] at hv0
        injection hv0 with hv0
        injection hv0 with hv0
        rw [e1] at hv0
        injection hv0 with hv0
        exact ⟨a, o', rfl, ho, by rw [hv0]; exact e4, upd_same, q⟩
    · rw [List.getElem?_set_ne (Ne.symm hj)] at e
      obtain ⟨w, hw, q1⟩ := R.slot j p e
      refine ⟨w, hw, ?_⟩
      obtain ⟨m1, d1⟩ := p
      cases m1 with
      | sh => exact q1
      | ro => exact q1
      | ow =>
        obtain ⟨b, u, e1, e2, e3, q2⟩ := q1
        exact ⟨b, u, e1, e2, by rw [upd_ne fun z : b = a => hj (R.inj j i a (by rw [← z]; exact e2) ho)]; exact e3, q2⟩
      | me =>
        obtain ⟨b, u, e1, e2, e4, e3, q2⟩ := q1
        exact ⟨b, u, e1, e2, e4, by rw [upd_ne fun z : b = a => hj (R.inj j i a (by rw [← z]; exact e2) ho)]; exact e3, q2⟩
  · rw [upd_ne (ne0 e)]
    exact R.same b u e
  · rw [upd_ne (ne e)]
    exact R.fsub b u e
  · by_cases hb : b = a
    · exact ⟨o', by rw [hb, upd_same]⟩
    · obtain ⟨u, hu⟩ := R.ownH j b e
      exact ⟨u, by rw [upd_ne hb]; exact hu⟩
  · rw [upd_ne fun z : b = a => n i (by rw [z]; exact ho)]
    exact e
  · by_cases hb : b = a
    · exact ⟨o', by rw [hb, upd_same]⟩
    · exact ⟨u, by rw [upd_ne hb]; exact e⟩
end

/-! ### results -/
/-- an exception: its class, its fields -/
structure Xd where
  c : Nat
  ns : List Str
  vs : List D
inductive Res (α : Type) where
  | ok (a : α) (ρ : VEnv)
  | exc (x : Xd) (ρ : VEnv)
  | bad
abbrev M (α : Type) := VEnv → Res α
def Res.bind {α β : Type} (r : Res α) (k : α → M β) : Res β := match r with
  | .ok a ρ => k a ρ
  | .exc x ρ => .exc x ρ
  | .bad => .bad
def M.bind {α β : Type} (m : M α) (k : α → M β) : M β := fun ρ => (m ρ).bind k
def M.pure {α : Type} (a : α) : M α := fun ρ => .ok a ρ
instance : Monad M where
  pure := M.pure
  bind := M.bind
def bad {α : Type} : M α := fun _ => .bad
/-- sh: shared data; tm: a new object of nobody; pk: what slot i holds -/
inductive Rv where
  | sh (d : D) | tm (d : D) | pk (i : Nat)

def RvOk (G : Gx) (B : Bx) (σ : St) (H0 F : Hp) (own : OwnM) (H : Hp) : Rv → V → Prop
  | .sh d, v => Rep G F d v
  | .tm d, v => ∃ a o, v = .ref a ∧ H a = some o ∧ F a = none ∧ (H0 a = none ∧ B.H0 a = none) ∧ (∀ j, own j ≠ some a) ∧ Own G F o d
  | .pk i, v => σ[i]? = some (some v)
/-- what is said of a result: the heap ahead, the frozen part, the own objects, the heap behind -/
structure OkK (α β : Type) where
  p : Hp → Hp → OwnM → Hp → α → β → Prop
  mono : ∀ {H0 H1 F : Hp} {own : OwnM} {H : Hp} {a : α} {b : β}, (∀ x, H1 x = none → H0 x = none) → p H1 F own H a b → p H0 F own H a b
def ExcOk (G : Gx) (F : Hp) (cls : Value) (d : Option Addr) (x : Xd) : Prop := cls = .ref (G.cls x.c) ∧ ∃ vs, XdAt F d x.ns vs ∧ Reps G F x.vs vs
def okRv (G : Gx) (B : Bx) (σ : St) : OkK Rv V := ⟨RvOk G B σ, fun {H0 H1 F own H a b} h k => by
  cases a with
  | sh d => exact k
  | tm d =>
    obtain ⟨a, o, e, h1, h2, h3, h4, h5⟩ := k
    exact ⟨a, o, e, h1, h2, ⟨h a h3.1, h3.2⟩, h4, h5⟩
  | pk i => exact k⟩
def okD (G : Gx) : OkK D V := ⟨fun _ F _ _ d v => Rep G F d v, fun _ k => k⟩
def okB : OkK Bool Bool := ⟨fun _ _ _ _ a b => a = b, fun _ k => k⟩

section
variable (G : Gx) (B : Bx) (W : WX) (σ : St)
def Post {α β : Type} (ok : OkK α β) (own : OwnM) (F H : Hp) (r : Res α) (Q : β → Hp → Prop) : Prop := match r with
  | .ok a ρ => ∀ b H' F' own', Grow own own' H H' F F' → Rl G B F' own' σ H' ρ → ok.p H F' own' H' a b → Q b H'
  | .exc x ρ => ∀ cls d H' F' own', Sub F F' → Rl G B F' own' σ H' ρ → ExcOk G F' cls d x → W cls d σ H'
  | .bad => False
end
def tM (G : Gx) (B : Bx) (W : WX) {α β : Type} (ok : St → OkK α β) (m : M α) : St → Hp → (β → Hp → Prop) → Prop := fun σ H Q =>
  ∃ F own ρ, Rl G B F own σ H ρ ∧ Post G B W σ (ok σ) own F H (m ρ) Q

theorem Grow.back {own own' : OwnM} {H H' F F' : Hp} (g : Grow own own' H H' F F') (x : Addr) (h : H' x = none) : H x = none := by
  cases e : H x with
  | none => rfl
  | some o =>
    obtain ⟨o', h'⟩ := g.dom x o e
    rw [h] at h'
    cases h'

section
variable {G : Gx} {B : Bx} {W : WX} {σ : St} {F F1 F2 H H1 H2 : Hp} {own own1 own2 : OwnM} {ρ : VEnv}
theorem Post.shift {α β : Type} {ok : OkK α β} {r : Res α} {Q : β → Hp → Prop} (p : Post G B W σ ok own F H r Q) (g : Grow own own1 H H1 F F1) : Post G B W σ ok own1 F1 H1 r Q := by
  cases r with
  | ok a ρ => exact fun b H' F' own' g' R k => p b H' F' own' (g.tr g') R (ok.mono g.back k)
  | exc x ρ => exact fun cls d H' F' own' s R k => p cls d H' F' own' (g.frz.tr s) R k
  | bad => exact p
/-- one part of an expression that began at H, from H1 on; then the rest -/
theorem step {α β γ δ : Type} {ok : St → OkK α β} {ok' : OkK γ δ} {m : M α} {k : α → M γ} {Q : δ → Hp → Prop} {K : β → Hp → Prop} (g : Grow own own1 H H1 F F1) (R : Rl G B F1 own1 σ H1 ρ)
    (P : Post G B W σ ok' own F H ((m ρ).bind k) Q)
    (h : ∀ a ρ2 b H2 F2 own2, m ρ = .ok a ρ2 → Grow own own2 H H2 F F2 → Grow own1 own2 H1 H2 F1 F2 → Rl G B F2 own2 σ H2 ρ2 → (ok σ).p H1 F2 own2 H2 a b → Post G B W σ ok' own F H (k a ρ2) Q → K b H2) : tM G B W ok m σ H1 K := by
  refine ⟨F1, own1, ρ, R, ?_⟩
  cases e : m ρ with
  | ok a ρ2 =>
    rw [e] at P
    exact fun b H2 F2 own2 g2 R2 o => h a ρ2 b H2 F2 own2 e (g.tr g2) g2 R2 o P
  | exc x ρ2 =>
    rw [e] at P
    exact fun cls d H' F' own' s R' k => P cls d H' F' own' (g.frz.tr s) R' k
  | bad =>
    rw [e] at P
    exact P
theorem RvOk.grow {H0 : Hp} {r : Rv} {v : V} (k : RvOk G B σ H0 F own H r v) (g : Grow own own1 H H1 F F1) : RvOk G B σ H0 F1 own1 H1 r v := by
  cases r with
  | sh d => exact Rep.mono g.frz k
  | tm d =>
    obtain ⟨a, o, e, h1, h2, h3, h4, h5⟩ := k
    refine ⟨a, o, e, g.keep a o h1 h4, ?_, h3, fun j z => h4 j (g.own j a z), h5.mono g.frz⟩
    cases q : F1 a with
    | none => rfl
    | some u =>
      rcases g.new a u q with z | z | ⟨j, z⟩
      · rw [h2] at z
        cases z
      · rw [h1] at z
        cases z
      · exact absurd z (h4 j)
  | pk i => exact k
theorem Red.mono {H0 : Hp} {d : D} {v : V} (k : Red G F H0 d v) (s : Sub H0 H) (f : Sub F F1) : Red G F1 H d v := by
  cases d with
  | lst xs => obtain ⟨a, vs, e, s', r⟩ := k; exact ⟨a, vs, e, s _ _ s', r.mono f⟩
  | dic ks ws => obtain ⟨a, vs, e, s', r⟩ := k; exact ⟨a, vs, e, s.dic s', r.mono f⟩
  | ins c ns ws => obtain ⟨a, dx, vs, e, s', l, r⟩ := k; exact ⟨a, dx, vs, e, s _ _ s', l, r.mono f⟩
  | _ => exact Rep.mono f k
theorem red_non {v : V} (h : Red G F H .non v) : v = .non := rep_non.mp (show Rep G F .non v from h)
theorem red_bl {v : V} {b : Bool} (h : Red G F H (.bl b) v) : v = .bl b := rep_bl.mp (show Rep G F (.bl b) v from h)
theorem red_int {v : V} {i : Int} (h : Red G F H (.int i) v) : v = .int i := rep_int.mp (show Rep G F (.int i) v from h)
theorem red_str {v : V} {s : List Nat} (h : Red G F H (.str s) v) : v = .str (toS s) := rep_str.mp (show Rep G F (.str s) v from h)
theorem red_tup {v : V} {xs : List D} (h : Red G F H (.tup xs) v) : ∃ a vs, v = .ref a ∧ SqT G.K F a vs ∧ Reps G F xs vs := rep_tup.mp (show Rep G F (.tup xs) v from h)
/-- what a result reads as -/
def rdR (r : Rv) (ρ : VEnv) : Option D := match r with
  | .sh d => some d
  | .tm d => some d
  | .pk i => match ρ[i]? with
    | some (some (_, d)) => some d
    | _ => none
theorem Rl.red {i : Nat} {v : V} {m : Md} {d : D} (R : Rl G B F own σ H ρ) (e : ρ[i]? = some (some (m, d))) (hv : σ[i]? = some (some v)) : Red G F H d v := by
  obtain ⟨w, hw, q⟩ := R.slot i _ e
  rw [hv] at hw
  injection hw with hw
  injection hw with hw
  subst hw
  cases m with
  | sh => exact Rep.red R.fsub q
  | ro => exact Red.mono q R.same Sub.rfl'
  | ow =>
    obtain ⟨a, o, e1, _, e3, q⟩ := q
    rw [e1]
    exact q.red e3
  | me =>
    obtain ⟨a, o, e1, _, _, e3, q⟩ := q
    rw [e1]
    exact q.red e3
theorem RvOk.red {H0 : Hp} {r : Rv} {v : V} {d : D} (k : RvOk G B σ H0 F own H r v) (R : Rl G B F own σ H ρ) (e : rdR r ρ = some d) : Red G F H d v := by
  cases r with
  | sh d' =>
    injection e with e
    subst e
    exact Rep.red R.fsub k
  | tm d' =>
    injection e with e
    subst e
    obtain ⟨a, o, e1, h1, _, _, _, q⟩ := k
    rw [e1]
    exact q.red h1
  | pk i =>
    unfold rdR at e
    dsimp only at e
    split at e
    · rename_i m d' h
      injection e with e
      subst e
      exact R.red h k
    · cases e
/-- a result made shared: a temp is put into the frozen part -/
def shR : Rv → M D
  | .sh d => M.pure d
  | .tm d => M.pure d
  | .pk _ => bad
theorem RvOk.share {r : Rv} {v : V} {Q : V → Hp → Prop} (k : RvOk G B σ H F1 own1 H1 r v) (g : Grow own own1 H H1 F F1) (R : Rl G B F1 own1 σ H1 ρ) (P : Post G B W σ (okD G) own F H (shR r ρ) Q) : Q v H1 := by
  cases r with
  | sh d => exact P v H1 F1 own1 g R k
  | tm d =>
    obtain ⟨a, o, e, h1, h2, h3, h4, h5⟩ := k
    subst e
    exact P _ H1 _ own1 ⟨g.keep, g.dom, g.frz.tr (sub_upd h2), fun b u e => by
      by_cases hb : b = a
      · exact .inr (.inl (by rw [hb]; exact h3.1))
      · rw [upd_ne hb] at e
        exact g.new b u e, g.own⟩ (R.freeze h1 h2 h3.2 h4) (h5.rep (sub_upd h2) upd_same)
  | pk i => exact P.elim
end
end VL

set_option maxHeartbeats 200000
/-! The value layer: expressions. -/
namespace VL
open PySem PySem.Spec L2

theorem pe_imp {X : Cx} {e : Expr} {t t' : TE} (h : PE X e t) (k : ∀ σ H Q, t' σ H Q → t σ H Q) : PE X e t' := ⟨fun pins s σ H Q I q => h.run pins s σ H Q I (k σ H Q q)⟩
theorem pt_imp {X : Cx} {e : Expr} {t t' : TT} (h : PT X e t) (k : ∀ σ H Q, t' σ H Q → t σ H Q) : PT X e t' := ⟨fun pins s σ H Q I q => h.run pins s σ H Q I (k σ H Q q)⟩
theorem pw_imp {X : Cx} {e : Expr} {t t' : TT} (h : PW X e t) (k : ∀ σ H Q, t' σ H Q → t σ H Q) : PW X e t' := ⟨fun wh pins s σ H Q I q => h.run wh pins s σ H Q I (k σ H Q q)⟩
theorem pa_imp {X : Cx} {es : List Expr} {t t' : TA} (h : PA X es t) (k : ∀ σ H Q, t' σ H Q → t σ H Q) : PA X es t' := ⟨fun pos pins s σ H Q I q => h.run pos pins s σ H Q I (k σ H Q q)⟩
theorem ps_imp {X : Cx} {st : Stmt} {t t' : TS} (h : PS X st t) (k : ∀ D σ H, t' D σ H → t D σ H) : PS X st t' := ⟨fun pins s σ H D I q => h.run pins s σ H D I (k D σ H q)⟩
theorem pss_imp {X : Cx} {st : List Stmt} {t t' : TS} (h : PSs X st t) (k : ∀ D σ H, t' D σ H → t D σ H) : PSs X st t' := ⟨fun pins s σ H D I q => h.run pins s σ H D I (k D σ H q)⟩

/-- e gives m's result -/
structure VE (X : Cx) (G : Gx) (W : WX) (e : Expr) (m : M Rv) : Prop where
  run : ∀ B, PE X e (tM G B W (fun σ => okRv G B σ) m)
/-- e, as a test -/
structure VT (X : Cx) (G : Gx) (W : WX) (e : Expr) (m : M Bool) : Prop where
  run : ∀ B, PT X e (tM G B W (fun _ => okB) m)
structure VW (X : Cx) (G : Gx) (W : WX) (e : Expr) (m : M Bool) : Prop where
  run : ∀ B, PW X e (tM G B W (fun _ => okB) m)
/-- e gives shared data -/
structure VV (X : Cx) (G : Gx) (W : WX) (e : Expr) (m : M D) : Prop where
  run : ∀ B, PE X e (tM G B W (fun _ => okD G) m)

section
variable {X : Cx} {G : Gx} {W : WX} {a b c e : Expr} {ma mb mc m : M Rv} {pos : Pos}
theorem VE.vv (h : VE X G W e m) : VV X G W e (m.bind shR) := ⟨fun B => pe_imp (h.run B) fun σ H Q ⟨F, own, ρ, R, P⟩ =>
  step Grow.rfl' R P fun r ρ2 v H2 F2 own2 _ g _ R2 k P2 => RvOk.share k g R2 P2⟩
theorem VV.ve {m : M D} (h : VV X G W e m) : VE X G W e (m.bind fun d => M.pure (.sh d)) := ⟨fun B => pe_imp (h.run B) fun σ H Q ⟨F, own, ρ, R, P⟩ =>
  step Grow.rfl' R P fun d ρ2 v H2 F2 own2 _ g _ R2 k P2 => P2 v H2 F2 own2 g R2 k⟩

/-! ### names, constants -/
def mVar (i : Nat) : M Rv := fun ρ => match ρ[i]? with
  | some (some (.sh, d)) => .ok (.sh d) ρ
  | some (some _) => .ok (.pk i) ρ
  | _ => .bad
/-- what slot i holds, as a value that is shared from now on -/
def mFrz (i : Nat) : M Rv := fun ρ => match ρ[i]? with
  | some (some (.sh, d)) => .ok (.sh d) ρ
  | some (some (.ow, d)) => .ok (.sh d) (ρ.set i (some (.sh, d)))
  | some (some (.ro, _)) => .ok (.pk i) ρ
  | _ => .bad
theorem ve_var {i : Nat} {x : Str} (hN : X.N[i]? = some x) (hv : Vis X.env.scope x) (hd : (x == ("__debug__" : Str)) = false) (hc : (x == ("__classdict__" : Str)) = false) : VE X G W (.Name x pos) (mVar i) := by
  refine ⟨fun B => pe_imp (pe_var hN hv hd hc) fun σ H Q ⟨F, own, ρ, R, P⟩ => ?_⟩
  unfold mVar at P
  split at P
  · rename_i d e
    obtain ⟨v, hv, q⟩ := R.slot i _ e
    exact ⟨v, hv, P v H F own Grow.rfl' R q⟩
  · rename_i p _ e
    obtain ⟨v, hv, q⟩ := R.slot i _ e
    exact ⟨v, hv, P v H F own Grow.rfl' R hv⟩
  · exact P.elim
theorem ve_frz {i : Nat} {x : Str} (hN : X.N[i]? = some x) (hv : Vis X.env.scope x) (hd : (x == ("__debug__" : Str)) = false) (hc : (x == ("__classdict__" : Str)) = false) : VE X G W (.Name x pos) (mFrz i) := by
  refine ⟨fun B => pe_imp (pe_var hN hv hd hc) fun σ H Q ⟨F, own, ρ, R, P⟩ => ?_⟩
  unfold mFrz at P
  split at P
  · rename_i d e
    obtain ⟨v, hv, q⟩ := R.slot i _ e
    exact ⟨v, hv, P v H F own Grow.rfl' R q⟩
  · rename_i d e
    obtain ⟨v, hv, a, o, e1, e2, e3, q⟩ := R.slot i _ e
    subst e1
    obtain ⟨R2, g, r⟩ := R.frzSlot hv e2 e3 q
    exact ⟨_, hv, P _ H _ _ g R2 r⟩
  · rename_i d e
    obtain ⟨v, hv, q⟩ := R.slot i _ e
    exact ⟨v, hv, P v H F own Grow.rfl' R hv⟩
  · exact P.elim
/-- a constant -/
def mCst (d : D) : M Rv := M.pure (.sh d)
theorem ve_cst {d : D} {v : V} (h : PE X e (tC v)) (r : ∀ F, Rep G F d v) : VE X G W e (mCst d) :=
  ⟨fun B => pe_imp h fun σ H Q ⟨F, own, ρ, R, P⟩ => P v H F own Grow.rfl' R (r F)⟩

/-! ### operators -/
/-- what an operator's end wants -/
def Fin (G : Gx) (B : Bx) (σ : St) (F : Hp) (own : OwnM) (H : Hp) (ρ : VEnv) (rv : Rv) (Q : VK) : Prop :=
  ∀ w H' F', Grow own own H H' F F' → Rl G B F' own σ H' ρ → RvOk G B σ H F' own H' rv w → Q w H'
section
variable {B : Bx} {σ : St} {F H : Hp} {own : OwnM} {ρ : VEnv} {Q : VK} {d : D}
theorem Fin.val {w : V} (f : Fin G B σ F own H ρ (.sh d) Q) (R : Rl G B F own σ H ρ) (r : Rep G F d w) : Q w H := f w H F Grow.rfl' R r
theorem Fin.tm {p : Addr} {o : HO} (f : Fin G B σ F own H ρ (.tm d) Q) (R : Rl G B F own σ H ρ) (hp : H p = none) (q : Own G F o d) : Q (.ref p) (upd H p o) := by
  obtain ⟨R2, g⟩ := R.fresh (o := o) hp
  exact f _ _ F g R2 ⟨p, o, rfl, upd_same, R.freeF hp, ⟨hp, R.free0 hp⟩, R.freeO hp, q⟩
theorem Fin.tup {p : Addr} {xs : List D} {vs : List V} (f : Fin G B σ F own H ρ (.sh (.tup xs)) Q) (R : Rl G B F own σ H ρ) (hp : H p = none) (q : Reps G F xs vs) : Q (.ref p) (upd H p (.tup vs)) := by
  obtain ⟨R2, g⟩ := R.freshF (o := .tup vs) hp
  refine f _ _ _ g R2 ?_
  exact rep_tup.mpr ⟨p, vs, rfl, SqT.of upd_same, q.mono g.frz⟩
end
/-- the strongest rule of an operator -/
def rAny (X : Cx) (f : Value → Value → Sem Value) : R2 := fun x y H Q => ∃ r, OpR X f r ∧ r x y H Q
theorem opAny (X : Cx) (f : Value → Value → Sem Value) : OpR X f (rAny X f) := by
  intro pins s σ H x y v u Q I r1 r2 ⟨r, ho, h⟩
  exact ho pins s σ H x y v u Q I r1 r2 h
/-- f2 tells what the operator gives -/
def Op2 (X : Cx) (G : Gx) (f : Value → Value → Sem Value) (f2 : D → D → Option Rv) : Prop :=
  ∀ {B : Bx} {F : Hp} {own : OwnM} {σ : St} {H : Hp} {ρ : VEnv} {v u : V} {a b : D} {rv : Rv} {Q : VK}, Rl G B F own σ H ρ → Red G F H a v → Red G F H b u → f2 a b = some rv → Fin G B σ F own H ρ rv Q → rAny X f v u H Q
def mOp2 (f2 : D → D → Option Rv) (ra rb : Rv) : M Rv := fun ρ => match rdR ra ρ, rdR rb ρ with
  | some a, some b => (match f2 a b with
    | some rv => .ok rv ρ
    | none => .bad)
  | _, _ => .bad
def mBin (f2 : D → D → Option Rv) (ma mb : M Rv) : M Rv := ma.bind fun ra => mb.bind fun rb => mOp2 f2 ra rb
theorem mOp2_ok {f2 : D → D → Option Rv} {ra rb rv : Rv} {ρ ρ' : VEnv} (h : mOp2 f2 ra rb ρ = .ok rv ρ') : ρ' = ρ ∧ ∃ a b, rdR ra ρ = some a ∧ rdR rb ρ = some b ∧ f2 a b = some rv := by
  unfold mOp2 at h
  split at h
  · rename_i a b e1 e2
    split at h
    · rename_i r e3
      injection h with h1 h2
      subst h1 h2
      exact ⟨rfl, a, b, e1, e2, e3⟩
    · cases h
  · cases h
theorem mOp2_exc {f2 : D → D → Option Rv} {ra rb : Rv} {ρ ρ' : VEnv} {x : Xd} (h : mOp2 f2 ra rb ρ = .exc x ρ') : False := by
  unfold mOp2 at h
  split at h
  · split at h <;> cases h
  · cases h
theorem bin_go {f : Value → Value → Sem Value} {f2 : D → D → Option Rv} (o : Op2 X G f f2) {B : Bx} {σ : St} {H : Hp} {Q : VK} (h : tM G B W (fun σ => okRv G B σ) (mBin f2 ma mb) σ H Q) :
    tM G B W (fun σ => okRv G B σ) ma σ H fun x H1 => tM G B W (fun σ => okRv G B σ) mb σ H1 fun y H2 => rAny X f x y H2 Q := by
  obtain ⟨F, own, ρ, R, P⟩ := h
  refine step Grow.rfl' R P fun ra ρ1 v H1 F1 own1 _ g1 _ R1 k1 P1 => ?_
  refine step g1 R1 P1 fun rb ρ2 u H2 F2 own2 _ g2 g12 R2 k2 P2 => ?_
  cases e : mOp2 f2 ra rb ρ2 with
  | ok rv ρ3 =>
    rw [e] at P2
    obtain ⟨rfl, x, y, e1, e2, e3⟩ := mOp2_ok e
    have k1' := k1.grow g12
    refine o R2 (k1'.red R2 e1) (k2.red R2 e2) e3 fun w H3 F3 g3 R3 k3 => ?_
    exact P2 w H3 F3 own2 (g2.tr g3) R3 ((okRv G B σ).mono g2.back k3)
  | exc x ρ3 => exact (mOp2_exc e).elim
  | bad =>
    rw [e] at P2
    exact P2.elim
theorem ve_bop {op : Operator} {f2 : D → D → Option Rv} (o : Op2 X G (binaryOp op) f2) (ha : VE X G W a ma) (hb : VE X G W b mb) : VE X G W (.BinOp a op b pos) (mBin f2 ma mb) :=
  ⟨fun B => pe_imp (pe_op (opAny X _) (ha.run B) (hb.run B)) fun σ H Q h => bin_go o h⟩
theorem ve_cmp {op : CmpOp} {f2 : D → D → Option Rv} (o : Op2 X G (compareOp op) f2) (ha : VE X G W a ma) (hb : VE X G W b mb) (hm : behindInMarks op b = false) : VE X G W (.Compare a [op] [b] pos) (mBin f2 ma mb) :=
  ⟨fun B => pe_imp (pe_cmpR (opAny X _) (ha.run B) (hb.run B) hm) fun σ H Q h => bin_go o h⟩
/-- a result that is a truth value -/
def asB : Rv → M Bool
  | .sh (.bl b) => M.pure b
  | _ => bad
theorem vt_cmp {op : CmpOp} {f2 : D → D → Option Rv} (o : Op2 X G (compareOp op) f2) (ha : VE X G W a ma) (hb : VE X G W b mb) (hm : behindInMarks op b = false) : VT X G W (.Compare a [op] [b] pos) ((mBin f2 ma mb).bind asB) := by
  refine ⟨fun B => pt_imp (pt_cmpR (opAny X _) (ha.run B) (hb.run B) hm) fun σ H Q ⟨F, own, ρ, R, P⟩ => ?_⟩
  refine bin_go o (step (k := asB) Grow.rfl' R P fun r ρ2 v H2 F2 own2 _ g _ R2 k P2 => ?_)
  cases r with
  | sh d =>
    cases d with
    | bl b =>
      refine ⟨b, rep_bl.mp (show Rep G F2 (.bl b) v from k), ?_⟩
      exact P2 b H2 F2 own2 g R2 rfl
    | _ => exact P2.elim
  | _ => exact P2.elim
/-- a value that is True or False, as a test -/
theorem vt_val (ha : VE X G W a ma) (he : ∀ whole, isTrue a X.env whole = (do let v ← whole; standAt a.pos; holding [v] (truthy v))) : VT X G W a (ma.bind asB) := by
  refine ⟨fun B => pt_imp (L2.pt_val (ha.run B) he) fun σ H Q ⟨F, own, ρ, R, P⟩ => ?_⟩
  refine step (k := asB) Grow.rfl' R P fun r ρ2 v H2 F2 own2 _ g _ R2 k P2 => ?_
  cases r with
  | sh d =>
    cases d with
    | bl b =>
      refine ⟨b, rep_bl.mp (show Rep G F2 (.bl b) v from k), ?_⟩
      exact P2 b H2 F2 own2 g R2 rfl
    | _ => exact P2.elim
  | _ => exact P2.elim
end
end VL

set_option maxHeartbeats 200000
/-! The value layer: tests, displays, subscripts, slices, calls of built-ins. -/
namespace VL
open PySem PySem.Spec L2

def lim : Nat := 1000000
theorem lim_ok {n : Nat} (h : n ≤ lim) : n ≤ sizeLine := by
  rw [sizeLine_eq]
  unfold lim at h
  omega
section
variable {X : Cx} {G : Gx} {W : WX} {a b c e : Expr} {es rest : List Expr} {ma mb mc m : M Rv} {pos : Pos}
/-! ### tests -/
def truthD : D → Option Bool
  | .non => some false
  | .bl b => some b
  | .int i => some (i != 0)
  | .str s => if s.length ≤ lim then some (!s.isEmpty) else none
  | .lst xs => some (!xs.isEmpty)
  | .tup xs => some (!xs.isEmpty)
  | _ => none
def mTruth (r : Rv) : M Bool := fun ρ => match rdR r ρ with
  | some d => (match truthD d with
    | some b => .ok b ρ
    | none => .bad)
  | none => .bad
theorem reps_empty {G : Gx} {F : Hp} {xs : List D} {vs : List V} (h : Reps G F xs vs) : vs.isEmpty = xs.isEmpty := by
  have := h.len
  cases xs <;> cases vs <;> simp_all
theorem truth_ok {F H : Hp} {d : D} {v : V} {k : Bool} (hK : G.K = X.K) (h : Red G F H d v) (f : Sub F H) (e : truthD d = some k) : TruV X.K v H k := by
  cases d with
  | non =>
    rw [red_non h]
    injection e with e
    exact e.symm
  | bl b =>
    rw [red_bl h]
    injection e with e
    exact e.symm
  | int i =>
    rw [red_int h]
    injection e with e
    exact e.symm
  | str s =>
    rw [red_str h]
    change (if s.length ≤ lim then some (!s.isEmpty) else none) = some k at e
    split at e
    · rename_i hl
      injection e with e
      subst e
      refine ⟨by show s.toArray.size ≤ _; simpa using lim_ok hl, ?_⟩
      cases s with
      | nil => rfl
      | cons x r =>
        show true = (((x :: r).toArray.size : Int) != 0)
        simp
        omega
    · cases e
  | lst xs =>
    obtain ⟨a, vs, e1, q, r⟩ := h
    subst e1
    injection e with e
    subst e
    exact .inl ⟨vs, SqL.of q, by rw [reps_empty r]⟩
  | tup xs =>
    obtain ⟨a, vs, e1, q, r⟩ := red_tup h
    subst e1
    injection e with e
    subst e
    exact .inr (.inl ⟨vs, hK ▸ f.sqT q, by rw [reps_empty r]⟩)
  | _ => cases e
theorem vt_truth (hK : G.K = X.K) (ha : VE X G W a ma) (he : ∀ whole, isTrue a X.env whole = (do let v ← whole; standAt a.pos; holding [v] (truthy v))) : VT X G W a (ma.bind mTruth) := by
  refine ⟨fun B => pt_imp (L2.pt_truth (ha.run B) he) fun σ H Q ⟨F, own, ρ, R, P⟩ => ?_⟩
  refine step (k := mTruth) Grow.rfl' R P fun r ρ2 v H2 F2 own2 _ g _ R2 k P2 => ?_
  unfold mTruth at P2
  split at P2
  · rename_i d e1
    split at P2
    · rename_i t e2
      exact ⟨t, truth_ok hK (k.red R2 e1) R2.fsub e2, P2 t H2 F2 own2 g R2 rfl⟩
    · exact P2.elim
  · exact P2.elim
theorem VW.vt (h : VW X G W e mc') : VT X G W e mc' := ⟨fun B => (h.run B).pt⟩
variable {ta tb tc : M Bool}
theorem vw_and1 (ha : VT X G W a ta) : VW X G W (.BoolOp .And [a] pos) ta := ⟨fun B => L2.pw_and1 (ha.run B)⟩
theorem vw_or1 (ha : VT X G W a ta) : VW X G W (.BoolOp .Or [a] pos) ta := ⟨fun B => L2.pw_or1 (ha.run B)⟩
def mAnd (ta tb : M Bool) : M Bool := ta.bind fun c => match c with
  | true => tb
  | false => M.pure false
def mOr (ta tb : M Bool) : M Bool := ta.bind fun c => match c with
  | true => M.pure true
  | false => tb
theorem vw_and (ha : VT X G W a ta) (hb : VW X G W (.BoolOp .And (b :: rest) pos) tb) : VW X G W (.BoolOp .And (a :: b :: rest) pos) (mAnd ta tb) := by
  refine ⟨fun B => pw_imp (L2.pw_and (ha.run B) (hb.run B)) fun σ H Q ⟨F, own, ρ, R, P⟩ => ?_⟩
  refine step Grow.rfl' R P fun r ρ2 v H2 F2 own2 _ g _ R2 k P2 => ?_
  have k : r = v := k
  subst k
  cases r with
  | true => exact ⟨F2, own2, ρ2, R2, P2.shift g⟩
  | false => exact P2 false H2 F2 own2 g R2 rfl
theorem vw_or (ha : VT X G W a ta) (hb : VW X G W (.BoolOp .Or (b :: rest) pos) tb) : VW X G W (.BoolOp .Or (a :: b :: rest) pos) (mOr ta tb) := by
  refine ⟨fun B => pw_imp (L2.pw_or (ha.run B) (hb.run B)) fun σ H Q ⟨F, own, ρ, R, P⟩ => ?_⟩
  refine step Grow.rfl' R P fun r ρ2 v H2 F2 own2 _ g _ R2 k P2 => ?_
  have k : r = v := k
  subst k
  cases r with
  | true => exact P2 true H2 F2 own2 g R2 rfl
  | false => exact ⟨F2, own2, ρ2, R2, P2.shift g⟩
def mNot (ta : M Bool) : M Bool := ta.bind fun c => M.pure (!c)
theorem vt_not (ha : VT X G W a ta) : VT X G W (.UnaryOp .Not a pos) (mNot ta) := by
  refine ⟨fun B => pt_imp (L2.pt_not (ha.run B)) fun σ H Q ⟨F, own, ρ, R, P⟩ => ?_⟩
  refine step Grow.rfl' R P fun r ρ2 v H2 F2 own2 _ g _ R2 k P2 => ?_
  have k : r = v := k
  subst k
  exact P2 _ H2 F2 own2 g R2 rfl
/-! ### .. as values -/
def mB (t : M Bool) : M Rv := t.bind fun c => M.pure (.sh (.bl c))
def mAndV (ma mb : M Rv) : M Rv := (ma.bind asB).bind fun c => match c with
  | true => mb
  | false => M.pure (.sh (.bl false))
def mOrV (ma mb : M Rv) : M Rv := (ma.bind asB).bind fun c => match c with
  | true => M.pure (.sh (.bl true))
  | false => mb
theorem M.bind_assoc {α β γ : Type} (m : M α) (f : α → M β) (g : β → M γ) : (m.bind f).bind g = m.bind fun a => (f a).bind g := by
  funext ρ
  unfold M.bind Res.bind
  cases m ρ <;> rfl
/-- a value that is True or False -/
theorem step_bool {B : Bx} {σ : St} {F F1 H H1 : Hp} {own own1 : OwnM} {ρ : VEnv} {γ δ : Type} {ok' : OkK γ δ} {k : Bool → M γ} {Q : δ → Hp → Prop} {K : V → Hp → Prop} (g : Grow own own1 H H1 F F1) (R : Rl G B F1 own1 σ H1 ρ)
    (P : Post G B W σ ok' own F H (((ma.bind asB).bind k) ρ) Q)
    (h : ∀ c ρ2 H2 F2 own2, Grow own own2 H H2 F F2 → Grow own1 own2 H1 H2 F1 F2 → Rl G B F2 own2 σ H2 ρ2 → Post G B W σ ok' own F H (k c ρ2) Q → K (.bl c) H2) : tM G B W (fun σ => okRv G B σ) ma σ H1 K := by
  rw [M.bind_assoc] at P
  refine step (k := fun a => (asB a).bind k) g R P fun r ρ2 v H2 F2 own2 _ g2 g12 R2 q P2 => ?_
  cases r with
  | sh d =>
    cases d with
    | bl b =>
      have e : v = .bl b := rep_bl.mp (show Rep G F2 (.bl b) v from q)
      subst e
      exact h b ρ2 H2 F2 own2 g2 g12 R2 P2
    | _ => exact P2.elim
  | _ => exact P2.elim
theorem ve_one {op : BoolOp} (h : VE X G W a ma) : VE X G W (.BoolOp op [a] pos) ma := ⟨fun B => L2.pe_one (h.run B)⟩
theorem ve_and (ha : VE X G W a ma) (hb : VE X G W (.BoolOp .And (b :: rest) pos) mb) : VE X G W (.BoolOp .And (a :: b :: rest) pos) (mAndV ma mb) := by
  refine ⟨fun B => pe_imp (L2.pe_and (ha.run B) (hb.run B)) fun σ H Q ⟨F, own, ρ, R, P⟩ => ?_⟩
  refine step_bool Grow.rfl' R P fun c ρ2 H2 F2 own2 g _ R2 P2 => ⟨c, rfl, ?_⟩
  cases c with
  | true => exact ⟨F2, own2, ρ2, R2, P2.shift g⟩
  | false => exact P2 _ H2 F2 own2 g R2 (show Rep G F2 (.bl _) _ from rep_bl.mpr rfl)
theorem ve_or (ha : VE X G W a ma) (hb : VE X G W (.BoolOp .Or (b :: rest) pos) mb) : VE X G W (.BoolOp .Or (a :: b :: rest) pos) (mOrV ma mb) := by
  refine ⟨fun B => pe_imp (L2.pe_or (ha.run B) (hb.run B)) fun σ H Q ⟨F, own, ρ, R, P⟩ => ?_⟩
  refine step_bool Grow.rfl' R P fun c ρ2 H2 F2 own2 g _ R2 P2 => ⟨c, rfl, ?_⟩
  cases c with
  | true => exact P2 _ H2 F2 own2 g R2 (show Rep G F2 (.bl _) _ from rep_bl.mpr rfl)
  | false => exact ⟨F2, own2, ρ2, R2, P2.shift g⟩
def mNotV (ma : M Rv) : M Rv := (ma.bind asB).bind fun c => M.pure (.sh (.bl (!c)))
theorem ve_not (ha : VE X G W a ma) : VE X G W (.UnaryOp .Not a pos) (mNotV ma) := by
  refine ⟨fun B => pe_imp (L2.pe_not (ha.run B)) fun σ H Q ⟨F, own, ρ, R, P⟩ => ?_⟩
  exact step_bool Grow.rfl' R P fun c ρ2 H2 F2 own2 g _ R2 P2 => ⟨c, rfl, P2 _ H2 F2 own2 g R2 (show Rep G F2 (.bl _) _ from rep_bl.mpr rfl)⟩
def mIf {α : Type} (t : M Bool) (ma mb : M α) : M α := t.bind fun c => match c with
  | true => ma
  | false => mb
theorem ve_ifExp (hc : VT X G W c tc) (ha : VE X G W a ma) (hb : VE X G W b mb) : VE X G W (.IfExp c a b pos) (mIf tc ma mb) := by
  refine ⟨fun B => pe_imp (L2.pe_ifExp (hc.run B) (ha.run B) (hb.run B)) fun σ H Q ⟨F, own, ρ, R, P⟩ => ?_⟩
  refine step Grow.rfl' R P fun r ρ2 v H2 F2 own2 _ g _ R2 k P2 => ?_
  have k : r = v := k
  subst k
  cases r with
  | true => exact ⟨F2, own2, ρ2, R2, P2.shift g⟩
  | false => exact ⟨F2, own2, ρ2, R2, P2.shift g⟩

/-! ### several expressions -/
def RvsOk (G : Gx) (B : Bx) (σ : St) (H0 F : Hp) (own : OwnM) (H : Hp) : List Rv → List V → Prop
  | [], vs => vs = []
  | r :: rs, vs => ∃ v ws, vs = v :: ws ∧ RvOk G B σ H0 F own H r v ∧ RvsOk G B σ H0 F own H rs ws
theorem RvsOk.back {G : Gx} {B : Bx} {σ : St} {H0 H1 F : Hp} {own : OwnM} {H : Hp} (h : ∀ x, H1 x = none → H0 x = none) : ∀ {rs : List Rv} {vs : List V}, RvsOk G B σ H1 F own H rs vs → RvsOk G B σ H0 F own H rs vs
  | [], _, k => k
  | r :: rs, _, k => by
    obtain ⟨v, ws, e, k1, k2⟩ := k
    exact ⟨v, ws, e, (okRv G B σ).mono h k1, RvsOk.back h k2⟩
def okRvs (G : Gx) (B : Bx) (σ : St) : OkK (List Rv) (List V) := ⟨RvsOk G B σ, fun h k => RvsOk.back h k⟩
structure VA (X : Cx) (G : Gx) (W : WX) (es : List Expr) (m : M (List Rv)) : Prop where
  run : ∀ B, PA X es (tM G B W (fun σ => okRvs G B σ) m)
theorem va_nil : VA X G W [] (M.pure []) := ⟨fun B => pa_imp L2.pa_nil fun σ H Q ⟨F, own, ρ, R, P⟩ => P [] H F own Grow.rfl' R rfl⟩
def mCons (ma : M Rv) (ms : M (List Rv)) : M (List Rv) := ma.bind fun r => ms.bind fun rs => M.pure (r :: rs)
theorem va_cons {ms : M (List Rv)} (ha : VE X G W e ma) (hr : VA X G W es ms) (hs : starEach (e :: es) X.env = (false, eval e X.env) :: starEach es X.env) : VA X G W (e :: es) (mCons ma ms) := by
  refine ⟨fun B => pa_imp (L2.pa_cons (ha.run B) (hr.run B) hs) fun σ H Q ⟨F, own, ρ, R, P⟩ => ?_⟩
  refine step Grow.rfl' R P fun r ρ1 v H1 F1 own1 _ g1 _ R1 k1 P1 => ?_
  refine step g1 R1 P1 fun rs ρ2 vs H2 F2 own2 _ g2 g12 R2 k2 P2 => ?_
  exact P2 (v :: vs) H2 F2 own2 g2 R2 ⟨v, vs, rfl, k1.grow g12, RvsOk.back g1.back k2⟩
/-- what several results read as -/
def rdRs : List Rv → VEnv → Option (List D)
  | [], _ => some []
  | r :: rs, ρ => match rdR r ρ, rdRs rs ρ with
    | some d, some ds => some (d :: ds)
    | _, _ => none
/-- all of them made shared -/
def shRs : List Rv → M (List D)
  | [] => M.pure []
  | r :: rs => (shR r).bind fun d => (shRs rs).bind fun ds => M.pure (d :: ds)
structure VAs (X : Cx) (G : Gx) (W : WX) (es : List Expr) (m : M (List D)) : Prop where
  run : ∀ B, PA X es (tM G B W (fun _ => ⟨fun _ F _ _ ds vs => Reps G F ds vs, fun _ k => k⟩) m)
theorem vas_nil : VAs X G W [] (M.pure []) := ⟨fun B => pa_imp L2.pa_nil fun σ H Q ⟨F, own, ρ, R, P⟩ => P [] H F own Grow.rfl' R (show Reps G F [] [] from reps_nil.mpr rfl)⟩
def mConsD (ma : M D) (ms : M (List D)) : M (List D) := ma.bind fun r => ms.bind fun rs => M.pure (r :: rs)
theorem vas_cons {m : M D} {ms : M (List D)} (ha : VV X G W e m) (hr : VAs X G W es ms) (hs : starEach (e :: es) X.env = (false, eval e X.env) :: starEach es X.env) : VAs X G W (e :: es) (mConsD m ms) := by
  refine ⟨fun B => pa_imp (L2.pa_cons (ha.run B) (hr.run B) hs) fun σ H Q ⟨F, own, ρ, R, P⟩ => ?_⟩
  refine step Grow.rfl' R P fun d ρ1 v H1 F1 own1 _ g1 _ R1 k1 P1 => ?_
  refine step g1 R1 P1 fun ds ρ2 vs H2 F2 own2 _ g2 g12 R2 k2 P2 => ?_
  exact P2 (v :: vs) H2 F2 own2 g2 R2 (show Reps G F2 (d :: ds) (v :: vs) from reps_cons.mpr ⟨Rep.mono g12.frz k1, k2⟩)
/-! ### displays -/
def mTup (ms : M (List D)) : M Rv := ms.bind fun ds => if ds.length ≤ lim then M.pure (.sh (.tup ds)) else bad
def mLst (ms : M (List D)) : M Rv := ms.bind fun ds => if ds.length ≤ lim then M.pure (.tm (.lst ds)) else bad
theorem ve_tup {k : Nat} {ms : M (List D)} (h : VAs X G W es ms) : VE X G W (.Tuple es k pos) (mTup ms) := by
  refine ⟨fun B => pe_imp (L2.pe_tup (h.run B)) fun σ H Q ⟨F, own, ρ, R, P⟩ => ?_⟩
  refine step (k := fun ds => if ds.length ≤ lim then M.pure (Rv.sh (.tup ds)) else bad) Grow.rfl' R P fun ds ρ2 vs H2 F2 own2 _ g _ R2 q P2 => ?_
  have q : Reps G F2 ds vs := q
  dsimp only at P2
  split at P2
  · rename_i hl
    refine ⟨lim_ok (by rw [← q.len]; exact hl), fun p hp => ?_⟩
    exact Fin.tup (fun w H' F' g' R' k' => P2 w H' F' own2 (g.tr g') R' ((okRv G B σ).mono g.back k')) R2 hp q
  · exact P2.elim
theorem ve_lst {ms : M (List D)} (h : VAs X G W es ms) : VE X G W (.List es pos) (mLst ms) := by
  refine ⟨fun B => pe_imp (L2.pe_lst (h.run B)) fun σ H Q ⟨F, own, ρ, R, P⟩ => ?_⟩
  refine step (k := fun ds => if ds.length ≤ lim then M.pure (Rv.tm (.lst ds)) else bad) Grow.rfl' R P fun ds ρ2 vs H2 F2 own2 _ g _ R2 q P2 => ?_
  have q : Reps G F2 ds vs := q
  dsimp only at P2
  split at P2
  · rename_i hl
    refine ⟨lim_ok (by rw [← q.len]; exact hl), fun p hp => ?_⟩
    exact Fin.tm (fun w H' F' g' R' k' => P2 w H' F' own2 (g.tr g') R' ((okRv G B σ).mono g.back k')) R2 hp ⟨vs, rfl, q⟩
  · exact P2.elim
/-! ### subscripts -/
def rIxAny (X : Cx) : R2 := fun x y H Q => ∃ r, IxR X r ∧ r x y H Q
theorem ixAny (X : Cx) : IxR X (rIxAny X) := by
  intro value slice pins s σ H x y v u Q I r1 r2 ⟨r, ho, h⟩ hs
  exact ho value slice pins s σ H x y v u Q I r1 r2 h hs
def ixD (a b : D) : Option Rv := match a, b with
  | .lst xs, .int i => (atI xs i).map Rv.sh
  | .tup xs, .int i => (atI xs i).map Rv.sh
  | .str s, .int i => if s.length ≤ lim then (atI s i).map fun c => .sh (.str [c]) else none
  | _, _ => none
theorem atI_reps {F : Hp} {xs : List D} {vs : List V} {i : Int} {d : D} (h : Reps G F xs vs) (e : atI xs i = some d) : ∃ v, atI vs i = some v ∧ Rep G F d v := by
  unfold atI at e ⊢
  rw [← h.len]
  cases q : ixN xs.length i with
  | none =>
    rw [q] at e
    cases e
  | some j =>
    rw [q] at e
    exact h.get' e
theorem ix_go (hK : G.K = X.K) {B : Bx} {F : Hp} {own : OwnM} {σ : St} {H : Hp} {ρ : VEnv} {v u : V} {a b : D} {rv : Rv} {Q : VK} (R : Rl G B F own σ H ρ) (ra : Red G F H a v) (rb : Red G F H b u) (e : ixD a b = some rv)
    (f : Fin G B σ F own H ρ rv Q) : rIxAny X v u H Q := by
  unfold ixD at e
  split at e
  · rename_i xs i
    obtain ⟨p, vs, rfl, h, r⟩ := ra
    have eu : u = .int i := red_int rb
    cases q : atI xs i with
    | none =>
      rw [q] at e
      cases e
    | some d =>
      rw [q] at e
      injection e with e
      subst e
      obtain ⟨w, h1, h2⟩ := atI_reps r q
      exact ⟨_, ix_list, p, vs, i, w, rfl, eu, SqL.of h, h1, f.val R h2⟩
  · rename_i xs i
    obtain ⟨p, vs, rfl, h, r⟩ := red_tup ra
    have eu : u = .int i := red_int rb
    cases q : atI xs i with
    | none =>
      rw [q] at e
      cases e
    | some d =>
      rw [q] at e
      injection e with e
      subst e
      obtain ⟨w, h1, h2⟩ := atI_reps r q
      exact ⟨_, ix_tup, p, vs, i, w, rfl, eu, hK ▸ R.fsub.sqT h, h1, f.val R h2⟩
  · rename_i s i
    have ev : v = .str (toS s) := red_str ra
    have eu : u = .int i := red_int rb
    split at e
    · rename_i hl
      cases q : atI s i with
      | none =>
        rw [q] at e
        cases e
      | some c =>
        rw [q] at e
        injection e with e
        subst e
        exact ⟨_, ix_str, toS s, i, c, ev, eu, by show s.toArray.size ≤ _; simpa using lim_ok hl, by simpa using q, f.val R (rep_str.mpr rfl)⟩
    · cases e
  · cases e
theorem ve_ix (hK : G.K = X.K) (ha : VE X G W a ma) (hb : VE X G W b mb) (hs : PlainIx b) : VE X G W (.Subscript a b pos) (mBin ixD ma mb) := by
  refine ⟨fun B => pe_imp (L2.pe_ix (ixAny X) (ha.run B) (hb.run B) hs) fun σ H Q ⟨F, own, ρ, R, P⟩ => ?_⟩
  refine step Grow.rfl' R P fun ra ρ1 v H1 F1 own1 _ g1 _ R1 k1 P1 => ?_
  refine step g1 R1 P1 fun rb ρ2 u H2 F2 own2 _ g2 g12 R2 k2 P2 => ?_
  cases e : mOp2 ixD ra rb ρ2 with
  | ok rv ρ3 =>
    rw [e] at P2
    obtain ⟨rfl, x, y, e1, e2, e3⟩ := mOp2_ok e
    refine ix_go hK R2 ((k1.grow g12).red R2 e1) (k2.red R2 e2) e3 fun w H3 F3 g3 R3 k3 => ?_
    exact P2 w H3 F3 own2 (g2.tr g3) R3 ((okRv G B σ).mono g2.back k3)
  | exc x ρ3 => exact (mOp2_exc e).elim
  | bad =>
    rw [e] at P2
    exact P2.elim
end
end VL

set_option maxHeartbeats 200000
/-! The value layer: what the operators give. -/
namespace VL
open PySem PySem.Spec L2

section
variable {X : Cx} {G : Gx}
/-! ### data as the library's data -/
mutual
def toPy : D → Option PyData
  | .non => some .none
  | .bl b => some (.bool b)
  | .int i => some (.int i)
  | .str s => some (.str (toS s))
  | .lst xs => (toPys xs).map .list
  | .tup xs => (toPys xs).map .tuple
  | _ => none
def toPys : List D → Option (List PyData)
  | [] => some []
  | d :: ds => match toPy d, toPys ds with
    | some p, some ps => some (p :: ps)
    | _, _ => none
end
theorem Sub.dp {F H : Hp} (s : Sub F H) {K : PySem.W.Frag} {v : V} {p : PyData} (h : Dp K F v p) : Dp K H v p := by
  refine Dp.rec (motive_1 := fun v p _ => Dp K H v p) (motive_2 := fun vs ps _ => DpAll K H vs ps) ?_ ?_ ?_ ?_ ?_ ?_ ?_ ?_ h
  · exact .non
  · exact fun b => .bl b
  · exact fun i => .int i
  · exact fun x => .str x
  · exact fun q _ ih => .lst (s.sqL q) ih
  · exact fun q _ ih => .tup (s.sqT q) ih
  · exact .nil
  · exact fun _ _ i1 i2 => .cons i1 i2
theorem Sub.dpAll {F H : Hp} (s : Sub F H) {K : PySem.W.Frag} : ∀ {vs : List V} {ps : List PyData}, DpAll K F vs ps → DpAll K H vs ps
  | _, _, .nil => .nil
  | _, _, .cons h t => .cons (s.dp h) (s.dpAll t)
mutual
theorem Rep.dp {F : Hp} : ∀ {d : D} {v : V} {p : PyData}, Rep G F d v → toPy d = some p → Dp G.K F v p
  | .non, v, p, h, e => by
    rw [rep_non.mp h]
    injection e with e
    subst e
    exact .non
  | .bl b, v, p, h, e => by
    rw [rep_bl.mp h]
    injection e with e
    subst e
    exact .bl b
  | .int i, v, p, h, e => by
    rw [rep_int.mp h]
    injection e with e
    subst e
    exact .int i
  | .str s, v, p, h, e => by
    rw [rep_str.mp h]
    injection e with e
    subst e
    exact .str _
  | .lst xs, v, p, h, e => by
    obtain ⟨a, vs, rfl, q, r⟩ := rep_lst.mp h
    change (toPys xs).map PyData.list = some p at e
    cases z : toPys xs with
    | none =>
      rw [z] at e
      cases e
    | some ps =>
      rw [z] at e
      injection e with e
      subst e
      exact .lst (SqL.of q) (Reps.dp r z)
  | .tup xs, v, p, h, e => by
    obtain ⟨a, vs, rfl, q, r⟩ := rep_tup.mp h
    change (toPys xs).map PyData.tuple = some p at e
    cases z : toPys xs with
    | none =>
      rw [z] at e
      cases e
    | some ps =>
      rw [z] at e
      injection e with e
      subst e
      exact .tup q (Reps.dp r z)
  | .scr _, v, p, h, e => by cases e
  | .dic _ _, v, p, h, e => by cases e
  | .ins _ _ _, v, p, h, e => by cases e
  | .exc _ _ _, v, p, h, e => by cases e
theorem Reps.dp {F : Hp} : ∀ {ds : List D} {vs : List V} {ps : List PyData}, Reps G F ds vs → toPys ds = some ps → DpAll G.K F vs ps
  | [], vs, ps, h, e => by
    rw [reps_nil.mp h]
    injection e with e
    subst e
    exact .nil
  | d :: ds, [], ps, h, e => by
    have := h.len
    simp at this
  | d :: ds, v :: vs, ps, h, e => by
    change (match toPy d, toPys ds with
      | some p, some ps => some (p :: ps)
      | _, _ => none) = some ps at e
    split at e
    · rename_i p qs e1 e2
      injection e with e
      subst e
      exact .cons (Rep.dp (reps_cons.mp h).1 e1) (Reps.dp (reps_cons.mp h).2 e2)
    · cases e
end
theorem Red.dp {F H : Hp} (s : Sub F H) {d : D} {v : V} {p : PyData} (h : Red G F H d v) (e : toPy d = some p) : Dp G.K H v p := by
  cases d with
  | lst xs =>
    obtain ⟨a, vs, rfl, q, r⟩ := h
    change (toPys xs).map PyData.list = some p at e
    cases z : toPys xs with
    | none =>
      rw [z] at e
      cases e
    | some ps =>
      rw [z] at e
      injection e with e
      subst e
      exact .lst (SqL.of q) (s.dpAll (Reps.dp r z))
  | tup xs => exact s.dp (Rep.dp (show Rep G F (.tup xs) v from h) e)
  | non => exact s.dp (Rep.dp (show Rep G F .non v from h) e)
  | bl b => exact s.dp (Rep.dp (show Rep G F (.bl b) v from h) e)
  | int i => exact s.dp (Rep.dp (show Rep G F (.int i) v from h) e)
  | str z => exact s.dp (Rep.dp (show Rep G F (.str z) v from h) e)
  | _ => cases e

/-! ### + -/
def addD (a b : D) : Option Rv := match a, b with
  | .int i, .int j => some (.sh (.int (i + j)))
  | .str s, .str t => if s.length + t.length ≤ lim then some (.sh (.str (s ++ t))) else none
  | .lst xs, .lst ys => if xs.length + ys.length ≤ lim then some (.tm (.lst (xs ++ ys))) else none
  | .tup xs, .tup ys => if xs.length + ys.length ≤ lim then some (.sh (.tup (xs ++ ys))) else none
  | _, _ => none
theorem toS_app (s t : List Nat) : toS s ++ toS t = toS (s ++ t) := by
  show (⟨s.toArray ++ t.toArray⟩ : Str) = ⟨(s ++ t).toArray⟩
  rw [List.append_toArray]
theorem toS_len (s : List Nat) : (toS s).length = s.length := by
  show s.toArray.size = s.length
  simp
theorem add_ok (hK : G.K = X.K) : Op2 X G (binaryOp .Add) addD := by
  intro B F own σ H ρ v u a b rv Q R ra rb e f
  unfold addD at e
  split at e
  · injection e with e
    subst e
    exact ⟨_, op_add, _, _, red_int ra, red_int rb, f.val R (rep_int.mpr rfl)⟩
  · split at e
    · rename_i hl
      injection e with e
      subst e
      exact ⟨_, op_add_str, _, _, red_str ra, red_str rb, by rw [toS_len, toS_len]; exact lim_ok hl, by rw [toS_app]; exact f.val R (rep_str.mpr rfl)⟩
    · cases e
  · split at e
    · rename_i hl
      injection e with e
      subst e
      obtain ⟨p, vs, rfl, h1, r1⟩ := ra
      obtain ⟨q, ws, rfl, h2, r2⟩ := rb
      exact ⟨_, op_cat, p, q, vs, ws, rfl, rfl, h1, h2, by rw [← r1.len, ← r2.len]; exact lim_ok hl, fun l hl => f.tm R hl ⟨vs ++ ws, rfl, r1.app r2⟩⟩
    · cases e
  · split at e
    · rename_i xs ys hl
      injection e with e
      subst e
      obtain ⟨p, vs, rfl, h1, r1⟩ := red_tup ra
      obtain ⟨q, ws, rfl, h2, r2⟩ := red_tup rb
      refine ⟨_, op_catA, p, q, vs, ws, rfl, rfl, hK ▸ R.fsub.sqT h1, hK ▸ R.fsub.sqT h2, by rw [← r1.len, ← r2.len]; exact lim_ok hl, fun e0 => ?_, fun _ e0 => ?_, fun _ _ l hl => ?_⟩
      · subst e0
        cases xs with
        | nil => exact f.val R (rep_tup.mpr ⟨q, ws, rfl, h2, r2⟩)
        | cons x r => have := r1.len; simp at this
      · subst e0
        cases ys with
        | nil => exact f.val R (rep_tup.mpr ⟨p, vs, rfl, h1, by rw [List.append_nil]; exact r1⟩)
        | cons x r => have := r2.len; simp at this
      · exact f.tup R hl (r1.app r2)
    · cases e
  · cases e
/-! ### whole numbers -/
def subD (a b : D) : Option Rv := match a, b with
  | .int i, .int j => some (.sh (.int (i - j)))
  | _, _ => none
theorem sub_ok : Op2 X G (binaryOp .Sub) subD := by
  intro B F own σ H ρ v u a b rv Q R ra rb e f
  unfold subD at e
  split at e
  · injection e with e
    subst e
    exact ⟨_, op_sub, _, _, red_int ra, red_int rb, f.val R (rep_int.mpr rfl)⟩
  · cases e
def two64 : Nat := 18446744073709551616
def repL {α : Type} (n : Nat) (xs : List α) : List α := (List.replicate n xs).flatten
instance {i j : Int} : Decidable (CMulW i j) := by unfold CMulW; infer_instance
def mulD (a b : D) : Option Rv := match a, b with
  | .int i, .int j => if i.natAbs < two64 ∨ j.natAbs < two64 ∨ CMulW i j then some (.sh (.int (i * j))) else none
  | .lst xs, .int k => if -1000000 ≤ k ∧ k ≤ 1000000 ∧ xs.length * k.toNat ≤ lim then some (.tm (.lst (repL k.toNat xs))) else none
  | .str s, .int k => if 0 ≤ k ∧ k ≤ 1000 ∧ s.length ≤ 1000 then some (.sh (.str (repL k.toNat s))) else none
  | _, _ => none
theorem rep_len {α : Type} (n : Nat) (xs : List α) : (repL n xs).length = n * xs.length := by
  unfold repL
  induction n with
  | zero => simp
  | succ n ih => rw [List.replicate_succ, List.flatten_cons, List.length_append, ih, Nat.succ_mul, Nat.add_comm]
theorem rep_fold (a : Array Nat) : ∀ (n : Nat) (b : Array Nat), (List.replicate n a).foldl (· ++ ·) b = (b.toList ++ (List.replicate n a.toList).flatten).toArray
  | 0, b => by simp
  | n + 1, b => by
    rw [List.replicate_succ, List.foldl_cons, rep_fold a n (b ++ a), List.replicate_succ, List.flatten_cons]
    simp
theorem Reps.rep {F : Hp} {xs : List D} {vs : List V} (h : Reps G F xs vs) : ∀ n, Reps G F (repL n xs) (List.replicate n vs).flatten
  | 0 => reps_nil.mpr rfl
  | n + 1 => by
    unfold repL
    rw [List.replicate_succ, List.flatten_cons, List.replicate_succ, List.flatten_cons]
    exact h.app (Reps.rep h n)
theorem op_mulS : OpR X (binaryOp .Mult) (fun x y H Q => ∃ (s : List Nat) (k : Int), x = .str (toS s) ∧ y = .int k ∧ 0 ≤ k ∧ k ≤ 1000 ∧ s.length ≤ 1000 ∧ Q (.str (toS (repL k.toNat s))) H) := by
  intro pins s σ H x y v u Q I rx ry h
  obtain ⟨z, k, rfl, rfl, h0, h1, h2, q⟩ := h
  obtain ⟨t, rfl⟩ := rx
  obtain ⟨t', rfl⟩ := ry
  have e63 : (2 : Int) ^ 63 = 9223372036854775808 := by decide
  have hr : (decide (k < -(2 ^ 63 : Int)) || decide (k ≥ 2 ^ 63)) = false := by
    rw [e63]
    simp
    omega
  have hprod : z.length * k.toNat ≤ 1000000 := by
    have : z.length * k.toNat ≤ 1000 * 1000 := Nat.mul_le_mul h2 (by omega)
    omega
  have eL : (toS z).length = z.length := toS_len z
  refine P.mul_str hr (fun hk _ => ?_) (fun hk _ => ?_) ?_
  · rw [eL, e63]
    have : (1000 : Int) ≤ (9223372036854775808 - 1) / k := by
      rw [Int.le_ediv_iff_mul_le (by omega)]
      omega
    omega
  · rw [eL]
    show decide (z.length * k.toNat > sizeLine) = false
    rw [sizeLine_eq]
    simp
    omega
  · split
    · have hk0 : k = 0 := by omega
      subst hk0
      refine ⟨by show (0 : Nat) ≤ _; exact Nat.zero_le _, ?_⟩
      exact ⟨.str _, H, I.tok _, ⟨_, rfl⟩, q⟩
    · split
      · rename_i hc
        have e : repL k.toNat z = z := by
          rw [Bool.or_eq_true, beq_iff_eq, beq_iff_eq, eL] at hc
          rcases hc with hc | hc
          · subst hc
            show (List.replicate 1 z).flatten = z
            simp
          · have : z = [] := List.eq_nil_of_length_eq_zero hc
            subst this
            apply List.eq_nil_of_length_eq_zero
            rw [rep_len]
            simp
        rw [e] at q
        exact ⟨.str _, H, I, ⟨_, rfl⟩, q⟩
      · have e : (⟨(List.replicate k.toNat (toS z).cps).foldl (· ++ ·) #[]⟩ : Str) = toS (repL k.toNat z) := by
          rw [rep_fold]
          unfold repL
          simp
        rw [e]
        refine ⟨?_, ⟨.str _, H, I.tok _, ⟨_, rfl⟩, q⟩⟩
        show (toS (repL k.toNat z)).length ≤ _
        rw [toS_len, rep_len, sizeLine_eq]
        rw [Nat.mul_comm] at hprod
        omega
theorem mul_ok : Op2 X G (binaryOp .Mult) mulD := by
  intro B F own σ H ρ v u a b rv Q R ra rb e f
  unfold mulD at e
  split at e
  · split at e
    · rename_i i j hb
      injection e with e
      subst e
      unfold two64 at hb
      have e64 : (2 : Int) ^ 64 = 18446744073709551616 := by decide
      rcases hb with hb | hb | hb
      · refine ⟨_, op_mul, _, _, red_int ra, red_int rb, ?_, f.val R (rep_int.mpr rfl)⟩
        unfold CMul
        rw [e64]
        left
        omega
      · refine ⟨_, op_mul, _, _, red_int ra, red_int rb, ?_, f.val R (rep_int.mpr rfl)⟩
        unfold CMul
        rw [e64]
        right
        omega
      · exact ⟨_, op_mulW, _, _, red_int ra, red_int rb, hb, f.val R (rep_int.mpr rfl)⟩
    · cases e
  · split at e
    · rename_i xs k hb
      injection e with e
      subst e
      obtain ⟨p, vs, rfl, h1, r1⟩ := ra
      refine ⟨_, op_rep, p, k, vs, rfl, red_int rb, h1, ?_, ?_, by rw [← r1.len]; exact lim_ok hb.2.2, fun l hl => f.tm R hl ⟨_, rfl, r1.rep _⟩⟩
      · have : (2 : Int) ^ 63 = 9223372036854775808 := by decide
        omega
      · have : (2 : Int) ^ 63 = 9223372036854775808 := by decide
        omega
    · cases e
  · split at e
    · rename_i s k hb
      injection e with e
      subst e
      exact ⟨_, op_mulS, s, k, red_str ra, red_int rb, hb.1, hb.2.1, hb.2.2, f.val R (rep_str.mpr rfl)⟩
    · cases e
  · cases e
def fdivD (a b : D) : Option Rv := match a, b with
  | .int i, .int j => if 0 < j ∧ j.natAbs.log2 < 9000 then some (.sh (.int (i / j))) else none
  | _, _ => none
theorem fdiv_ok : Op2 X G (binaryOp .FloorDiv) fdivD := by
  intro B F own σ H ρ v u a b rv Q R ra rb e f
  unfold fdivD at e
  split at e
  · split at e
    · rename_i hb
      injection e with e
      subst e
      exact ⟨_, op_fdivW, _, _, red_int ra, red_int rb, hb, f.val R (rep_int.mpr rfl)⟩
    · cases e
  · cases e
def modD (a b : D) : Option Rv := match a, b with
  | .int i, .int j => if 0 < j then some (.sh (.int (i % j))) else none
  | _, _ => none
theorem mod_ok : Op2 X G (binaryOp .Mod) modD := by
  intro B F own σ H ρ v u a b rv Q R ra rb e f
  unfold modD at e
  split at e
  · split at e
    · rename_i hb
      injection e with e
      subst e
      exact ⟨_, op_mod, _, _, red_int ra, red_int rb, hb, f.val R (rep_int.mpr rfl)⟩
    · cases e
  · cases e
def powD (a b : D) : Option Rv := match a, b with
  | .int i, .int j => if 0 ≤ j ∧ j ≤ 1000 ∧ i.natAbs < two64 then some (.sh (.int (i ^ j.toNat))) else none
  | _, _ => none
theorem pow_ok : Op2 X G (binaryOp .Pow) powD := by
  intro B F own σ H ρ v u a b rv Q R ra rb e f
  unfold powD at e
  split at e
  · split at e
    · rename_i hb
      injection e with e
      subst e
      exact ⟨_, op_pow, _, _, red_int ra, red_int rb, ⟨hb.1, by omega, hb.2.2⟩, f.val R (rep_int.mpr rfl)⟩
    · cases e
  · cases e
def shlD (a b : D) : Option Rv := match a, b with
  | .int i, .int j => if 0 ≤ j ∧ j ≤ 1000 ∧ i.natAbs < two64 then some (.sh (.int (i * 2 ^ j.toNat))) else none
  | _, _ => none
theorem shl_ok : Op2 X G (binaryOp .LShift) shlD := by
  intro B F own σ H ρ v u a b rv Q R ra rb e f
  unfold shlD at e
  split at e
  · split at e
    · rename_i hb
      injection e with e
      subst e
      exact ⟨_, op_shl, _, _, red_int ra, red_int rb, ⟨hb.1, by omega, hb.2.2⟩, f.val R (rep_int.mpr rfl)⟩
    · cases e
  · cases e
def shrD (a b : D) : Option Rv := match a, b with
  | .int i, .int j => if 0 ≤ j then some (.sh (.int (i / 2 ^ j.toNat))) else none
  | _, _ => none
theorem shr_ok : Op2 X G (binaryOp .RShift) shrD := by
  intro B F own σ H ρ v u a b rv Q R ra rb e f
  unfold shrD at e
  split at e
  · split at e
    · rename_i hb
      injection e with e
      subst e
      exact ⟨_, op_shr, _, _, red_int ra, red_int rb, hb, f.val R (rep_int.mpr rfl)⟩
    · cases e
  · cases e
def bandD (a b : D) : Option Rv := match a, b with
  | .int i, .int j => some (.sh (.int (Builtin.bitAnd i j)))
  | _, _ => none
theorem band_ok : Op2 X G (binaryOp .BitAnd) bandD := by
  intro B F own σ H ρ v u a b rv Q R ra rb e f
  unfold bandD at e
  split at e
  · injection e with e
    subst e
    exact ⟨_, op_and, _, _, red_int ra, red_int rb, f.val R (rep_int.mpr rfl)⟩
  · cases e
def borD (a b : D) : Option Rv := match a, b with
  | .int i, .int j => some (.sh (.int (Builtin.bitOr i j)))
  | _, _ => none
theorem bor_ok : Op2 X G (binaryOp .BitOr) borD := by
  intro B F own σ H ρ v u a b rv Q R ra rb e f
  unfold borD at e
  split at e
  · injection e with e
    subst e
    exact ⟨_, op_or, _, _, red_int ra, red_int rb, f.val R (rep_int.mpr rfl)⟩
  · cases e
/-! ### ==, < -/
def eqB (a b : D) : Option Bool := match toPy a, toPy b with
  | some x, some y => if SeqAt.shaped x = true ∧ SeqAt.shaped y = true then some (PyData.eqv x y) else none
  | _, _ => none
def eqD (a b : D) : Option Rv := (eqB a b).map fun k => .sh (.bl k)
def neD (a b : D) : Option Rv := (eqB a b).map fun k => .sh (.bl (!k))
theorem eq_ok (hK : G.K = X.K) (hu : X.A.units + 64 < cLine) : Op2 X G (compareOp .Eq) eqD := by
  intro B F own σ H ρ v u a b rv Q R ra rb e f
  unfold eqD eqB at e
  split at e
  · rename_i x y e1 e2
    split at e
    · rename_i hs
      injection e with e
      subst e
      exact ⟨_, op_eqD hu, x, y, hK ▸ ra.dp R.fsub e1, hK ▸ rb.dp R.fsub e2, hs.1, hs.2, f.val R (rep_bl.mpr rfl)⟩
    · cases e
  · cases e
theorem ne_ok (hK : G.K = X.K) (hu : X.A.units + 64 < cLine) : Op2 X G (compareOp .NotEq) neD := by
  intro B F own σ H ρ v u a b rv Q R ra rb e f
  unfold neD eqB at e
  split at e
  · rename_i x y e1 e2
    split at e
    · rename_i hs
      injection e with e
      subst e
      exact ⟨_, op_neD hu, x, y, hK ▸ ra.dp R.fsub e1, hK ▸ rb.dp R.fsub e2, hs.1, hs.2, f.val R (rep_bl.mpr rfl)⟩
    · cases e
  · cases e
/-- a < b of data that are alike -/
def ltB (a b : D) : Option Bool := match toPy a, toPy b with
  | some x, some y => if PySem.W.alike x y = true ∧ x.depth ≤ 64 ∧ y.depth ≤ 64 ∧ SeqAt.shaped x = true then (match x with
    | .none => none
    | _ => some (PySem.W.dataLt x y)) else none
  | _, _ => none
end
end VL

set_option maxHeartbeats 200000
/-! The value layer: order, membership, None, chains. -/
namespace VL
open PySem PySem.Spec L2
section
variable {X : Cx} {G : Gx} {W : WX}
def isNonP : PyData → Bool
  | .none => true
  | _ => false
/-- both read as alike data: f of them -/
def cmpB (f : PyData → PyData → Bool) (a b : D) : Option Rv := match toPy a, toPy b with
  | some x, some y => if PySem.W.alike x y = true ∧ x.depth ≤ 64 ∧ isNonP x = false then some (.sh (.bl (f x y))) else none
  | _, _ => none
def ltD : D → D → Option Rv := cmpB fun x y => PySem.W.dataLt x y
def gtD : D → D → Option Rv := cmpB fun x y => PySem.W.dataLt y x
def leD : D → D → Option Rv := cmpB fun x y => !PySem.W.dataLt y x
def geD : D → D → Option Rv := cmpB fun x y => !PySem.W.dataLt x y
theorem cmp_ok {op : CmpOp} {f : PyData → PyData → Bool} (hK : G.K = X.K) (hu : X.A.units + 64 < cLine)
    (rule : ∀ {s : Shared} {a b : Value} {da db : PyData} {as bs : List Addr} {E : Value → Shared → Prop} {Q : Value → Shared → Prop}, Reads s.heap a da as → Reads s.heap b db bs → PySem.W.alike da db = true → da ≠ .none → X.A.units + min da.depth db.depth < cLine → Q (.bool (f da db)) s →
      wpAny (model X.prog X.w) X.A (compareOp op a b) Q E s) : Op2 X G (compareOp op) (cmpB f) := by
  intro B F own σ H ρ v u a b rv Q R ra rb e fin
  unfold cmpB at e
  split at e
  · rename_i x y e1 e2
    split at e
    · rename_i hs
      injection e with e
      subst e
      refine ⟨fun x' y' H Q => Dp X.K H x' x ∧ Dp X.K H y' y ∧ Q (.bl (f x y)) H, ?_, hK ▸ ra.dp R.fsub e1, hK ▸ rb.dp R.fsub e2, fin.val R (rep_bl.mpr rfl)⟩
      intro pins s σ H v' u' w1 w2 Q I r1 r2 ⟨d1, d2, q⟩
      obtain ⟨as, h1⟩ := Dp.reads I x v' w1 d1 r1
      obtain ⟨bs, h2⟩ := Dp.reads I y u' w2 d2 r2
      refine rule h1 h2 hs.1 (fun z => ?_) ?_ ⟨.bl _, H, I, rfl, q⟩
      · have := hs.2.2
        rw [z] at this
        cases this
      · have : min x.depth y.depth ≤ x.depth := Nat.min_le_left _ _
        have := hs.2.1
        omega
    · cases e
  · cases e
theorem lt_ok (hK : G.K = X.K) (hu : X.A.units + 64 < cLine) : Op2 X G (compareOp .Lt) ltD := cmp_ok hK hu PySem.W.lt_data
theorem gt_ok (hK : G.K = X.K) (hu : X.A.units + 64 < cLine) : Op2 X G (compareOp .Gt) gtD := cmp_ok hK hu PySem.W.gt_data
theorem le_ok (hK : G.K = X.K) (hu : X.A.units + 64 < cLine) : Op2 X G (compareOp .LtE) leD := cmp_ok hK hu PySem.W.le_data
theorem ge_ok (hK : G.K = X.K) (hu : X.A.units + 64 < cLine) : Op2 X G (compareOp .GtE) geD := cmp_ok hK hu PySem.W.ge_data
/-! ### None -/
def isNonD : D → Bool
  | .non => true
  | _ => false
theorem red_isNon {F H : Hp} {d : D} {v : V} (h : Red G F H d v) : decide (v = .non) = isNonD d := by
  cases d with
  | non => rw [red_non h]; rfl
  | bl b => rw [red_bl h]; exact decide_eq_false (fun z => nomatch z)
  | int i => rw [red_int h]; exact decide_eq_false (fun z => nomatch z)
  | str s => rw [red_str h]; exact decide_eq_false (fun z => nomatch z)
  | tup xs => obtain ⟨a, vs, rfl, _⟩ := red_tup h; exact decide_eq_false (fun z => nomatch z)
  | lst xs => obtain ⟨a, vs, rfl, _⟩ := h; exact decide_eq_false (fun z => nomatch z)
  | dic ks ws => obtain ⟨a, vs, rfl, _⟩ := h; exact decide_eq_false (fun z => nomatch z)
  | ins c ns ws => obtain ⟨a, dx, vs, rfl, _⟩ := h; exact decide_eq_false (fun z => nomatch z)
  | scr ns =>
    have h : Rep G F (.scr ns) v := h
    unfold Rep at h
    obtain ⟨a, rfl, _⟩ := h
    exact decide_eq_false (fun z => nomatch z)
  | exc c ns ws =>
    have h : Rep G F (.exc c ns ws) v := h
    unfold Rep at h
    obtain ⟨a, od, vs, rfl, _⟩ := h
    exact decide_eq_false (fun z => nomatch z)
def isD (a b : D) : Option Rv := match b with
  | .non => some (.sh (.bl (isNonD a)))
  | _ => none
def isNotD (a b : D) : Option Rv := match b with
  | .non => some (.sh (.bl (!isNonD a)))
  | _ => none
theorem is_ok : Op2 X G (compareOp .Is) isD := by
  intro B F own σ H ρ v u a b rv Q R ra rb e f
  unfold isD at e
  split at e
  · injection e with e
    subst e
    exact ⟨_, op_isN, red_non rb, by rw [red_isNon ra]; exact f.val R (rep_bl.mpr rfl)⟩
  · cases e
theorem isNot_ok : Op2 X G (compareOp .IsNot) isNotD := by
  intro B F own σ H ρ v u a b rv Q R ra rb e f
  unfold isNotD at e
  split at e
  · injection e with e
    subst e
    exact ⟨_, op_notN, red_non rb, by rw [red_isNon ra]; exact f.val R (rep_bl.mpr rfl)⟩
  · cases e
/-! ### in -/
def toV : D → Option V
  | .non => some .non
  | .bl b => some (.bl b)
  | .int i => some (.int i)
  | .str s => some (.str (toS s))
  | _ => none
def toVs : List D → Option (List V)
  | [] => some []
  | d :: ds => match toV d, toVs ds with
    | some v, some vs => some (v :: vs)
    | _, _ => none
theorem toV_rep {F : Hp} {d : D} {v w : V} (h : Rep G F d v) (e : toV d = some w) : v = w ∧ flatV w = true := by
  cases d with
  | non => injection e with e; subst e; exact ⟨rep_non.mp h, rfl⟩
  | bl b => injection e with e; subst e; exact ⟨rep_bl.mp h, rfl⟩
  | int i => injection e with e; subst e; exact ⟨rep_int.mp h, rfl⟩
  | str s => injection e with e; subst e; exact ⟨rep_str.mp h, rfl⟩
  | _ => cases e
theorem toV_red {F H : Hp} {d : D} {v w : V} (h : Red G F H d v) (e : toV d = some w) : v = w ∧ flatV w = true := by
  cases d with
  | non => exact toV_rep (show Rep G F .non v from h) e
  | bl b => exact toV_rep (show Rep G F (.bl b) v from h) e
  | int i => exact toV_rep (show Rep G F (.int i) v from h) e
  | str s => exact toV_rep (show Rep G F (.str s) v from h) e
  | _ => cases e
theorem toVs_reps {F : Hp} : ∀ {ds : List D} {vs ws : List V}, Reps G F ds vs → toVs ds = some ws → vs = ws ∧ ws.all flatV = true
  | [], vs, ws, h, e => by
    injection e with e
    subst e
    exact ⟨reps_nil.mp h, rfl⟩
  | d :: ds, [], ws, h, e => by
    have := h.len
    simp at this
  | d :: ds, v :: vs, ws, h, e => by
    change (match toV d, toVs ds with
      | some v, some vs => some (v :: vs)
      | _, _ => none) = some ws at e
    split at e
    · rename_i w ws' e1 e2
      injection e with e
      subst e
      obtain ⟨h1, h2⟩ := toV_rep (reps_cons.mp h).1 e1
      obtain ⟨h3, h4⟩ := toVs_reps (reps_cons.mp h).2 e2
      exact ⟨by rw [h1, h3], by rw [List.all_cons, h2, h4]; rfl⟩
    · cases e
def inB (a b : D) : Option Bool := match a, b with
  | .str [c], .str t => some (decide (c ∈ t))
  | a, .lst xs => (match toV a, toVs xs with
    | some v, some vs => some (inV v vs)
    | _, _ => (match toPy a, toPys xs with
      | some x, some ys => if SeqAt.shaped x = true ∧ SeqAt.shaped (.list ys) = true then some (ys.any fun z => PyData.eqv z x) else none
      | _, _ => none))
  | a, .tup xs => (match toV a, toVs xs with
    | some v, some vs => some (inV v vs)
    | _, _ => none)
  | _, _ => none
def inD (a b : D) : Option Rv := (inB a b).map fun k => .sh (.bl k)
def notInD (a b : D) : Option Rv := (inB a b).map fun k => .sh (.bl (!k))
theorem in_ok (hK : G.K = X.K) (hu5 : X.A.units + 65 < cLine) : Op2 X G (compareOp .In) inD := by
  intro B F own σ H ρ v u a b rv Q R ra rb e f
  unfold inD inB at e
  split at e
  · rename_i c t
    injection e with e
    subst e
    refine ⟨_, op_in_sign, c, toS t, red_str ra, red_str rb, ?_⟩
    simpa using f.val R (rep_bl.mpr rfl)
  · split at e
    · rename_i xs w ws e1 e2
      injection e with e
      subst e
      obtain ⟨p, vs, rfl, h, r⟩ := rb
      obtain ⟨rfl, h1⟩ := toV_red ra e1
      obtain ⟨rfl, h2⟩ := toVs_reps r e2
      exact ⟨_, op_in_seq, p, vs, rfl, .inl (SqL.of h), h1, h2, f.val R (rep_bl.mpr rfl)⟩
    · split at e
      · rename_i xs _ x ys e1 e2
        split at e
        · rename_i hs
          injection e with e
          subst e
          exact ⟨_, op_inD hu5, x, ys, hK ▸ ra.dp R.fsub e1, hK ▸ rb.dp R.fsub (by unfold toPy; rw [e2]; rfl), hs.1, hs.2, f.val R (rep_bl.mpr rfl)⟩
        · cases e
      · cases e
  · split at e
    · rename_i xs w ws e1 e2
      injection e with e
      subst e
      obtain ⟨p, vs, rfl, h, r⟩ := red_tup rb
      obtain ⟨rfl, h1⟩ := toV_red ra e1
      obtain ⟨rfl, h2⟩ := toVs_reps r e2
      exact ⟨_, op_in_seq, p, vs, rfl, .inr (hK ▸ R.fsub.sqT h), h1, h2, f.val R (rep_bl.mpr rfl)⟩
    · cases e
  · cases e
theorem notIn_ok (hK : G.K = X.K) (hu5 : X.A.units + 65 < cLine) : Op2 X G (compareOp .NotIn) notInD := by
  intro B F own σ H ρ v u a b rv Q R ra rb e f
  unfold notInD inB at e
  split at e
  · rename_i c t
    injection e with e
    subst e
    refine ⟨_, op_notIn_sign, c, toS t, red_str ra, red_str rb, ?_⟩
    simpa using f.val R (rep_bl.mpr rfl)
  · split at e
    · rename_i xs w ws e1 e2
      injection e with e
      subst e
      obtain ⟨p, vs, rfl, h, r⟩ := rb
      obtain ⟨rfl, h1⟩ := toV_red ra e1
      obtain ⟨rfl, h2⟩ := toVs_reps r e2
      exact ⟨_, op_notIn_seq, p, vs, rfl, .inl (SqL.of h), h1, h2, f.val R (rep_bl.mpr rfl)⟩
    · split at e
      · rename_i xs _ x ys e1 e2
        split at e
        · rename_i hs
          injection e with e
          subst e
          exact ⟨_, op_notInD hu5, x, ys, hK ▸ ra.dp R.fsub e1, hK ▸ rb.dp R.fsub (by unfold toPy; rw [e2]; rfl), hs.1, hs.2, f.val R (rep_bl.mpr rfl)⟩
        · cases e
      · cases e
  · split at e
    · rename_i xs w ws e1 e2
      injection e with e
      subst e
      obtain ⟨p, vs, rfl, h, r⟩ := red_tup rb
      obtain ⟨rfl, h1⟩ := toV_red ra e1
      obtain ⟨rfl, h2⟩ := toVs_reps r e2
      exact ⟨_, op_notIn_seq, p, vs, rfl, .inr (hK ▸ R.fsub.sqT h), h1, h2, f.val R (rep_bl.mpr rfl)⟩
    · cases e
  · cases e
/-! ### a op b op' c -/
variable {a b c : Expr} {ma mb mc : M Rv} {pos : Pos}
def mChain (f g : D → D → Option Rv) (ma mb mc : M Rv) : M Bool :=
  ma.bind fun ra => mb.bind fun rb => (mOp2 f ra rb).bind fun r => (asB r).bind fun k => match k with
    | true => mc.bind fun rc => (mOp2 g rb rc).bind asB
    | false => M.pure false
theorem vt_chain {op op' : CmpOp} {f g : D → D → Option Rv} (o : Op2 X G (compareOp op) f) (o' : Op2 X G (compareOp op') g) (ha : VE X G W a ma) (hb : VE X G W b mb) (hc : VE X G W c mc)
    (hm : lastMarks [op, op'] [b, c] = false) : VT X G W (.Compare a [op, op'] [b, c] pos) (mChain f g ma mb mc) := by
  refine ⟨fun B => pt_imp (L2.pt_chain (opAny X _) (opAny X _) (ha.run B) (hb.run B) (hc.run B) hm) fun σ H Q ⟨F, own, ρ, R, P⟩ => ?_⟩
  refine step Grow.rfl' R P fun ra ρ1 v H1 F1 own1 _ g1 _ R1 k1 P1 => ?_
  refine step g1 R1 P1 fun rb ρ2 u H2 F2 own2 _ g2 g12 R2 k2 P2 => ?_
  cases e : mOp2 f ra rb ρ2 with
  | bad =>
    unfold M.bind at P2
    rw [e] at P2
    exact P2.elim
  | exc x ρ3 => exact (mOp2_exc e).elim
  | ok r ρ3 =>
    change Post G B W σ okB own F H ((mOp2 f ra rb ρ2).bind _) Q at P2
    rw [e] at P2
    obtain ⟨rfl, x, y, e1, e2, e3⟩ := mOp2_ok e
    refine o R2 ((k1.grow g12).red R2 e1) (k2.red R2 e2) e3 fun w H3 F3 g3 R3 k3 => ?_
    cases r with
    | sh d =>
      cases d with
      | bl k =>
        refine ⟨k, rep_bl.mp (show Rep G F3 (.bl k) w from k3), ?_⟩
        cases k with
        | false => exact ⟨false, rfl, P2 false H3 F3 own2 (g2.tr g3) R3 rfl⟩
        | true =>
          rw [if_pos rfl]
          refine step (g2.tr g3) R3 P2 fun rc ρ4 z H4 F4 own4 _ g4 g34 R4 k4 P4 => ?_
          cases e5 : mOp2 g rb rc ρ4 with
          | bad =>
            change Post G B W σ okB own F H ((mOp2 g rb rc ρ4).bind _) Q at P4
            rw [e5] at P4
            exact P4.elim
          | exc x ρ3 => exact (mOp2_exc e5).elim
          | ok r2 ρ5 =>
            change Post G B W σ okB own F H ((mOp2 g rb rc ρ4).bind _) Q at P4
            rw [e5] at P4
            obtain ⟨rfl, x2, y2, e6, e7, e8⟩ := mOp2_ok e5
            refine o' R4 (((k2.grow g3).grow g34).red R4 e6) (k4.red R4 e7) e8 fun w5 H5 F5 g5 R5 k5 => ?_
            cases r2 with
            | sh d =>
              cases d with
              | bl k =>
                exact ⟨k, rep_bl.mp (show Rep G F5 (.bl k) w5 from k5), P4 k H5 F5 own4 (g4.tr g5) R5 rfl⟩
              | _ => exact P4.elim
            | _ => exact P4.elim
      | _ => exact P2.elim
    | _ => exact P2.elim
end
end VL

set_option maxHeartbeats 200000
/-! The value layer: slices, calls of built-ins, methods. -/
namespace VL
open PySem PySem.Spec L2
section
variable {X : Cx} {G : Gx} {W : WX} {a b c e o : Expr} {es : List Expr} {ma mb mc : M Rv} {ms : M (List Rv)} {pos : Pos}
/-! ### slices -/
def cutL {α : Type} (xs : List α) (lo hi : Option Int) : List α := (xs.drop (HT.sIx xs.length 0 lo)).take (HT.sIx xs.length xs.length hi - HT.sIx xs.length 0 lo)
def sliceD (d : D) (lo hi : Option Int) : Option Rv := match d with
  | .str s => if s.length ≤ lim then some (.sh (.str (cutL s lo hi))) else none
  | .lst xs => some (.tm (.lst (cutL xs lo hi)))
  | .tup xs => some (.sh (.tup (cutL xs lo hi)))
  | _ => none
theorem Reps.cut {F : Hp} {ds : List D} {vs : List V} (h : Reps G F ds vs) (lo hi : Option Int) : Reps G F (cutL ds lo hi) (cutV vs lo hi) := by
  unfold cutL cutV
  rw [h.len]
  exact (h.drop _).take _
def rSlAny (X : Cx) : V → Option Int → Option Int → Hp → VK → Prop := fun x lo hi H Q => ∃ r, SlR X r ∧ r x lo hi H Q
theorem slAny (X : Cx) : SlR X (rSlAny X) := by
  intro pins s σ H x v vl vu lo hi sl Q I rx hs pl pu ⟨r, ho, h⟩
  exact ho pins s σ H x v vl vu lo hi sl Q I rx hs pl pu h
theorem slice_go (hK : G.K = X.K) {B : Bx} {F : Hp} {own : OwnM} {σ : St} {H : Hp} {ρ : VEnv} {v : V} {d : D} {lo hi : Option Int} {rv : Rv} {Q : VK} (R : Rl G B F own σ H ρ) (ra : Red G F H d v) (e : sliceD d lo hi = some rv)
    (f : Fin G B σ F own H ρ rv Q) : rSlAny X v lo hi H Q := by
  unfold sliceD at e
  split at e
  · split at e
    · rename_i s hl
      injection e with e
      subst e
      refine ⟨_, sl_str, toS s, red_str ra, by rw [toS_len]; exact lim_ok hl, ?_⟩
      refine f.val R (rep_str.mpr ?_)
      unfold cutS cutL
      rw [toS_len]
    · cases e
  · rename_i xs
    injection e with e
    subst e
    obtain ⟨p, vs, rfl, h, r⟩ := ra
    exact ⟨_, sl_list, p, vs, rfl, SqL.of h, fun q hq => f.tm R hq ⟨_, rfl, r.cut lo hi⟩⟩
  · rename_i xs
    injection e with e
    subst e
    obtain ⟨p, vs, rfl, h, r⟩ := red_tup ra
    refine ⟨_, sl_tupA, p, vs, rfl, hK ▸ R.fsub.sqT h, fun hw => ?_, fun _ q hq => f.tup R hq (r.cut lo hi)⟩
    refine f.val R (rep_tup.mpr ⟨p, vs, rfl, h, ?_⟩)
    have e : cutL xs lo hi = xs := by
      unfold cutL
      rw [r.len, hw.1, hw.2, ← r.len]
      simp
    rw [e]
    exact r
  · cases e
/-- a part of a slice -/
structure VP (X : Cx) (G : Gx) (W : WX) (e : Option Expr) (m : M (Option Int)) : Prop where
  run : ∀ B, PO X e (tM G B W (fun _ => ⟨fun _ _ _ _ a b => a = b, fun _ k => k⟩) m)
theorem vp_none : VP X G W none (M.pure none) := ⟨fun B => ⟨fun pins s σ H Q I h => L2.po_none.run pins s σ H Q I (by
  obtain ⟨F, own, ρ, R, P⟩ := h
  exact P none H F own Grow.rfl' R rfl)⟩⟩
def asInt : Rv → M (Option Int)
  | .sh (.int i) => M.pure (some i)
  | _ => bad
theorem vp_some (h : VE X G W e ma) : VP X G W (some e) (ma.bind asInt) := ⟨fun B => ⟨fun pins s σ H Q I hq => (L2.po_some (h.run B)).run pins s σ H Q I (by
  obtain ⟨F, own, ρ, R, P⟩ := hq
  refine step (k := asInt) Grow.rfl' R P fun r ρ2 v H2 F2 own2 _ g _ R2 k P2 => ?_
  cases r with
  | sh d =>
    cases d with
    | int i => exact ⟨i, rep_int.mp (show Rep G F2 (.int i) v from k), P2 _ H2 F2 own2 g R2 rfl⟩
    | _ => exact P2.elim
  | _ => exact P2.elim)⟩⟩
def mSlice (ma : M Rv) (ml mh : M (Option Int)) : M Rv := ma.bind fun r => ml.bind fun lo => mh.bind fun hi => fun ρ => match rdR r ρ with
  | some d => (match sliceD d lo hi with
    | some rv => .ok rv ρ
    | none => .bad)
  | none => .bad
theorem ve_slice (hK : G.K = X.K) {lo hi : Option Expr} {ml mh : M (Option Int)} {p2 : Pos} (ha : VE X G W a ma) (hl : VP X G W lo ml) (hh : VP X G W hi mh) : VE X G W (.Subscript a (.Slice lo hi none p2) pos) (mSlice ma ml mh) := by
  refine ⟨fun B => pe_imp (L2.pe_slice (slAny X) (ha.run B) (hl.run B) (hh.run B)) fun σ H Q ⟨F, own, ρ, R, P⟩ => ?_⟩
  refine step Grow.rfl' R P fun r ρ1 v H1 F1 own1 _ g1 _ R1 k1 P1 => ?_
  refine step g1 R1 P1 fun l ρ2 l' H2 F2 own2 _ g2 g12 R2 k2 P2 => ?_
  refine step g2 R2 P2 fun u ρ3 u' H3 F3 own3 _ g3 g23 R3 k3 P3 => ?_
  have k2 : l = l' := k2
  have k3 : u = u' := k3
  subst k2 k3
  dsimp only at P3
  split at P3
  · rename_i d e1
    split at P3
    · rename_i rv e2
      refine slice_go hK R3 (((k1.grow g12).grow g23).red R3 e1) e2 fun w H4 F4 g4 R4 k4 => ?_
      exact P3 w H4 F4 own3 (g3.tr g4) R4 ((okRv G B σ).mono g3.back k4)
    · exact P3.elim
  · exact P3.elim
/-! ### calls of built-ins -/
def Reds (G : Gx) (F H : Hp) : List D → List V → Prop
  | [], vs => vs = []
  | d :: ds, vs => ∃ v ws, vs = v :: ws ∧ Red G F H d v ∧ Reds G F H ds ws
theorem RvsOk.red {B : Bx} {σ : St} {H0 F : Hp} {own : OwnM} {H : Hp} {ρ : VEnv} (R : Rl G B F own σ H ρ) : ∀ {rs : List Rv} {vs : List V} {ds : List D}, RvsOk G B σ H0 F own H rs vs → rdRs rs ρ = some ds → Reds G F H ds vs
  | [], vs, ds, k, e => by
    injection e with e
    subst e
    exact k
  | r :: rs, vs, ds, k, e => by
    obtain ⟨v, ws, rfl, k1, k2⟩ := k
    change (match rdR r ρ, rdRs rs ρ with
      | some d, some ds => some (d :: ds)
      | _, _ => none) = some ds at e
    split at e
    · rename_i d ds' e1 e2
      injection e with e
      subst e
      exact ⟨v, ws, rfl, k1.red R e1, RvsOk.red R k2 e2⟩
    · cases e
def cAny (X : Cx) (f : Value) : List V → Hp → VK → Prop := fun xs H Q => ∃ r, CallR X f r ∧ r xs H Q
theorem callAny' (X : Cx) (f : Value) : CallR X f (cAny X f) := by
  intro pins s σ H xs us Q I r1 ⟨r, ho, h⟩
  exact ho pins s σ H xs us Q I r1 h
/-- g tells what the built-in gives -/
def CallN (X : Cx) (G : Gx) (f : Value) (g : List D → Option Rv) : Prop :=
  ∀ {B : Bx} {F : Hp} {own : OwnM} {σ : St} {H : Hp} {ρ : VEnv} {vs : List V} {ds : List D} {rv : Rv} {Q : VK}, Rl G B F own σ H ρ → Reds G F H ds vs → g ds = some rv → Fin G B σ F own H ρ rv Q → cAny X f vs H Q
def mCallE (g : List D → Option Rv) (rs : List Rv) : M Rv := fun ρ => match rdRs rs ρ with
  | some ds => (match g ds with
    | some rv => .ok rv ρ
    | none => .bad)
  | none => .bad
def mCall (g : List D → Option Rv) (ms : M (List Rv)) : M Rv := ms.bind (mCallE g)
theorem call_go {f : Value} {g : List D → Option Rv} (o : CallN X G f g) {B : Bx} {σ : St} {H : Hp} {Q : VK} (h : tM G B W (fun σ => okRv G B σ) (mCall g ms) σ H Q) :
    tM G B W (fun σ => okRvs G B σ) ms σ H fun vs H1 => cAny X f vs H1 Q := by
  obtain ⟨F, own, ρ, R, P⟩ := h
  refine step (k := mCallE g) Grow.rfl' R P fun rs ρ1 vs H1 F1 own1 _ g1 _ R1 k1 P1 => ?_
  unfold mCallE at P1
  split at P1
  · rename_i ds e1
    split at P1
    · rename_i rv e2
      refine o R1 (RvsOk.red R1 k1 e1) e2 fun w H4 F4 g4 R4 k4 => ?_
      exact P1 w H4 F4 own1 (g1.tr g4) R4 ((okRv G B σ).mono g1.back k4)
    · exact P1.elim
  · exact P1.elim
theorem ve_callB {id : String} {g : List D → Option Rv} {x : Str} {p : Pos} (o : CallN X G (.builtin id) g) (hg : Gl X x) (hm : X.mg x = none) (hv : bootBuiltins x = some (.builtin id)) (ha : VA X G W (e :: es) ms)
    (hn : x ≠ "__name__") (hdb : (x == ("__debug__" : Str)) = false) (he : starEach (e :: es) X.env = (false, eval e X.env) :: starEach es X.env) (hpl : (backTo pos (starEach es X.env)).any (·.1) = false) :
    VE X G W (.Call (.Name x p) (e :: es) [] pos) (mCall g ms) :=
  ⟨fun B => pe_imp (L2.pe_callB (callAny' X _) hg hm hv (ha.run B) hn hdb he hpl) fun σ H Q h => call_go o h⟩
theorem ve_callTy {T : String} {g : List D → Option Rv} {x : Str} {p : Pos} (o : CallN X G (.type T) g) (hg : Gl X x) (hm : X.mg x = none) (hv : bootBuiltins x = some (.type T)) (ha : VA X G W (e :: es) ms)
    (hn : x ≠ "__name__") (hdb : (x == ("__debug__" : Str)) = false) (he : starEach (e :: es) X.env = (false, eval e X.env) :: starEach es X.env) (hpl : (backTo pos (starEach es X.env)).any (·.1) = false) :
    VE X G W (.Call (.Name x p) (e :: es) [] pos) (mCall g ms) :=
  ⟨fun B => pe_imp (L2.pe_callTy (callAny' X _) hg hm hv (ha.run B) hn hdb he hpl) fun σ H Q h => call_go o h⟩
theorem reds1 {F H : Hp} {d : D} {vs : List V} (h : Reds G F H [d] vs) : ∃ v, vs = [v] ∧ Red G F H d v := by
  obtain ⟨v, ws, rfl, h1, h2⟩ := h
  have h2 : ws = [] := h2
  subst h2
  exact ⟨v, rfl, h1⟩
theorem reds2 {F H : Hp} {d d' : D} {vs : List V} (h : Reds G F H [d, d'] vs) : ∃ v w, vs = [v, w] ∧ Red G F H d v ∧ Red G F H d' w := by
  obtain ⟨v, ws, rfl, h1, h2⟩ := h
  obtain ⟨w, rfl, h3⟩ := reds1 h2
  exact ⟨v, w, rfl, h1, h3⟩
/-! len, abs, int, list, tuple, sum -/
def lenD : List D → Option Rv
  | [.str s] => if s.length ≤ lim then some (.sh (.int s.length)) else none
  | [.lst xs] => some (.sh (.int xs.length))
  | [.tup xs] => some (.sh (.int xs.length))
  | [.dic ks _] => some (.sh (.int ks.length))
  | _ => none
theorem len_ok (hK : G.K = X.K) : CallN X G (.builtin "len") lenD := by
  intro B F own σ H ρ vs ds rv Q R h e f
  unfold lenD at e
  split at e
  · rename_i s
    split at e
    · rename_i hl
      injection e with e
      subst e
      obtain ⟨v, rfl, r⟩ := reds1 h
      refine ⟨_, call_len_str, toS s, by rw [red_str r], by rw [toS_len]; exact lim_ok hl, ?_⟩
      rw [toS_len]
      exact f.val R (rep_int.mpr rfl)
    · cases e
  · rename_i xs
    injection e with e
    subst e
    obtain ⟨v, rfl, p, ws, rfl, q, r⟩ := reds1 h
    refine ⟨_, call_len_seq, p, ws, rfl, .inl (SqL.of q), ?_⟩
    rw [← r.len]
    exact f.val R (rep_int.mpr rfl)
  · rename_i xs
    injection e with e
    subst e
    obtain ⟨v, rfl, r⟩ := reds1 h
    obtain ⟨p, ws, rfl, q, r⟩ := red_tup r
    refine ⟨_, call_len_seq, p, ws, rfl, .inr (hK ▸ R.fsub.sqT q), ?_⟩
    rw [← r.len]
    exact f.val R (rep_int.mpr rfl)
  · rename_i ks ws
    injection e with e
    subst e
    obtain ⟨v, rfl, p, vs, rfl, ⟨kvs, q, rfl, e2⟩ | ⟨kvs, q, rfl, e2⟩, r⟩ := reds1 h
    · refine ⟨_, call_lenD, p, kvs, rfl, q, ?_⟩
      have := f.val R (w := .int kvs.length) (rep_int.mpr (by rw [List.length_map]))
      exact this
    · refine ⟨_, call_len_dT, p, kvs, rfl, q, ?_⟩
      have := f.val R (w := .int kvs.length) (rep_int.mpr (by rw [List.length_map]))
      exact this
  · cases e
def absD : List D → Option Rv
  | [.int i] => some (.sh (.int (if i < 0 then -i else i)))
  | _ => none
theorem abs_ok : CallN X G (.builtin "abs") absD := by
  intro B F own σ H ρ vs ds rv Q R h e f
  unfold absD at e
  split at e
  · injection e with e
    subst e
    obtain ⟨v, rfl, r⟩ := reds1 h
    exact ⟨_, call_abs, _, by rw [red_int r], f.val R (rep_int.mpr rfl)⟩
  · cases e
def intD : List D → Option Rv
  | [.int i] => some (.sh (.int i))
  | [.bl b] => some (.sh (.int (if b then 1 else 0)))
  | _ => none
theorem int_ok : CallN X G (.type "int") intD := by
  intro B F own σ H ρ vs ds rv Q R h e f
  unfold intD at e
  split at e
  · injection e with e
    subst e
    obtain ⟨v, rfl, r⟩ := reds1 h
    exact ⟨_, call_int1, .inl ⟨_, by rw [red_int r], f.val R (rep_int.mpr rfl)⟩⟩
  · injection e with e
    subst e
    obtain ⟨v, rfl, r⟩ := reds1 h
    exact ⟨_, call_int1, .inr ⟨_, by rw [red_bl r], f.val R (rep_int.mpr rfl)⟩⟩
  · cases e
/-- the signs of a text, each a text -/
def signs (s : List Nat) : List D := s.map fun c => .str [c]
def listD : List D → Option Rv
  | [.lst xs] => some (.tm (.lst xs))
  | [.tup xs] => some (.tm (.lst xs))
  | _ => none
theorem list_ok (hK : G.K = X.K) : CallN X G (.type "list") listD := by
  intro B F own σ H ρ vs ds rv Q R h e f
  unfold listD at e
  split at e
  · injection e with e
    subst e
    obtain ⟨v, rfl, p, ws, rfl, q, r⟩ := reds1 h
    exact ⟨_, call_list_of, p, ws, rfl, .inl (SqL.of q), fun l hl => f.tm R hl ⟨ws, rfl, r⟩⟩
  · injection e with e
    subst e
    obtain ⟨v, rfl, r⟩ := reds1 h
    obtain ⟨p, ws, rfl, q, r⟩ := red_tup r
    exact ⟨_, call_list_of, p, ws, rfl, .inr (hK ▸ R.fsub.sqT q), fun l hl => f.tm R hl ⟨ws, rfl, r⟩⟩
  · cases e
def tupleD : List D → Option Rv
  | [.lst xs] => some (.sh (.tup xs))
  | [.tup xs] => some (.sh (.tup xs))
  | _ => none
theorem tuple_ok (hK : G.K = X.K) : CallN X G (.type "tuple") tupleD := by
  intro B F own σ H ρ vs ds rv Q R h e f
  unfold tupleD at e
  split at e
  · injection e with e
    subst e
    obtain ⟨v, rfl, p, ws, rfl, q, r⟩ := reds1 h
    exact ⟨_, call_tuple_of, p, ws, rfl, .inl ⟨SqL.of q, fun l hl => f.tup R hl r⟩⟩
  · injection e with e
    subst e
    obtain ⟨v, rfl, r⟩ := reds1 h
    obtain ⟨p, ws, rfl, q, r⟩ := red_tup r
    exact ⟨_, call_tuple_of, p, ws, rfl, .inr ⟨hK ▸ R.fsub.sqT q, f.val R (rep_tup.mpr ⟨p, ws, rfl, q, r⟩)⟩⟩
  · cases e
def intsOf : List D → Option (List Int)
  | [] => some []
  | .int i :: ds => (intsOf ds).map (i :: ·)
  | _ => none
theorem intsOf_eq : ∀ {ds : List D} {ns : List Int}, intsOf ds = some ns → ds = ns.map D.int
  | [], ns, e => by injection e with e; subst e; rfl
  | .int i :: ds, ns, e => by
    change (intsOf ds).map (i :: ·) = some ns at e
    cases q : intsOf ds with
    | none => rw [q] at e; cases e
    | some ms =>
      rw [q] at e
      injection e with e
      subst e
      rw [intsOf_eq q]
      rfl
  | .non :: ds, ns, e => by cases e
  | .bl _ :: ds, ns, e => by cases e
  | .str _ :: ds, ns, e => by cases e
  | .lst _ :: ds, ns, e => by cases e
  | .tup _ :: ds, ns, e => by cases e
  | .scr _ :: ds, ns, e => by cases e
  | .dic _ _ :: ds, ns, e => by cases e
  | .ins _ _ _ :: ds, ns, e => by cases e
  | .exc _ _ _ :: ds, ns, e => by cases e
theorem intsOf_map : ∀ ns : List Int, intsOf (ns.map D.int) = some ns
  | [] => rfl
  | n :: ns => by
    show (intsOf (ns.map D.int)).map (n :: ·) = _
    rw [intsOf_map ns]
    rfl
def sumD : List D → Option Rv
  | [.lst xs] => (intsOf xs).map fun ns => .sh (.int ns.sum)
  | _ => none
theorem sum_ok (hc : X.calm = true) : CallN X G (.builtin "sum") sumD := by
  intro B F own σ H ρ vs ds rv Q R h e f
  unfold sumD at e
  split at e
  · rename_i xs
    cases q : intsOf xs with
    | none => rw [q] at e; cases e
    | some ns =>
      rw [q] at e
      injection e with e
      subst e
      obtain ⟨v, rfl, p, ws, rfl, hq, r⟩ := reds1 h
      rw [intsOf_eq q] at r
      have : ws = ns.map V.int := Reps.ints.mp r
      subst this
      exact ⟨_, cr_sum hc, p, ns, rfl, SqL.of hq, f.val R (rep_int.mpr rfl)⟩
  · cases e
end
end VL

set_option maxHeartbeats 200000
/-! The value layer: what a loop walks. -/
namespace VL
open PySem PySem.Spec L2

/-! ### a source: a list, a tuple, a text -/
inductive Sk where
  | l (a : Addr) | t (a : Addr) | s (z : Str)
def Sk.v : Sk → V
  | .l a => .ref a
  | .t a => .ref a
  | .s z => .str z
def sgn (c : Nat) : V := .str ⟨#[c]⟩
/-- the source is to be read, as these values -/
def sOk (K : PySem.W.Frag) (H : Hp) : Sk → List V → Prop
  | .l a, xs => SqL K H a xs
  | .t a, xs => SqT K H a xs
  | .s z, xs => xs = z.cps.toList.map sgn
def SI (h : Heap) (it : Addr) (i : Nat) : Sk → Prop
  | .l a => h.IsListIter it a i
  | .t a => h.IsTupleIter it a i
  | .s z => ∃ t, h.IsStrIter it (strIterType z) z t i
theorem SI.at {h h' : Heap} {it : Addr} {i : Nat} {k : Sk} (s : SI h it i k) (e : ∀ o, h.get? it = some o → h'.get? it = some o) : SI h' it i k := by
  cases k with
  | l a => exact Heap.IsListIter.at s e
  | t a => exact Heap.IsTupleIter.at s e
  | s z =>
    obtain ⟨t, o, e1, e2⟩ := s
    exact ⟨t, o, e o e1, e2⟩
theorem SI.live {h : Heap} {it : Addr} {i : Nat} {k : Sk} (s : SI h it i k) : ∃ o, h.get? it = some o ∧ ∀ v, o.data ≠ .cell v := by
  cases k with
  | l a =>
    obtain ⟨o, e, c, d⟩ := s
    exact ⟨o, e, fun v z => by rw [d] at z; cases z⟩
  | t a =>
    obtain ⟨o, e, c, d⟩ := s
    exact ⟨o, e, fun v z => by rw [d] at z; cases z⟩
  | s x =>
    obtain ⟨t, o, e, c, d⟩ := s
    exact ⟨o, e, fun v z => by rw [d] at z; cases z⟩
theorem fp_ne {X : Cx} {pins : List (Addr × Obj)} {σ : St} {H : Hp} {s : Shared} {a b : Addr} (I : Inv X pins σ H s) (f : FpOk X pins H b) (h : (∃ o, H a = some o) ∨ ∃ o, X.K.lookup a = some o) : a ≠ b := by
  rintro rfl
  rcases h with ⟨o, h⟩ | ⟨o, h⟩
  · rw [f.1] at h
    cases h
  · have e := I.ok.mod.kin a o h
    rcases f.2.2.2.1 with z | z
    · exact I.ok.noex a o e z
    · exact absurd (Nat.lt_of_lt_of_le (Heap.lt_size (I.ok.bs a o e).1) z) (Nat.lt_irrefl _)
theorem sqL_there {K : PySem.W.Frag} {H : Hp} {a : Addr} {xs : List V} (h : SqL K H a xs) : (∃ o, H a = some o) ∨ ∃ o, K.lookup a = some o := by
  rcases h with (h | ⟨o, h⟩) | ⟨o, its, n, h, _⟩
  · exact .inl ⟨_, h⟩
  · exact .inl ⟨_, h⟩
  · exact .inr ⟨_, h⟩
theorem sqT_there {K : PySem.W.Frag} {H : Hp} {a : Addr} {xs : List V} (h : SqT K H a xs) : (∃ o, H a = some o) ∨ ∃ o, K.lookup a = some o := by
  rcases h with (h | ⟨o, h⟩) | ⟨o, its, n, h, _⟩
  · exact .inl ⟨_, h⟩
  · exact .inl ⟨_, h⟩
  · exact .inr ⟨_, h⟩
/-- what is drawn from a source -/
theorem src_draws {X : Cx} {pins : List (Addr × Obj)} {σ : St} {H : Hp} {s : Shared} {k : Sk} {xs : List V} {it : Addr} (I : Inv X pins σ H s) (hc : X.calm = true) (h : sOk X.K H k xs) (f : FpOk X pins H it) (A : Around) (hA : A.handled = none) :
    ∃ (fp : List Addr) (St : Nat → Heap → Prop), Draws X.prog X.w A it fp xs.length (fun i v => ∃ x, xs[i]? = some x ∧ RelV x v) St ∧ it ∈ fp ∧
      (∀ b ∈ fp, b = it ∨ (∃ o, H b = some o) ∨ ∃ o, X.K.lookup b = some o) ∧ (∀ i, SI s.heap it i k → St i s.heap) ∧ ∀ i h', St i h' → SI h' it i k := by
  cases k with
  | l a =>
    have h : SqL X.K H a xs := h
    obtain ⟨its, rv, p, hz⟩ := I.list h
    have hne : a ≠ it := fp_ne I f (sqL_there h)
    have D := Draws.list (prog := X.prog) (w := X.w) hA it a hne its.toArray
    refine ⟨_, _, ⟨D.live, D.frame, fun i s Q E hi st hQ => ?_, fun s Q E st hE => ?_⟩, by simp, fun b hb => ?_, fun i si => ⟨si, p.isList⟩, fun i h' st => st.1⟩
    · have hi' : i < its.toArray.size := by simpa [rv.length] using hi
      refine D.item i s Q E hi' st fun x h' tk hx => hQ x h' tk ?_
      obtain ⟨y, hy⟩ : ∃ y, xs[i]? = some y := ⟨xs[i], by simp [hi]⟩
      obtain ⟨u, hu, ru⟩ := rv.get hy
      refine ⟨y, hy, ?_⟩
      have : u = x := by
        have h2 : its[i]? = some x := by simpa using hx
        rw [hu] at h2
        exact Option.some.inj h2
      rw [← this]
      exact ru
    · refine D.done s Q E ?_ hE
      have : its.toArray.size = xs.length := by simp [rv.length]
      rw [this]
      exact st
    · have hb' : b = it ∨ b = a := by simpa using hb
      rcases hb' with z | z
      · exact .inl z
      · rw [z]
        exact .inr (sqL_there h)
  | t a =>
    have h : SqT X.K H a xs := h
    obtain ⟨its, rv, p, hz⟩ := I.tuple h
    have hne : a ≠ it := fp_ne I f (sqT_there h)
    have D := Draws.tuple (prog := X.prog) (w := X.w) hA it a hne its.toArray
    refine ⟨_, _, ⟨D.live, D.frame, fun i s Q E hi st hQ => ?_, fun s Q E st hE => ?_⟩, by simp, fun b hb => ?_, fun i si => ⟨si, p⟩, fun i h' st => st.1⟩
    · have hi' : i < its.toArray.size := by simpa [rv.length] using hi
      refine D.item i s Q E hi' st fun x h' tk hx => hQ x h' tk ?_
      obtain ⟨y, hy⟩ : ∃ y, xs[i]? = some y := ⟨xs[i], by simp [hi]⟩
      obtain ⟨u, hu, ru⟩ := rv.get hy
      refine ⟨y, hy, ?_⟩
      have : u = x := by
        have h2 : its[i]? = some x := by simpa using hx
        rw [hu] at h2
        exact Option.some.inj h2
      rw [← this]
      exact ru
    · refine D.done s Q E ?_ hE
      have : its.toArray.size = xs.length := by simp [rv.length]
      rw [this]
      exact st
    · have hb' : b = it ∨ b = a := by simpa using hb
      rcases hb' with z | z
      · exact .inl z
      · rw [z]
        exact .inr (sqT_there h)
  | s z =>
    have h : xs = z.cps.toList.map sgn := h
    subst h
    have len : (z.cps.toList.map sgn).length = z.cps.size := by simp
    have lv : ∀ t i h, Heap.IsStrIter h it (strIterType z) z t i → ∃ o, h.get? it = some o := fun t i h st => let ⟨o, e, _⟩ := st; ⟨o, e⟩
    refine ⟨[it], fun i h => ∃ t, h.IsStrIter it (strIterType z) z t i, ⟨fun i h ⟨t, st⟩ => lv t i h st, fun i h h' ⟨t, st⟩ hk => ⟨t, (Draws.text (prog := X.prog) (w := X.w) hA it z t).frame i h h' st hk⟩, fun i s Q E hi st hQ => ?_, fun s Q E st hE => ?_⟩, by simp, fun b hb => .inl (by simpa using hb), fun i si => si, fun i h' st => st⟩
    · obtain ⟨t, st⟩ := st
      have D := Draws.text (prog := X.prog) (w := X.w) hA it z t
      rw [len] at hi
      refine D.item i s Q E hi st fun x h' tk hx st' sb => hQ x h' tk ?_ ⟨t, st'⟩ sb
      obtain ⟨c, u, e1, e2⟩ := hx
      refine ⟨sgn c, ?_, u, e2⟩
      rw [List.getElem?_map, Array.getElem?_toList, e1]
      rfl
    · obtain ⟨t, st⟩ := st
      have D := Draws.text (prog := X.prog) (w := X.w) hA it z t
      rw [len] at st
      exact D.done s Q E st hE

/-! ### enumerate, zip: each item in a new tuple -/
def JT (ok : Hp → Prop) (n : Nat) (item : Nat → List V) : It :=
  ⟨fun i H => ok H ∧ i < n, fun i H x H' => ∃ T, x = .ref T ∧ H T = none ∧ H' = upd H T (.tup (item i)), fun i H => ok H ∧ i = n⟩
theorem turn_T {P : Program} {w : World} {K : PySem.W.Frag} {elts : List Expr} {kk : Nat} {tpos : Pos} {it : Addr} {wr : List Addr} {n : Nat} {tn : Nat → Heap → Prop} {ok : Hp → Prop} {item : Nat → List V} {Pt : Nat → Array Value → Prop}
    (hmem : it ∈ wr) (hobj : ∀ i h, tn i h → ∀ b ∈ wr, ∃ o, h.get? b = some o ∧ ∀ v, o.data ≠ .cell v) (hkeep : ∀ i h h', tn i h → (∀ b ∈ wr, ∀ o, h.get? b = some o → h'.get? b = some o) → tn i h')
    (hpt : ∀ i vals, i < n → Pt i vals → Vals (item i) vals.toList) (hlen : ∀ i, (item i).length ≤ sizeLine) (hself : ∀ (A : Around) (i : Nat) (s : Shared) (Q : Value → Shared → Prop) (E : Value → Shared → Prop), tn i s.heap → Q (.ref it) s → wpAny (model P w) A (pyIter (.ref it)) Q E s)
    (fam : ∀ (X : Cx), X.prog = P → X.w = w → X.K = K → X.calm = true → ∀ (pins : List (Addr × Obj)) (s : Shared) (σ : St) (H : Hp), Inv X pins σ H s → (∀ b ∈ wr, FpOk X pins H b) → ok H → ∀ i, tn i s.heap →
      ∃ (fp wr2 : List Addr) (St : Nat → Heap → Prop) (Mid : Nat → Addr → Heap → Prop), WalksT P w X.A it fp wr2 n Pt St Mid ∧ (∀ b ∈ wr2, b ∈ wr) ∧ St i s.heap ∧ ∀ j h', St j h' → tn j h') :
    Turn P w K (.Tuple elts kk tpos) (JT ok n item) wr it tn where
  mem := hmem
  obj := hobj
  keep := hkeep
  item := by
    intro X hP hw hK hc i pins s σ H E I hf st hg
    subst hP hw hK
    obtain ⟨fp, wr2, St, Mid, W, hsub, s0, s1⟩ := fam X rfl rfl rfl hc pins s σ H I hf hg.1 i st
    refine W.item i s _ _ hg.2 s0 fun T vals h' tk hP hT hTup hMid hk => ⟨.ref T, rfl, W.go elts kk tpos i T { s with heap := h', toks := tk } _ _ hMid fun h2 hSt hk2 => ?_⟩
    have hap : T ∉ wr2 := W.apart i T h' hMid
    obtain ⟨o, ho, ho2⟩ := hTup
    have hTup2 : h2.IsTuple T vals := ⟨o, hk2 T o hap ho, ho2⟩
    have rv := hpt i vals hg.2 hP
    have new : ObjOk X.prog X.w (upd H T (.tup (item i))) h2 T (.tup (item i)) := ⟨hlen i, vals.toList, rv, show h2.IsTuple T vals.toList.toArray by simpa using hTup2⟩
    have hn : H T = none := I.hok.fresh hT
    have I1 : Inv X pins σ (upd H T (.tup (item i))) { s with heap := h2, toks := tk } :=
      I.turnedNew (ch := wr2) (fun b ob hb q => hk2 b ob hb (hk b ob hb q)) (fun b hb => hf b (hsub b hb)) hT new
    refine ⟨.ref T, _, I1, rfl, ⟨T, rfl, hn, rfl⟩, s1 _ _ hSt, fun b hb => ?_⟩
    obtain ⟨ob, hob, _⟩ := hobj i _ st b hb
    have : b < s.heap.objs.size := Heap.lt_size hob
    rw [upd_ne (Nat.ne_of_lt (Nat.lt_of_lt_of_le this hT))]
    exact (hf b hb).1
  done := by
    intro X hP hw hK hc i pins s σ H E I hf st hg
    subst hP hw hK
    obtain ⟨fp, wr2, St, Mid, W, hsub, s0, s1⟩ := fam X rfl rfl rfl hc pins s σ H I hf hg.1 i st
    have e : i = n := hg.2
    rw [e] at s0
    refine W.done s _ _ s0 fun h' tk hk => ⟨rfl, ?_⟩
    refine I.step (g' := s.gens) (d' := s.drawn) (ch := wr2) (fun b hb => ?_) (fun b o _ _ hc e _ => hk b o hc e) (fun b o _ _ hc e _ => ⟨o.slots, hk b o hc e⟩) (fun _ _ _ _ n => n)
      (fun b o hc e => ⟨o, hk b o hc e⟩) (fun _ _ e => e) (fun _ _ _ e => e) (fun b ps e => ⟨#[], by rw [e]; simp⟩) (fun m hm => ?_) (fun b u e => ?_) I.bare
    · have q := hf b (hsub b hb)
      exact ⟨q.2.2.2.1, q.2.1, q.2.2.2.2.1, q.2.2.2.2.2⟩
    · obtain ⟨o, es, ep, ho, r⟩ := hm
      exact ⟨o, es, ep, hk _ o (fun z => (hf _ (hsub _ z)).2.1 rfl) ho, r⟩
    · have nin : ∀ {c : Addr} {u : HO}, H c = some u → c ∉ wr2 := fun {c u} e z => by
        have := (hf c (hsub c z)).1
        rw [e] at this
        cases this
      refine (I.hok b u e).stay (fun c v hc q => hk c v ?_ q) (fun _ q => q) fun _ _ q => q
      rcases hc with z | z
      · rw [z]
        exact nin e
      · exact nin z
  self := hself
end VL

set_option maxHeartbeats 200000
/-! The value layer: enumerate and zip over any sources. -/
namespace PySem
open Sem (wp)
set_option maxHeartbeats 1000000 in
theorem vl_enum_new {v : Value} {o : Obj} {H : Heap → Prop} (B : Begins v o H) : Meets (Builtin.«enumerate.__new__» ⟨[.type "enumerate", v], []⟩) (fun _ R s => H s.heap ∧
      R (.ok (.ret (.ref (s.heap.push o).objs.size))) { s with heap := (s.heap.push o).push { cls := .type "enumerate", data := .fields #[.none, .bool false, .ref s.heap.objs.size, rawInt 0, .none, .none] } }) :=
  .of_wp fun prog w A R s h => by
    obtain ⟨hp, g, d, tk, os⟩ := s; obtain ⟨h1, h⟩ := h
    have hsub := sub_enumerate
    have q1 : ∀ {A' : Around} {E : Value → Shared → Prop} {Q : Value → Shared → Prop}, Q (.ref hp.objs.size) ⟨hp.push o, g, d, tk, os⟩ → wpAny (model prog w) A' (pyIter v) Q E ⟨hp, g, d, tk, os⟩ :=
      fun q => B.iter prog w _ _ ⟨hp, g, d, tk, os⟩ _ h1 q
    wp_walk using q1
    refine wpAny_stack_any fun st => wpAny_pure ?_
    split
    · rename_i c _ _ _ _ _
      cases (c == Value.type "enumerate")
      · wp_walk using q1
        exact ⟨_, rfl, h⟩
      · wp_walk using q1
        exact ⟨_, rfl, h⟩
    · wp_walk using q1
      exact ⟨_, rfl, h⟩
theorem vl_enum1 {prog : Program} {w : World} {A : Around} {E : Value → Shared → Prop} {s : Shared} {v : Value} {o : Obj} {H : Heap → Prop} {Q : Value → Shared → Prop} (B : Begins v o H) (h1 : H s.heap)
    (h : ∀ h', IsEnum h' (s.heap.objs.size + 1) s.heap.objs.size 0 .none → h'.get? s.heap.objs.size = some o → h'.objs.size = s.heap.objs.size + 2 →
      (∀ b o, s.heap.get? b = some o → h'.get? b = some o) → Q (.ref (s.heap.objs.size + 1)) { s with heap := h' }) : wpAny (model prog w) A (call (.type "enumerate") [v]) Q E s := by
  refine callType_new F.called_enumerate (by decide) (F.typeCall_enumerate_1 _) (F.newCall_enumerate_1 _) (fun obj => F.args_object_init_2 obj _) F.entry_enumerate_new (vl_enum_new B) ⟨h1, ?_⟩
  have hz : (s.heap.push o).objs.size = s.heap.objs.size + 1 := Heap.size_push ..
  show _ ∧ _
  rw [hz]
  have he := Heap.get?_push_size (s.heap.push o) (o := { cls := .type "enumerate", data := .fields #[.none, .bool false, .ref s.heap.objs.size, rawInt 0, .none, .none] }) rfl
  rw [hz] at he
  refine ⟨⟨_, he, rfl⟩, h _ he (Heap.get?_push_of_some _ (Heap.get?_push_size _ B.free)) (by rw [Heap.size_push, hz]) fun b o x => Heap.get?_push_of_some _ (Heap.get?_push_of_some _ x)⟩
end PySem

namespace VL
open PySem PySem.Spec L2
section
variable {X : Cx} {pins : List (Addr × Obj)} {σ : St} {H : Hp} {s : Shared}
/-- a source begins -/
theorem src_begins {k : Sk} {xs : List V} {v : Value} (I : Inv X pins σ H s) (h : sOk X.K H k xs) (r : RelV k.v v) :
    ∃ (o : Obj) (HB : Heap → Prop), Begins v o HB ∧ HB s.heap ∧ ∀ h' it, h'.get? it = some o → SI h' it 0 k := by
  cases k with
  | l a =>
    have h : SqL X.K H a xs := h
    obtain ⟨its, rv, p, hz⟩ := I.list h
    have e : v = .ref a := r
    subst e
    exact ⟨_, _, begins_list a its.toArray, p.isList, fun h' it e => ⟨_, e, rfl, rfl⟩⟩
  | t a =>
    have h : SqT X.K H a xs := h
    obtain ⟨its, rv, p, hz⟩ := I.tuple h
    have e : v = .ref a := r
    subst e
    exact ⟨_, _, begins_tuple a its.toArray, p, fun h' it e => ⟨_, e, rfl, rfl⟩⟩
  | s z =>
    obtain ⟨t, rfl⟩ := r
    exact ⟨_, _, begins_text z t, trivial, fun h' it e => ⟨t, _, e, rfl, rfl⟩⟩
def enumItem (j : Int) (xs : List V) (i : Nat) : List V := [.int (j + (i : Int)), xs.getD i .non]
theorem getD_of {α : Type} {xs : List α} {i : Nat} {x d : α} (h : xs[i]? = some x) : xs.getD i d = x := by
  rw [List.getD_eq_getElem?_getD, h]
  rfl
theorem turn_en {P : Program} {w : World} {K : PySem.W.Frag} {elts : List Expr} {kk : Nat} {tpos : Pos} {k : Sk} {xs : List V} (j : Int) (e it : Addr) :
    Turn P w K (.Tuple elts kk tpos) (JT (fun H => sOk K H k xs) xs.length (enumItem j xs)) [e, it] e (fun i h => (∃ old, IsEnum h e it (j + (i : Int)) old) ∧ SI h it i k ∧ e ≠ it) := by
  refine turn_T (wr := [e, it]) (Pt := fun i vals => ∃ t x, (∃ y, xs[i]? = some y ∧ RelV y x) ∧ vals = #[.int (j + (i : Int)) t, x]) (by simp) (fun i h st b hb => ?_) (fun i h h' st kp => ?_) (fun i vals hi hp => ?_) (fun i => ?_) (fun A i s Q E st q => ?_) ?_
  · obtain ⟨⟨old, he⟩, si, _⟩ := st
    have e' : b = e ∨ b = it := by simpa using hb
    rcases e' with z | z
    · rw [z]
      exact ⟨_, he, fun v q => nomatch q⟩
    · rw [z]
      exact si.live
  · obtain ⟨⟨old, he⟩, si, ne⟩ := st
    exact ⟨⟨old, kp e (by simp) _ he⟩, si.at fun o q => kp it (by simp) o q, ne⟩
  · obtain ⟨t, x, ⟨y, hy, ry⟩, rfl⟩ := hp
    unfold enumItem
    rw [getD_of hy]
    exact .cons ⟨t, rfl⟩ (.cons ry .nil)
  · show 2 ≤ sizeLine
    decide
  · obtain ⟨⟨old, he⟩, _⟩ := st
    exact wpAny_pyIter_enum he q
  · intro X hP hw hK hc pins s σ H I hf hok i st
    subst hP hw hK
    obtain ⟨⟨old, he⟩, si, ne⟩ := st
    obtain ⟨fp, St, D, hm, hfp, s0, s1⟩ := src_draws I hc hok (hf it (by simp)) X.A.in1 (I.ok.hd hc)
    have hef : e ∉ fp := fun z => by
      rcases hfp e z with q | q
      · exact ne q
      · exact fp_ne I (hf e (by simp)) q rfl
    exact ⟨_, _, _, _, WalksT.enumFrom j D e ne hef hm, fun b hb => hb, ⟨⟨old, he⟩, s0 i si⟩, fun i' h' st' => ⟨st'.1, s1 _ _ st'.2, ne⟩⟩
/-- enumerate(source): what its call gives, walked -/
theorem enum_it {k : Sk} {xs : List V} {v : Value} {R : It → Hp → Prop} {E : Value → Shared → Prop} {elts : List Expr} {kk : Nat} {tpos : Pos} (I : Inv X pins σ H s) (h : sOk X.K H k xs) (r : RelV k.v v)
    (q : R (JT (fun H => sOk X.K H k xs) xs.length (enumItem 0 xs)) H) : wpAny (model X.prog X.w) X.A (call (.type "enumerate") [v]) (fun v' s1 => wpAny (model X.prog X.w) X.A (pyIter v') (PIE X pins σ (.Tuple elts kk tpos) R) E s1) E s := by
  obtain ⟨o, HB, B, hb, si⟩ := src_begins I h r
  refine vl_enum1 B hb fun h' he ho hsz hk => wpAny_pyIter_enum he ?_
  have I2 : Inv X pins σ H { s with heap := h' } := I.kept (t' := s.toks) hk
  refine ⟨s.heap.objs.size + 1, [s.heap.objs.size + 1, s.heap.objs.size], _, _, H, rfl, I2, turn_en 0 (s.heap.objs.size + 1) s.heap.objs.size, ⟨⟨.none, ?_⟩, si _ _ ho, Nat.succ_ne_self _⟩, fun b hb => ?_, q⟩
  · have e0 : (0 : Int) + ((0 : Nat) : Int) = 0 := by decide
    rw [e0]
    exact he
  · have e' : b = s.heap.objs.size + 1 ∨ b = s.heap.objs.size := by simpa using hb
    have hle : s.heap.objs.size ≤ b := by
      rcases e' with z | z
      · rw [z]; exact Nat.le_add_right _ _
      · rw [z]; exact Nat.le_refl _
    exact I.fpOk hle (I.hok.fresh hle)
def iEnumK (K : PySem.W.Frag) (ta : TA) : TI := fun σ H R => ta σ H fun vs H1 => ∃ (k : Sk) (xs : List V), vs = [k.v] ∧ sOk K H1 k xs ∧ R (JT (fun H => sOk K H k xs) xs.length (enumItem 0 xs)) H1
theorem pi_enumK {e : Expr} {ta : TA} {p pos tpos : Pos} {elts : List Expr} {kk : Nat} (hg : Gl X "enumerate") (hm : X.mg "enumerate" = none) (ha : PA X [e] ta) (hs : starEach [e] X.env = [(false, eval e X.env)]) :
    PI X (.Tuple elts kk tpos) (.Call (.Name "enumerate" p) [e] [] pos) (iEnumK X.K ta) := by
  refine ⟨fun pins s σ H R I h => ?_⟩
  refine PyProof.Rows.Call_ (ld_blt I hg hm PyProof.Rows.boot_enumerate (PyProof.Rows.callWith_type1 (thn (ha.run pos pins s σ H _ I h) fun us s1 ⟨vs, H1, I1, r1, k, xs, ev, ok, q⟩ => ?_) hs rfl))
  subst ev
  obtain ⟨u, rfl, ru⟩ := vals1 r1
  exact enum_it I1 ok ru q
/-! ### zip -/
theorem apart5 (n : Nat) : ([n + 4, n + 2, n + 3, n, n + 1] : List Nat).Nodup := by
  simp only [List.nodup_cons, List.mem_cons, List.not_mem_nil, or_false, not_or, List.nodup_nil, and_true, not_false_eq_true]
  refine ⟨⟨?_, ?_, ?_, ?_⟩, ⟨?_, ?_, ?_⟩, ⟨?_, ?_⟩, ?_⟩ <;> omega
theorem apart5' (n b : Nat) (h : b = n + 4 ∨ b = n + 2 ∨ b = n + 3 ∨ b = n ∨ b = n + 1) : n ≤ b := by omega
def zipItem (xs ys : List V) (i : Nat) : List V := [xs.getD i .non, ys.getD i .non]
theorem turn_zp {P : Program} {w : World} {K : PySem.W.Frag} {elts : List Expr} {kk : Nat} {tpos : Pos} {k1 k2 : Sk} {xs ys : List V} (z TI TO i1 i2 : Addr) (hd : [z, TI, TO, i1, i2].Nodup) :
    Turn P w K (.Tuple elts kk tpos) (JT (fun H => sOk K H k1 xs ∧ sOk K H k2 ys) (min xs.length ys.length) (zipItem xs ys)) [z, TI, TO, i1, i2] z
      (fun i h => IsZip h z TI TO .none ∧ IsTupOf2 h TI (.ref i1) (.ref i2) ∧ (∃ a1 a2, IsTupOf2 h TO a1 a2) ∧ SI h i1 i k1 ∧ SI h i2 i k2) := by
  simp only [List.nodup_cons, List.mem_cons, List.not_mem_nil, or_false, not_or, List.nodup_nil, and_true] at hd
  obtain ⟨⟨n1, n2, n3, n4⟩, ⟨n5, n6, n7⟩, ⟨n8, n9⟩, n10, _⟩ := hd
  refine turn_T (wr := [z, TI, TO, i1, i2]) (Pt := fun i vals => ∃ x1 x2, (∃ y, xs[i]? = some y ∧ RelV y x1) ∧ (∃ y, ys[i]? = some y ∧ RelV y x2) ∧ vals = #[x1, x2]) (by simp) (fun i h st b hb => ?_) (fun i h h' st kp => ?_) (fun i vals hi hp => ?_) (fun i => ?_) (fun A i s Q E st q => ?_) ?_
  · obtain ⟨hz, ht, ⟨a1, a2, ho⟩, s1, s2⟩ := st
    have e' : b = z ∨ b = TI ∨ b = TO ∨ b = i1 ∨ b = i2 := by simpa using hb
    rcases e' with e | e | e | e | e
    · rw [e]; exact ⟨_, hz, fun v q => nomatch q⟩
    · rw [e]; exact ⟨_, ht, fun v q => nomatch q⟩
    · rw [e]; exact ⟨_, ho, fun v q => nomatch q⟩
    · rw [e]; exact s1.live
    · rw [e]; exact s2.live
  · obtain ⟨hz, ht, ⟨a1, a2, ho⟩, s1, s2⟩ := st
    exact ⟨kp z (by simp) _ hz, kp TI (by simp) _ ht, ⟨a1, a2, kp TO (by simp) _ ho⟩, s1.at fun o q => kp i1 (by simp) o q, s2.at fun o q => kp i2 (by simp) o q⟩
  · obtain ⟨x1, x2, ⟨y1, hy1, r1⟩, ⟨y2, hy2, r2⟩, rfl⟩ := hp
    unfold zipItem
    rw [getD_of hy1, getD_of hy2]
    exact .cons r1 (.cons r2 .nil)
  · show 2 ≤ sizeLine
    decide
  · exact wpAny_pyIter_zip st.1 q
  · intro X hP hw hK hc pins s σ H I hf hok i st
    subst hP hw hK
    obtain ⟨hz, ht, ho, si1, si2⟩ := st
    obtain ⟨fp1, St1, D1, hm1, hfp1, s01, s11⟩ := src_draws I hc hok.1 (hf i1 (by simp)) X.A.in1 (I.ok.hd hc)
    obtain ⟨fp2, St2, D2, hm2, hfp2, s02, s12⟩ := src_draws I hc hok.2 (hf i2 (by simp)) X.A.in1 (I.ok.hd hc)
    have no1 : ∀ b, b ∈ ([z, TI, TO, i1, i2] : List Addr) → b ≠ i1 → b ∉ fp1 := fun b hb hne q => by
      rcases hfp1 b q with e | e
      · exact hne e
      · exact fp_ne I (hf b hb) e rfl
    have no2 : ∀ b, b ∈ ([z, TI, TO, i1, i2] : List Addr) → b ≠ i2 → b ∉ fp2 := fun b hb hne q => by
      rcases hfp2 b q with e | e
      · exact hne e
      · exact fp_ne I (hf b hb) e rfl
    have S : ZipSep2 z TI TO i1 i2 fp1 fp2 := by
      constructor <;> first | assumption | exact Ne.symm (by assumption) | exact no1 _ (by simp) (by first | assumption | exact Ne.symm (by assumption)) | exact no2 _ (by simp) (by first | assumption | exact Ne.symm (by assumption))
    exact ⟨_, _, _, _, WalksT.zipD2 S D1 D2, fun b hb => by
      have : b = z ∨ b = TO ∨ b = i1 ∨ b = i2 := by simpa using hb
      rcases this with e | e | e | e <;> simp [e], ⟨hz, ht, ho, s01 i si1, s02 i si2⟩, fun i' h' st' => ⟨st'.1, st'.2.1, st'.2.2.1, s11 _ _ st'.2.2.2.1, s12 _ _ st'.2.2.2.2⟩⟩
theorem zip_it {k1 k2 : Sk} {xs ys : List V} {v u : Value} {R : It → Hp → Prop} {E : Value → Shared → Prop} {elts : List Expr} {kk : Nat} {tpos : Pos} (I : Inv X pins σ H s) (h1 : sOk X.K H k1 xs) (h2 : sOk X.K H k2 ys) (r1 : RelV k1.v v) (r2 : RelV k2.v u)
    (q : R (JT (fun H => sOk X.K H k1 xs ∧ sOk X.K H k2 ys) (min xs.length ys.length) (zipItem xs ys)) H) :
    wpAny (model X.prog X.w) X.A (call (.type "zip") [v, u]) (fun v' s1 => wpAny (model X.prog X.w) X.A (pyIter v') (PIE X pins σ (.Tuple elts kk tpos) R) E s1) E s := by
  obtain ⟨o1, HB1, B1, hb1, si1⟩ := src_begins I h1 r1
  obtain ⟨o2, HB2, B2, hb2, si2⟩ := src_begins I h2 r2
  refine zip_begins2 B1 B2 hb1 hb2 fun h' hz hTI hTO e1 e2 hsz hk => wpAny_pyIter_zip hz ?_
  have I2 : Inv X pins σ H { s with heap := h' } := I.kept (t' := s.toks) hk
  refine ⟨s.heap.objs.size + 4, [s.heap.objs.size + 4, s.heap.objs.size + 2, s.heap.objs.size + 3, s.heap.objs.size, s.heap.objs.size + 1], _, _, H, rfl, I2, turn_zp (s.heap.objs.size + 4) (s.heap.objs.size + 2) (s.heap.objs.size + 3) s.heap.objs.size (s.heap.objs.size + 1) ?_,
    ⟨hz, hTI, ⟨_, _, hTO⟩, si1 _ _ e1, si2 _ _ e2⟩, fun b hb => ?_, q⟩
  · exact apart5 _
  · have hle : s.heap.objs.size ≤ b := apart5' _ b (by simpa using hb)
    exact I.fpOk hle (I.hok.fresh hle)
def iZipK (K : PySem.W.Frag) (ta : TA) : TI := fun σ H R => ta σ H fun vs H1 => ∃ (k1 k2 : Sk) (xs ys : List V), vs = [k1.v, k2.v] ∧ sOk K H1 k1 xs ∧ sOk K H1 k2 ys ∧ R (JT (fun H => sOk K H k1 xs ∧ sOk K H k2 ys) (min xs.length ys.length) (zipItem xs ys)) H1
theorem pi_zipK {e e2 : Expr} {ta : TA} {p pos tpos : Pos} {elts : List Expr} {kk : Nat} (hg : Gl X "zip") (hm : X.mg "zip" = none) (ha : PA X [e, e2] ta)
    (hs : starEach [e, e2] X.env = (false, eval e X.env) :: starEach [e2] X.env) (hpl : (backTo pos (starEach [e2] X.env)).any (·.1) = false) :
    PI X (.Tuple elts kk tpos) (.Call (.Name "zip" p) [e, e2] [] pos) (iZipK X.K ta) := by
  refine ⟨fun pins s σ H R I h => ?_⟩
  refine PyProof.Rows.Call_ (ld_blt I hg hm PyProof.Rows.boot_zip (PyProof.Rows.callWith_type1 (thn (ha.run pos pins s σ H _ I h) fun us s1 ⟨vs, H1, I1, r1, k1, k2, xs, ys, ev, o1, o2, q⟩ => ?_) hs hpl))
  subst ev
  obtain ⟨u, w', rfl, ru, rw'⟩ := vals2 r1
  exact zip_it I1 o1 o2 ru rw' q
end
end VL

set_option maxHeartbeats 200000
/-! The value layer: what is walked as data; targets; blocks, loops. -/
namespace VL
open PySem PySem.Spec L2

/-- J gives the data ds one by one while the frozen part and the entry's heap stand -/
structure Wk (G : Gx) (B : Bx) (J : It) (ds : List D) (F : Hp) : Prop where
  go : ∀ {F' H' : Hp} {i : Nat}, Sub F F' → Sub F' H' → Sub B.H0 H' → i < ds.length → J.go i H'
  stop : ∀ {F' H' : Hp} {i : Nat}, Sub F F' → Sub F' H' → Sub B.H0 H' → i = ds.length → J.stop i H'
  yld : ∀ {F' H' H2 : Hp} {i : Nat} {x : V}, Sub F F' → Sub F' H' → Sub B.H0 H' → i < ds.length → J.yld i H' x H2 →
    ∃ F2 d, Sub H' H2 ∧ Sub F' F2 ∧ Sub F2 H2 ∧ (∀ a o, F2 a = some o → F' a = some o ∨ H' a = none) ∧ ds[i]? = some d ∧ Rep G F2 d x
def okW (G : Gx) (B : Bx) : OkK (List D) It := ⟨fun _ F _ _ ds J => Wk G B J ds F, fun _ k => k⟩
structure VI (X : Cx) (G : Gx) (W : WX) (tg iter : Expr) (m : M (List D)) : Prop where
  run : ∀ B, PI X tg iter (tM G B W (fun _ => okW G B) m)
theorem pi_imp {X : Cx} {tg e : Expr} {t t' : TI} (h : PI X tg e t) (k : ∀ σ H Q, t' σ H Q → t σ H Q) : PI X tg e t' := ⟨fun pins s σ H Q I q => h.run pins s σ H Q I (k σ H Q q)⟩
theorem pi_or {X : Cx} {tg e : Expr} {t u : TI} (h : PI X tg e t) (h' : PI X tg e u) : PI X tg e (fun σ H R => t σ H R ∨ u σ H R) := ⟨fun pins s σ H R I q => q.elim (h.run pins s σ H R I) (h'.run pins s σ H R I)⟩

section
variable {X : Cx} {G : Gx} {W : WX} {B : Bx} {tg a b c e : Expr} {ma mb mc : M Rv} {pos : Pos}
/-! ### sources as data -/
/-- the items of a thing that is walked -/
def itemsD : D → Option (List D)
  | .lst xs => some xs
  | .tup xs => some xs
  | .str s => some (signs s)
  | .scr ns => some (ns.map D.int)
  | _ => none
theorem reps_signs {F : Hp} : ∀ s : List Nat, Reps G F (signs s) (s.map sgn)
  | [] => reps_nil.mpr rfl
  | c :: s => reps_cons.mpr ⟨rep_str.mpr rfl, reps_signs s⟩
/-- a source that stands still: in the frozen part, or at the entry (or neither: a text, a thing of the module) -/
structure Still (G : Gx) (B : Bx) (K : PySem.W.Frag) (k : Sk) (vs : List V) (ds : List D) (F : Hp) : Prop where
  ok : ∀ {F' H' : Hp}, Sub F F' → Sub F' H' → Sub B.H0 H' → sOk K H' k vs
  reps : Reps G F ds vs
theorem Still.mono {K : PySem.W.Frag} {k : Sk} {vs : List V} {ds : List D} {F F' : Hp} (s : Still G B K k vs ds F) (f : Sub F F') : Still G B K k vs ds F' := ⟨fun f1 f2 f3 => s.ok (f.tr f1) f2 f3, s.reps.mono f⟩
theorem still_rep {K : PySem.W.Frag} (hK : G.K = K) {F : Hp} {d : D} {v : V} {ds : List D} (h : Rep G F d v) (e : itemsD d = some ds) : ∃ k vs, v = k.v ∧ Still G B K k vs ds F := by
  cases d with
  | lst xs =>
    injection e with e
    subst e
    obtain ⟨p, vs, rfl, q, r⟩ := rep_lst.mp h
    exact ⟨.l p, vs, rfl, fun f1 f2 _ => SqL.of (f2 _ _ (f1 _ _ q)), r⟩
  | tup xs =>
    injection e with e
    subst e
    obtain ⟨p, vs, rfl, q, r⟩ := rep_tup.mp h
    exact ⟨.t p, vs, rfl, fun f1 f2 _ => hK ▸ f2.sqT (f1.sqT q), r⟩
  | str s =>
    injection e with e
    subst e
    refine ⟨.s (toS s), s.map sgn, rep_str.mp h, fun _ _ _ => ?_, reps_signs s⟩
    show s.map sgn = s.toArray.toList.map sgn
    rw [List.toList_toArray]
  | scr ns =>
    injection e with e
    subst e
    unfold Rep at h
    obtain ⟨p, rfl, q⟩ := h
    exact ⟨.l p, ns.map V.int, rfl, fun f1 f2 _ => hK ▸ f2.sqL (f1.sqL q), Reps.ints.mpr rfl⟩
  | _ => cases e
theorem still_red {K : PySem.W.Frag} (hK : G.K = K) {F : Hp} {d : D} {v : V} {ds : List D} (h : Red G F B.H0 d v) (e : itemsD d = some ds) : ∃ k vs, v = k.v ∧ Still G B K k vs ds F := by
  cases d with
  | lst xs =>
    injection e with e
    subst e
    obtain ⟨p, vs, rfl, q, r⟩ := h
    exact ⟨.l p, vs, rfl, fun _ _ f => SqL.of (f _ _ q), r⟩
  | tup xs => exact still_rep hK (show Rep G F (.tup xs) v from h) e
  | str s => exact still_rep hK (show Rep G F (.str s) v from h) e
  | scr ns => exact still_rep hK (show Rep G F (.scr ns) v from h) e
  | _ => cases e
/-- a result as a source: a temp is frozen; what a slot owns is not walked (it is frozen ahead of the loop) -/
def ofO {α : Type} : Option α → M α
  | some x => M.pure x
  | none => bad
def roD : Option (Option (Md × D)) → Option D
  | some (some (.ro, d)) => some d
  | _ => none
def srcM : Rv → M (List D)
  | .sh d => ofO (itemsD d)
  | .tm d => ofO (itemsD d)
  | .pk i => fun ρ => ofO ((roD ρ[i]?).bind itemsD) ρ
theorem roD_some {o : Option (Option (Md × D))} {d : D} (h : roD o = some d) : o = some (some (.ro, d)) := by
  unfold roD at h
  split at h
  · injection h with h
    subst h
    rfl
  · cases h
/-- to use a source: what Post asks behind it -/
theorem src_go (hK : G.K = X.K) {σ : St} {F F1 H H1 : Hp} {own own1 : OwnM} {ρ : VEnv} {r : Rv} {v : V} {α β : Type} {ok' : OkK α β} {k : List D → M α} {Q : β → Hp → Prop} (g : Grow own own1 H H1 F F1) (R : Rl G B F1 own1 σ H1 ρ) (q : RvOk G B σ H F1 own1 H1 r v)
    (P : Post G B W σ ok' own F H ((srcM r ρ).bind k) Q) :
    ∃ ds sk vs F2, srcM r ρ = .ok ds ρ ∧ v = sk.v ∧ Still G B X.K sk vs ds F2 ∧ Grow own own1 H H1 F F2 ∧ Rl G B F2 own1 σ H1 ρ ∧ Sub F1 F2 ∧ Post G B W σ ok' own F H (k ds ρ) Q := by
  cases r with
  | sh d =>
    have P : Post G B W σ ok' own F H ((ofO (itemsD d) ρ).bind k) Q := P
    cases e : itemsD d with
    | none =>
      rw [e] at P
      exact P.elim
    | some ds =>
      rw [e] at P
      obtain ⟨sk, vs, ev, st⟩ := still_rep (B := B) hK (show Rep G F1 d v from q) e
      exact ⟨ds, sk, vs, F1, by show ofO (itemsD d) ρ = _; rw [e]; rfl, ev, st, g, R, Sub.rfl', P⟩
  | tm d =>
    have P : Post G B W σ ok' own F H ((ofO (itemsD d) ρ).bind k) Q := P
    cases e : itemsD d with
    | none =>
      rw [e] at P
      exact P.elim
    | some ds =>
      rw [e] at P
      obtain ⟨p, o, ev, h1, h2, h3, h4, h5⟩ := q
      subst ev
      have rp := h5.rep (sub_upd h2) (upd_same (H := F1) (a := p) (o := o))
      obtain ⟨sk, vs, ev, st⟩ := still_rep (B := B) hK rp e
      refine ⟨ds, sk, vs, upd F1 p o, by show ofO (itemsD d) ρ = _; rw [e]; rfl, ev, st, ⟨g.keep, g.dom, g.frz.tr (sub_upd h2), fun b u z => ?_, g.own⟩, R.freeze h1 h2 h3.2 h4, sub_upd h2, P⟩
      by_cases hb : b = p
      · exact .inr (.inl (by rw [hb]; exact h3.1))
      · rw [upd_ne hb] at z
        exact g.new b u z
  | pk i =>
    have P : Post G B W σ ok' own F H ((ofO ((roD ρ[i]?).bind itemsD) ρ).bind k) Q := P
    cases e0 : roD ρ[i]? with
    | none =>
      rw [e0] at P
      exact P.elim
    | some d =>
      rw [e0] at P
      have P : Post G B W σ ok' own F H ((ofO (itemsD d) ρ).bind k) Q := P
      cases e : itemsD d with
      | none =>
        rw [e] at P
        exact P.elim
      | some ds =>
        rw [e] at P
        obtain ⟨w, hw, st⟩ := R.slot i _ (roD_some e0)
        have hv : σ[i]? = some (some v) := q
        rw [hv] at hw
        injection hw with hw
        injection hw with hw
        subst hw
        obtain ⟨sk, vs, ev, st⟩ := still_red hK (show Red G F1 B.H0 d v from st) e
        exact ⟨ds, sk, vs, F1, by show ofO ((roD ρ[i]?).bind itemsD) ρ = _; rw [e0]; show ofO (itemsD d) ρ = _; rw [e]; rfl, ev, st, g, R, Sub.rfl', P⟩
/-! ### for x in a source -/
def itPlain (K : PySem.W.Frag) : Sk → It
  | .l a => Itl K a
  | .t a => Itt K a
  | .s z => Its z
def iSrc (K : PySem.W.Frag) (te : TE) : TI := fun σ H R => te σ H fun x H1 => ∃ k vs, x = Sk.v k ∧ sOk K H1 k vs ∧ R (itPlain K k) H1
theorem wk_src {k : Sk} {vs : List V} {ds : List D} {F : Hp} {K : PySem.W.Frag} (s : Still G B K k vs ds F) : Wk G B (itPlain K k) ds F := by
  have len := s.reps.len
  cases k with
  | l p =>
    refine ⟨fun {F' H' i} f1 f2 f3 hi => ⟨vs, vs[i]'(by omega), s.ok f1 f2 f3, by simp [← len, hi]⟩, fun {F' H' i} f1 f2 f3 hi => ⟨vs, s.ok f1 f2 f3, by omega⟩, fun {F' H' H2 i x} f1 f2 f3 hi y => ?_⟩
    obtain ⟨e, y⟩ := y
    subst e
    have hx := y vs (s.ok f1 f2 f3)
    obtain ⟨d, e, r⟩ := s.reps.get hx
    exact ⟨F', d, Sub.rfl', Sub.rfl', f2, fun _ _ z => .inl z, e, Rep.mono f1 r⟩
  | t p =>
    refine ⟨fun {F' H' i} f1 f2 f3 hi => ⟨vs, vs[i]'(by omega), s.ok f1 f2 f3, by simp [← len, hi]⟩, fun {F' H' i} f1 f2 f3 hi => ⟨vs, s.ok f1 f2 f3, by omega⟩, fun {F' H' H2 i x} f1 f2 f3 hi y => ?_⟩
    obtain ⟨e, y⟩ := y
    subst e
    have hx := y vs (s.ok f1 f2 f3)
    obtain ⟨d, e, r⟩ := s.reps.get hx
    exact ⟨F', d, Sub.rfl', Sub.rfl', f2, fun _ _ z => .inl z, e, Rep.mono f1 r⟩
  | s z =>
    have hz : ∀ {F' H' : Hp}, Sub F F' → Sub F' H' → Sub B.H0 H' → vs = z.cps.toList.map sgn := fun f1 f2 f3 => s.ok f1 f2 f3
    have lz : ∀ {F' H' : Hp}, Sub F F' → Sub F' H' → Sub B.H0 H' → z.cps.size = ds.length := fun f1 f2 f3 => by
      rw [len, hz f1 f2 f3]
      simp
    refine ⟨fun {F' H' i} f1 f2 f3 hi => ?_, fun {F' H' i} f1 f2 f3 hi => ?_, fun {F' H' H2 i x} f1 f2 f3 hi y => ?_⟩
    · show i < z.cps.size
      rw [lz f1 f2 f3]
      exact hi
    · show z.cps.size ≤ i
      rw [lz f1 f2 f3, hi]
      exact Nat.le_refl _
    · obtain ⟨e, cc, y, ex⟩ := y
      subst e ex
      have hx : vs[i]? = some (sgn cc) := by
        rw [hz f1 f2 f3, List.getElem?_map, Array.getElem?_toList, y]
        rfl
      obtain ⟨d, e, r⟩ := s.reps.get hx
      exact ⟨F', d, Sub.rfl', Sub.rfl', f2, fun _ _ z => .inl z, e, Rep.mono f1 r⟩
theorem pi_src {te : TE} (he : PE X e te) : PI X tg e (iSrc X.K te) := by
  have h := pi_or (pi_or (pi_list (tg := tg) he) (pi_tup (tg := tg) he)) (pi_str (tg := tg) he)
  refine ⟨fun pins s σ H R I q => ?_⟩
  -- the three rules' common start: the value, then by what it is
  refine thn (he.run pins s σ H _ I q) fun v s1 ⟨x, H1, I1, r1, k, vs, ex, ok, q1⟩ => ?_
  have hx : PE (X := X) e (fun σ' H' Q => True → te σ' H' Q) := pe_imp he fun _ _ _ z => z trivial
  cases k with
  | l p =>
    subst ex
    have ok : SqL X.K H1 p vs := ok
    obtain rfl : v = .ref p := r1
    obtain ⟨its, rv, pl, hz⟩ := I1.list ok
    refine wpAny_pyIter_list pl.isList ?_
    refine ⟨s1.heap.objs.size, [s1.heap.objs.size], _, _, H1, rfl, I1.kept (t' := s1.toks) fun b o e => Heap.get?_push_of_some _ e, turn_list p _, ⟨_, Heap.get?_push_size _ rfl, rfl, rfl⟩, fun b hb => ?_, q1⟩
    obtain rfl : b = s1.heap.objs.size := by simpa using hb
    exact I1.fpOk (Nat.le_refl _) (I1.hok.fresh (Nat.le_refl _))
  | t p =>
    subst ex
    have ok : SqT X.K H1 p vs := ok
    obtain rfl : v = .ref p := r1
    obtain ⟨its, rv, pl, hz⟩ := I1.tuple ok
    refine wpAny_pyIter_tuple (show s1.heap.IsTuple p its.toArray from pl) ?_
    refine ⟨s1.heap.objs.size, [s1.heap.objs.size], _, _, H1, rfl, I1.kept (t' := s1.toks) fun b o e => Heap.get?_push_of_some _ e, turn_tuple p _, ⟨_, Heap.get?_push_size _ rfl, rfl, rfl⟩, fun b hb => ?_, q1⟩
    obtain rfl : b = s1.heap.objs.size := by simpa using hb
    exact I1.fpOk (Nat.le_refl _) (I1.hok.fresh (Nat.le_refl _))
  | s z =>
    subst ex
    obtain ⟨t, rfl⟩ := r1
    have key := (pi_str (X := X) (tg := tg) (e := .Constant (.str z) 0 default) (te := tC (.str z)) pe_str)
    refine wpAny_pyIter_strU ?_
    refine ⟨s1.heap.objs.size, [s1.heap.objs.size], _, _, H1, rfl, I1.kept (t' := s1.toks) fun b o e => Heap.get?_push_of_some _ e, turn_str (tg := tg) s1.heap.objs.size z t (strIterType z) ?_, ⟨_, Heap.get?_push_size _ rfl, rfl, rfl⟩, fun b hb => ?_, q1⟩
    · unfold strIterType
      split
      · exact .inl rfl
      · exact .inr rfl
    · obtain rfl : b = s1.heap.objs.size := by simpa using hb
      exact I1.fpOk (Nat.le_refl _) (I1.hok.fresh (Nat.le_refl _))
theorem vi_src (hK : G.K = X.K) (ha : VE X G W a ma) : VI X G W tg a (ma.bind srcM) := by
  refine ⟨fun B => pi_imp (pi_src (tg := tg) (ha.run B)) fun σ H Q ⟨F, own, ρ, R, P⟩ => ?_⟩
  refine step (k := srcM) Grow.rfl' R P fun r ρ1 v H1 F1 own1 _ g1 _ R1 k1 P1 => ?_
  have P1 : Post G B W σ (okW G B) own F H ((srcM r ρ1).bind M.pure) Q := by
    have e : (srcM r ρ1).bind M.pure = srcM r ρ1 := by
      unfold Res.bind
      cases srcM r ρ1 <;> rfl
    rw [e]
    exact P1
  obtain ⟨ds, sk, vs, F2, _, ev, st, g2, R2, f12, P2⟩ := src_go hK g1 R1 k1 P1
  exact ⟨sk, vs, ev, st.ok Sub.rfl' R2.fsub R2.same, P2 _ H1 F2 own1 g2 R2 (wk_src st)⟩
/-! ### range -/
def intM : Rv → M Int
  | .sh (.int i) => M.pure i
  | _ => bad
def two62 : Int := 4611686018427387904
def mRange1 (ma : M Rv) : M (List D) := ma.bind fun r => (intM r).bind fun n => if -two62 ≤ n ∧ n < two62 then M.pure ((List.range n.toNat).map fun k => D.int ((k : Nat) : Int)) else bad
theorem wk_rng {F : Hp} (lo : Int) (n : Nat) : Wk G B (Itr lo n) ((List.range n).map fun k => D.int (lo + ((k : Nat) : Int))) F := by
  refine ⟨fun {F' H' i} f1 f2 f3 hi => ?_, fun {F' H' i} f1 f2 f3 hi => ?_, fun {F' H' H2 i x} f1 f2 f3 hi y => ?_⟩
  · show i < n
    simpa using hi
  · show n ≤ i
    have : i = n := by simpa using hi
    omega
  · obtain ⟨e, ex⟩ := y
    subst e ex
    have hi : i < n := by simpa using hi
    refine ⟨F', _, Sub.rfl', Sub.rfl', f2, fun _ _ z => .inl z, by rw [List.getElem?_map, List.getElem?_range hi]; rfl, rep_int.mpr rfl⟩
end
end VL

set_option maxHeartbeats 200000
/-! The value layer: range, reversed, enumerate, zip as data. -/
namespace VL
open PySem PySem.Spec L2
section
variable {X : Cx} {G : Gx} {W : WX} {B : Bx} {tg a b c e : Expr} {es : List Expr} {ma mb mc : M Rv} {ms : M (List D)} {pos p tpos : Pos}
theorem vi_args {C : List V → Hp → (It → Hp → Prop) → Prop} {f : List D → Option (List D)} (hp : ∀ {ta : TA}, PA X es ta → PI X tg e (fun σ H R => ta σ H fun vs H1 => C vs H1 R))
    (ok : ∀ {B : Bx} {F H : Hp} {vs : List V} {ds items : List D} {R : It → Hp → Prop}, Sub F H → Sub B.H0 H → Reps G F ds vs → f ds = some items → (∀ J, Wk G B J items F → R J H) → C vs H R) (ha : VAs X G W es ms) : VI X G W tg e (ms.bind fun ds => ofO (f ds)) := by
  refine ⟨fun B => pi_imp (hp (ha.run B)) fun σ H Q ⟨F, own, ρ, R, P⟩ => ?_⟩
  refine step (k := fun ds => ofO (f ds)) Grow.rfl' R P fun ds ρ1 vs H1 F1 own1 _ g1 _ R1 k1 P1 => ?_
  cases q : f ds with
  | none =>
    rw [q] at P1
    exact P1.elim
  | some items =>
    rw [q] at P1
    exact ok R1.fsub R1.same k1 q fun J w => P1 J H1 F1 own1 g1 R1 w
def in62 (n : Int) : Bool := -4611686018427387904 ≤ n && n < 4611686018427387904
theorem in62_ok {n : Int} (h : in62 n = true) : -(2 ^ 62) ≤ n ∧ n < 2 ^ 62 := by
  unfold in62 at h
  simp only [Bool.and_eq_true, decide_eq_true_eq] at h
  exact ⟨h.1, h.2⟩
def upFrom (lo : Int) (n : Nat) : List D := (List.range n).map fun k => D.int (lo + ((k : Nat) : Int))
def byC (lo c : Int) (n : Nat) : List D := (List.range n).map fun k => D.int (lo + ((k : Nat) : Int) * c)
theorem wk_rngC {F : Hp} (lo c : Int) (n : Nat) : Wk G B (Itc lo c n) (byC lo c n) F := by
  refine ⟨fun {F' H' i} f1 f2 f3 hi => ?_, fun {F' H' i} f1 f2 f3 hi => ?_, fun {F' H' H2 i x} f1 f2 f3 hi y => ?_⟩
  · show i < n
    simpa [byC] using hi
  · show n ≤ i
    have : i = n := by simpa [byC] using hi
    omega
  · obtain ⟨e, ex⟩ := y
    subst e ex
    have hi : i < n := by simpa [byC] using hi
    refine ⟨F', _, Sub.rfl', Sub.rfl', f2, fun _ _ z => .inl z, by rw [byC, List.getElem?_map, List.getElem?_range hi]; rfl, rep_int.mpr rfl⟩
def rng1D : List D → Option (List D)
  | [.int n] => if in62 n then some (upFrom 0 n.toNat) else none
  | _ => none
def rng2D : List D → Option (List D)
  | [.int i, .int n] => if in62 i && in62 n then some (upFrom i (n - i).toNat) else none
  | _ => none
def rng3D : List D → Option (List D)
  | [.int i, .int j, .int c] => if c = -1 ∧ in62 i ∧ in62 j then some (byC i (-1) (i - j).toNat) else none
  | _ => none
theorem reps_1 {F : Hp} {d : D} {vs : List V} (h : Reps G F [d] vs) : ∃ v, vs = [v] ∧ Rep G F d v := by
  match vs, h with
  | [], h => have := h.len; simp at this
  | v :: vs, h =>
    have h := reps_cons.mp h
    rw [reps_nil.mp h.2]
    exact ⟨v, rfl, h.1⟩
theorem reps_2 {F : Hp} {d d' : D} {vs : List V} (h : Reps G F [d, d'] vs) : ∃ v w, vs = [v, w] ∧ Rep G F d v ∧ Rep G F d' w := by
  match vs, h with
  | [], h => have := h.len; simp at this
  | v :: vs, h =>
    have h := reps_cons.mp h
    obtain ⟨w, e, q⟩ := reps_1 h.2
    rw [e]
    exact ⟨v, w, rfl, h.1, q⟩
theorem reps_3 {F : Hp} {d d' d2 : D} {vs : List V} (h : Reps G F [d, d', d2] vs) : ∃ v w x, vs = [v, w, x] ∧ Rep G F d v ∧ Rep G F d' w ∧ Rep G F d2 x := by
  match vs, h with
  | [], h => have := h.len; simp at this
  | v :: vs, h =>
    have h := reps_cons.mp h
    obtain ⟨w, x, e, q⟩ := reps_2 h.2
    rw [e]
    exact ⟨v, w, x, rfl, h.1, q⟩
theorem vi_range1 (hg : Gl X "range") (hm : X.mg "range" = none) (ha : VAs X G W [a] ms) (hs : starEach [a] X.env = [(false, eval a X.env)] := by rfl) : VI X G W tg (.Call (.Name "range" p) [a] [] pos) (ms.bind fun ds => ofO (rng1D ds)) := by
  refine vi_args (fun {ta} h => pi_range1 hg hm h hs) (fun {B F H vs ds items R} s1 s2 r e k => ?_) ha
  unfold rng1D at e
  split at e
  · rename_i n
    split at e
    · rename_i hn
      injection e with e
      subst e
      obtain ⟨v, rfl, rv⟩ := reps_1 r
      rw [rep_int.mp rv]
      exact ⟨n, rfl, (in62_ok hn).1, (in62_ok hn).2, k _ (wk_rng 0 n.toNat)⟩
    · cases e
  · cases e
theorem vi_range2 (hg : Gl X "range") (hm : X.mg "range" = none) (ha : VAs X G W [a, b] ms) (hs : starEach [a, b] X.env = [(false, eval a X.env), (false, eval b X.env)] := by rfl) (hs2 : starEach [b] X.env = [(false, eval b X.env)] := by rfl) :
    VI X G W tg (.Call (.Name "range" p) [a, b] [] pos) (ms.bind fun ds => ofO (rng2D ds)) := by
  refine vi_args (fun {ta} h => pi_range2 hg hm h hs hs2) (fun {B F H vs ds items R} s1 s2 r e k => ?_) ha
  unfold rng2D at e
  split at e
  · rename_i i n
    split at e
    · rename_i hn
      injection e with e
      subst e
      obtain ⟨v, w, rfl, rv, rw'⟩ := reps_2 r
      rw [rep_int.mp rv, rep_int.mp rw']
      simp only [Bool.and_eq_true] at hn
      exact ⟨i, n, rfl, ⟨(in62_ok hn.1).1, (in62_ok hn.1).2, (in62_ok hn.2).1, (in62_ok hn.2).2⟩, k _ (wk_rng i _)⟩
    · cases e
  · cases e
theorem vi_range3 (hg : Gl X "range") (hm : X.mg "range" = none) (ha : VAs X G W [a, b, c] ms) (hs : starEach [a, b, c] X.env = (false, eval a X.env) :: starEach [b, c] X.env := by rfl) (hpl : (backTo pos (starEach [b, c] X.env)).any (·.1) = false := by rfl) :
    VI X G W tg (.Call (.Name "range" p) [a, b, c] [] pos) (ms.bind fun ds => ofO (rng3D ds)) := by
  refine vi_args (fun {ta} h => pi_range3 hg hm h hs hpl) (fun {B F H vs ds items R} s1 s2 r e k => ?_) ha
  unfold rng3D at e
  split at e
  · rename_i i j cc
    split at e
    · rename_i hn
      obtain ⟨rfl, h1, h2⟩ := hn
      injection e with e
      subst e
      obtain ⟨v, w, x, rfl, rv, rw', rx⟩ := reps_3 r
      rw [rep_int.mp rv, rep_int.mp rw', rep_int.mp rx]
      have h1 := in62_ok h1
      have h2 := in62_ok h2
      exact ⟨i, j, -1, (i - j).toNat, rfl, RgC.neg h1.1 h1.2 h2.1 h2.2, k _ (wk_rngC i (-1) _)⟩
    · cases e
  · cases e
/-! ### reversed -/
theorem wk_rev {K : PySem.W.Frag} {q : Addr} {vs : List V} {ds : List D} {F : Hp} (s : Still G B K (.l q) vs ds F) : Wk G B (Itv K q vs.length) ds.reverse F := by
  have len := s.reps.len
  have hk : ∀ {i : Nat}, i < vs.length → ∃ x, vs[vs.length - 1 - i]? = some x := fun {i} hi => ⟨vs[vs.length - 1 - i]'(by omega), by simp⟩
  refine ⟨fun {F' H' i} f1 f2 f3 hi => ?_, fun {F' H' i} f1 f2 f3 hi => ?_, fun {F' H' H2 i x} f1 f2 f3 hi y => ?_⟩
  · rw [List.length_reverse, len] at hi
    obtain ⟨x, hx⟩ := hk hi
    exact ⟨hi, vs, x, s.ok f1 f2 f3, hx⟩
  · rw [List.length_reverse, len] at hi
    show vs.length ≤ i
    omega
  · rw [List.length_reverse, len] at hi
    obtain ⟨e, y⟩ := y
    subst e
    obtain ⟨d, e, r⟩ := s.reps.get (y vs (s.ok f1 f2 f3))
    exact ⟨F', d, Sub.rfl', Sub.rfl', f2, fun _ _ z => .inl z, by rw [List.getElem?_reverse (by omega), len]; exact e, Rep.mono f1 r⟩
theorem wk_revT {K : PySem.W.Frag} {q : Addr} {vs : List V} {ds : List D} {F : Hp} (s : Still G B K (.t q) vs ds F) : Wk G B (RT.ItvT K q vs.length) ds.reverse F := by
  have len := s.reps.len
  have hk : ∀ {i : Nat}, i < vs.length → ∃ x, vs[vs.length - 1 - i]? = some x := fun {i} hi => ⟨vs[vs.length - 1 - i]'(by omega), by simp⟩
  refine ⟨fun {F' H' i} f1 f2 f3 hi => ?_, fun {F' H' i} f1 f2 f3 hi => ?_, fun {F' H' H2 i x} f1 f2 f3 hi y => ?_⟩
  · rw [List.length_reverse, len] at hi
    obtain ⟨x, hx⟩ := hk hi
    exact ⟨hi, vs, x, s.ok f1 f2 f3, hx⟩
  · rw [List.length_reverse, len] at hi
    show vs.length ≤ i
    omega
  · rw [List.length_reverse, len] at hi
    obtain ⟨e, y⟩ := y
    subst e
    obtain ⟨d, e, r⟩ := s.reps.get (y vs (s.ok f1 f2 f3))
    exact ⟨F', d, Sub.rfl', Sub.rfl', f2, fun _ _ z => .inl z, by rw [List.getElem?_reverse (by omega), len]; exact e, Rep.mono f1 r⟩
/-- a source whose kind is a list or a tuple -/
def noStr : List D → Bool := fun _ => true
def revM (r : Rv) : M (List D) := fun ρ => match rdR r ρ with
  | some (.str _) => .bad
  | _ => (srcM r).bind (fun ds => M.pure ds.reverse) ρ
theorem bind_pure {α : Type} (m : M α) : m.bind M.pure = m := by
  funext ρ
  unfold M.bind Res.bind
  cases m ρ <;> rfl
theorem revM_eq {r : Rv} {ρ : VEnv} {σ : St} {α β : Type} {ok' : OkK α β} {k : List D → M α} {F H : Hp} {own : OwnM} {Q : β → Hp → Prop} (P : Post G B W σ ok' own F H ((revM r ρ).bind k) Q) :
    (∀ s, rdR r ρ ≠ some (.str s)) ∧ Post G B W σ ok' own F H ((srcM r ρ).bind fun ds => k ds.reverse) Q := by
  unfold revM at P
  split at P
  · exact P.elim
  · rename_i h
    refine ⟨fun s e => h s e, ?_⟩
    have e : (((srcM r).bind (fun ds => M.pure ds.reverse) ρ).bind k) = ((srcM r ρ).bind fun ds => k ds.reverse) := by
      show ((srcM r ρ).bind fun ds => M.pure ds.reverse).bind k = _
      unfold Res.bind
      cases srcM r ρ <;> rfl
    rw [e] at P
    exact P
theorem vi_rev (hK : G.K = X.K) (hg : Gl X "reversed") (hm : X.mg "reversed" = none) (he : VE X G W e ma) (hs : starEach [e] X.env = (false, eval e X.env) :: starEach [] X.env := by rfl) : VI X G W tg (.Call (.Name "reversed" p) [e] [] pos) (ma.bind revM) := by
  refine ⟨fun B => pi_imp (RT.pi_revA (tg := tg) hg hm (he.run B) hs) fun σ H Q ⟨F, own, ρ, R, P⟩ => ?_⟩
  refine step (k := revM) Grow.rfl' R P fun r ρ1 v H1 F1 own1 _ g1 _ R1 k1 P1 => ?_
  have P1 : Post G B W σ (okW G B) own F H ((revM r ρ1).bind M.pure) Q := by
    have e : (revM r ρ1).bind M.pure = revM r ρ1 := by
      unfold Res.bind
      cases revM r ρ1 <;> rfl
    rw [e]
    exact P1
  obtain ⟨hns, P1⟩ := revM_eq P1
  obtain ⟨ds, sk, vs, F2, es, ev, st, g2, R2, f12, P2⟩ := src_go hK g1 R1 k1 P1
  cases sk with
  | l q => exact ⟨q, vs, ev, .inl ⟨st.ok Sub.rfl' R2.fsub R2.same, P2 _ H1 F2 own1 g2 R2 (wk_rev st)⟩⟩
  | t q => exact ⟨q, vs, ev, .inr ⟨st.ok Sub.rfl' R2.fsub R2.same, P2 _ H1 F2 own1 g2 R2 (wk_revT st)⟩⟩
  | s z =>
    exfalso
    have ev : v = .str z := ev
    subst ev
    have key : ∀ d, rdR r ρ1 = some d → (∀ s, d ≠ .str s) → itemsD d = some ds → False := fun d hd hs hi => by
      have hr := k1.red R1 hd
      cases d with
      | lst xs => obtain ⟨a, _, h, _⟩ := hr; cases h
      | tup xs => obtain ⟨a, _, h, _⟩ := red_tup hr; cases h
      | str s => exact hs s rfl
      | scr ns =>
        have hr : Rep G F1 (.scr ns) (.str z) := hr
        unfold Rep at hr
        obtain ⟨a, h, _⟩ := hr
        cases h
      | _ => cases hi
    have ofe : ∀ {o : Option (List D)}, ofO o ρ1 = Res.ok ds ρ1 → o = some ds := fun {o} h => by
      cases o with
      | none => cases h
      | some x =>
        have h : Res.ok x ρ1 = Res.ok ds ρ1 := h
        injection h with h
        rw [h]
    cases r with
    | sh d => exact key d rfl (fun s h => hns s (by rw [← h]; rfl)) (ofe es)
    | tm d => exact key d rfl (fun s h => hns s (by rw [← h]; rfl)) (ofe es)
    | pk i =>
      have es := ofe es
      cases e0 : roD ρ1[i]? with
      | none => rw [e0] at es; cases es
      | some d =>
        rw [e0] at es
        have e1 := roD_some e0
        have e2 : rdR (.pk i) ρ1 = some d := by unfold rdR; dsimp only; rw [e1]
        exact key d e2 (fun s h => hns s (by rw [← h]; exact e2)) es
/-! ### enumerate, zip -/
theorem wk_JT {ok : Hp → Prop} {n : Nat} {item : Nat → List V} {ds : List D} {F : Hp} (hl : ds.length = n) (hok : ∀ {F' H' : Hp}, Sub F F' → Sub F' H' → Sub B.H0 H' → ok H') (hi : ∀ i, i < n → ∃ xs, ds[i]? = some (.tup xs) ∧ Reps G F xs (item i)) : Wk G B (JT ok n item) ds F := by
  subst hl
  refine ⟨fun {F' H' i} f1 f2 f3 h => ⟨hok f1 f2 f3, h⟩, fun {F' H' i} f1 f2 f3 h => ⟨hok f1 f2 f3, h⟩, fun {F' H' H2 i x} f1 f2 f3 h y => ?_⟩
  obtain ⟨T, rfl, hT, rfl⟩ := y
  obtain ⟨xs, e, r⟩ := hi i h
  have hf : F' T = none := by
    cases q : F' T with
    | none => rfl
    | some u =>
      have := f2 T u q
      rw [hT] at this
      cases this
  refine ⟨upd F' T (.tup (item i)), .tup xs, sub_upd hT, sub_upd hf, fun a u z => ?_, fun a u z => ?_, e, rep_tup.mpr ⟨T, item i, rfl, SqT.of upd_same, (r.mono f1).mono (sub_upd hf)⟩⟩
  · by_cases ha : a = T
    · subst ha
      rw [upd_same] at z ⊢
      exact z
    · rw [upd_ne ha] at z ⊢
      exact f2 a u z
  · by_cases ha : a = T
    · subst ha
      exact .inr hT
    · rw [upd_ne ha] at z
      exact .inl z
def enumL : Int → List D → List D
  | _, [] => []
  | j, d :: ds => .tup [.int j, d] :: enumL (j + 1) ds
theorem enumL_len : ∀ (ds : List D) (j : Int), (enumL j ds).length = ds.length
  | [], _ => rfl
  | d :: ds, j => by rw [enumL, List.length_cons, enumL_len ds, List.length_cons]
theorem enumL_get : ∀ (ds : List D) (j : Int) (i : Nat) (d : D), ds[i]? = some d → (enumL j ds)[i]? = some (.tup [.int (j + (i : Int)), d])
  | [], _, i, d, h => by simp at h
  | x :: ds, j, 0, d, h => by
    simp at h
    subst h
    simp [enumL]
  | x :: ds, j, i + 1, d, h => by
    rw [enumL, List.getElem?_cons_succ, enumL_get ds (j + 1) i d (by simpa using h)]
    rw [show j + 1 + (i : Int) = j + ((i + 1 : Nat) : Int) by omega]
def zipL : List D → List D → List D
  | x :: xs, y :: ys => .tup [x, y] :: zipL xs ys
  | _, _ => []
theorem zipL_len : ∀ xs ys : List D, (zipL xs ys).length = min xs.length ys.length
  | [], ys => by simp [zipL]
  | x :: xs, [] => by simp [zipL]
  | x :: xs, y :: ys => by
    simp only [zipL, List.length_cons, zipL_len xs ys]
    omega
theorem zipL_get : ∀ (xs ys : List D) (i : Nat) (x y : D), xs[i]? = some x → ys[i]? = some y → (zipL xs ys)[i]? = some (.tup [x, y])
  | [], _, i, x, y, h, _ => by simp at h
  | a :: xs, [], i, x, y, _, h => by simp at h
  | a :: xs, b :: ys, 0, x, y, h, h' => by
    simp at h h'
    subst h h'
    simp [zipL]
  | a :: xs, b :: ys, i + 1, x, y, h, h' => by
    rw [zipL, List.getElem?_cons_succ]
    exact zipL_get xs ys i x y (by simpa using h) (by simpa using h')
theorem reps_one {F : Hp} {d : D} {v : V} {ds : List D} {vs : List V} (h : Rep G F d v) (k : Reps G F ds vs) : Reps G F (d :: ds) (v :: vs) := reps_cons.mpr ⟨h, k⟩
theorem getD_len {vs : List V} {i : Nat} (h : i < vs.length) : vs[i]? = some (vs.getD i .non) := by
  rw [List.getD_eq_getElem?_getD, List.getElem?_eq_getElem h]
  rfl
theorem wk_enum {K : PySem.W.Frag} {sk : Sk} {vs : List V} {ds : List D} {F : Hp} (s : Still G B K sk vs ds F) : Wk G B (JT (fun H => sOk K H sk vs) vs.length (enumItem 0 vs)) (enumL 0 ds) F := by
  have len := s.reps.len
  refine wk_JT (by rw [enumL_len, len]) (fun f1 f2 f3 => s.ok f1 f2 f3) fun i hi => ?_
  obtain ⟨d, e, r⟩ := s.reps.get (getD_len hi)
  exact ⟨_, enumL_get ds 0 i d e, reps_one (rep_int.mpr rfl) (reps_one r (reps_nil.mpr rfl))⟩
theorem wk_zip {K : PySem.W.Frag} {k1 k2 : Sk} {vs ws : List V} {ds es : List D} {F : Hp} (s : Still G B K k1 vs ds F) (t : Still G B K k2 ws es F) :
    Wk G B (JT (fun H => sOk K H k1 vs ∧ sOk K H k2 ws) (min vs.length ws.length) (zipItem vs ws)) (zipL ds es) F := by
  have l1 := s.reps.len
  have l2 := t.reps.len
  refine wk_JT (by rw [zipL_len, l1, l2]) (fun f1 f2 f3 => ⟨s.ok f1 f2 f3, t.ok f1 f2 f3⟩) fun i hi => ?_
  obtain ⟨d, e, r⟩ := s.reps.get (getD_len (by omega : i < vs.length))
  obtain ⟨d', e', r'⟩ := t.reps.get (getD_len (by omega : i < ws.length))
  exact ⟨_, zipL_get ds es i d d' e e', reps_one r (reps_one r' (reps_nil.mpr rfl))⟩
theorem vi_enum {elts : List Expr} {kk : Nat} (hK : G.K = X.K) (hg : Gl X "enumerate") (hm : X.mg "enumerate" = none) (he : VE X G W e ma) (hs : starEach [e] X.env = [(false, eval e X.env)] := by rfl) (hs0 : starEach [e] X.env = (false, eval e X.env) :: starEach [] X.env := by rfl) :
    VI X G W (.Tuple elts kk tpos) (.Call (.Name "enumerate" p) [e] [] pos) ((ma.bind srcM).bind fun ds => M.pure (enumL 0 ds)) := by
  refine ⟨fun B => pi_imp (pi_enumK (elts := elts) (kk := kk) (tpos := tpos) hg hm (L2.pa_cons (he.run B) L2.pa_nil hs0) hs) fun σ H Q ⟨F, own, ρ, R, P⟩ => ?_⟩
  rw [M.bind_assoc] at P
  refine step (k := fun r => (srcM r).bind fun ds => M.pure (enumL 0 ds)) Grow.rfl' R P fun r ρ1 v H1 F1 own1 _ g1 _ R1 k1 P1 => ?_
  obtain ⟨ds, sk, vs, F2, _, ev, st, g2, R2, f12, P2⟩ := src_go hK g1 R1 k1 P1
  exact ⟨sk, vs, by rw [ev], st.ok Sub.rfl' R2.fsub R2.same, P2 _ H1 F2 own1 g2 R2 (wk_enum st)⟩
/-- both sources are read when both stand -/
def zipM (ra rb : Rv) : M (List D) := (srcM ra).bind fun xs => (srcM rb).bind fun ys => M.pure (zipL xs ys)
theorem RvOk.growF {σ : St} {F F' H H1 : Hp} {own : OwnM} {r : Rv} {v : V} (k : RvOk G B σ H F own H1 r v) (g : Sub F F') (n : ∀ a o, F' a = some o → F a = some o ∨ ∀ d, r = .tm d → v ≠ .ref a) : RvOk G B σ H F' own H1 r v := by
  cases r with
  | sh d => exact Rep.mono g k
  | tm d =>
    obtain ⟨a, o, e, h1, h2, h3, h4, h5⟩ := k
    refine ⟨a, o, e, h1, ?_, h3, h4, h5.mono g⟩
    cases q : F' a with
    | none => rfl
    | some u =>
      rcases n a u q with z | z
      · rw [h2] at z; cases z
      · exact absurd e (z d rfl)
  | pk i => exact k
theorem srcM_ok {r : Rv} {ρ ρ' : VEnv} {ds : List D} (h : srcM r ρ = .ok ds ρ') : ρ' = ρ := by
  have key : ∀ {o : Option (List D)}, ofO o ρ = Res.ok ds ρ' → ρ' = ρ := fun {o} h => by
    cases o with
    | none => cases h
    | some x =>
      have h : Res.ok x ρ = Res.ok ds ρ' := h
      injection h with _ h
      exact h.symm
  cases r with
  | sh d => exact key h
  | tm d => exact key h
  | pk i => exact key (o := (roD ρ[i]?).bind itemsD) h
def okSt (G : Gx) (B : Bx) (K : PySem.W.Frag) : OkK (List D) V := ⟨fun _ F _ _ ds v => ∃ sk vs, v = Sk.v sk ∧ Still G B K sk vs ds F, fun _ k => k⟩
theorem vi_zip {elts : List Expr} {kk : Nat} (hK : G.K = X.K) (hg : Gl X "zip") (hm : X.mg "zip" = none) (ha : VE X G W a ma) (hb : VE X G W b mb) (hs : starEach [a, b] X.env = (false, eval a X.env) :: starEach [b] X.env := by rfl) (hpl : (backTo pos (starEach [b] X.env)).any (·.1) = false := by rfl)
    (hs0 : starEach [b] X.env = (false, eval b X.env) :: starEach [] X.env := by rfl) :
    VI X G W (.Tuple elts kk tpos) (.Call (.Name "zip" p) [a, b] [] pos) ((ma.bind srcM).bind fun xs => (mb.bind srcM).bind fun ys => M.pure (zipL xs ys)) := by
  have h1 : ∀ B, PE X a (tM G B W (fun _ => okSt G B X.K) (ma.bind srcM)) := fun B => pe_imp (ha.run B) fun σ H Q ⟨F, own, ρ, R, P⟩ =>
    step (k := srcM) Grow.rfl' R P fun r ρ1 v H1 F1 own1 _ g1 _ R1 k1 P1 => by
      rw [← show (srcM r ρ1).bind M.pure = srcM r ρ1 by unfold Res.bind; cases srcM r ρ1 <;> rfl] at P1
      obtain ⟨ds, sk, vs, F2, _, ev, st, g2, R2, f12, P2⟩ := src_go hK g1 R1 k1 P1
      exact P2 v H1 F2 own1 g2 R2 ⟨sk, vs, ev, st⟩
  have h2 : ∀ B, PE X b (tM G B W (fun _ => okSt G B X.K) (mb.bind srcM)) := fun B => pe_imp (hb.run B) fun σ H Q ⟨F, own, ρ, R, P⟩ =>
    step (k := srcM) Grow.rfl' R P fun r ρ1 v H1 F1 own1 _ g1 _ R1 k1 P1 => by
      rw [← show (srcM r ρ1).bind M.pure = srcM r ρ1 by unfold Res.bind; cases srcM r ρ1 <;> rfl] at P1
      obtain ⟨ds, sk, vs, F2, _, ev, st, g2, R2, f12, P2⟩ := src_go hK g1 R1 k1 P1
      exact P2 v H1 F2 own1 g2 R2 ⟨sk, vs, ev, st⟩
  refine ⟨fun B => pi_imp (pi_zipK (elts := elts) (kk := kk) (tpos := tpos) hg hm (L2.pa_cons (h1 B) (L2.pa_cons (h2 B) L2.pa_nil hs0) hs) hs hpl) fun σ H Q ⟨F, own, ρ, R, P⟩ => ?_⟩
  refine step (ok := fun _ => okSt G B X.K) (k := fun xs => (mb.bind srcM).bind fun ys => M.pure (zipL xs ys)) Grow.rfl' R P fun xs ρ1 v H1 F1 own1 _ g1 _ R1 ⟨k1, vs, ev, st1⟩ P1 => ?_
  refine step (ok := fun _ => okSt G B X.K) (k := fun ys => M.pure (zipL xs ys)) g1 R1 P1 fun ys ρ2 u H2 F2 own2 _ g2 g12 R2 ⟨k2, ws, eu, st2⟩ P2 => ?_
  have st1 := st1.mono g12.frz
  exact ⟨k1, k2, vs, ws, by rw [ev, eu], st1.ok Sub.rfl' R2.fsub R2.same, st2.ok Sub.rfl' R2.fsub R2.same, P2 _ H2 F2 own2 g2 R2 (wk_zip st1 st2)⟩
end
end VL

set_option maxHeartbeats 200000
/-! The value layer: targets, statements, loops. -/
namespace VL
open PySem PySem.Spec L2

/-! ### targets -/
/-- what a store leaves: the slots out of is stay -/
structure Stored (σ σ' : St) (own own' : OwnM) (is : List Nat) : Prop where
  len : σ'.length = σ.length
  out : ∀ j, j ∉ is → σ'[j]? = σ[j]?
  own : ∀ j a, own' j = some a → own j = some a
/-- f: the target takes shared data -/
def gF (G : Gx) (B : Bx) (is : List Nat) (f : D → VEnv → Option VEnv) : TG := fun v σ H Q => ∃ F own ρ d ρ', Rl G B F own σ H ρ ∧ Rep G F d v ∧ f d ρ = some ρ' ∧ ∀ σ' own', Rl G B F own' σ' H ρ' → Stored σ σ' own own' is → Q σ' H
structure VG (X : Cx) (G : Gx) (tg : Expr) (is : List Nat) (f : D → VEnv → Option VEnv) : Prop where
  run : ∀ B, PG X tg (gF G B is f)
def VGx (X : Cx) (G : Gx) (tg : Expr) (is : List Nat) (f : D → VEnv → Option VEnv) : Prop := ∃ t : TG, PG X tg t ∧ ∀ {B : Bx} {F : Hp} {own : OwnM} {σ : St} {H : Hp} {ρ ρ' : VEnv} {v : V} {d : D} {Q : St → Hp → Prop}, Rl G B F own σ H ρ → Rep G F d v → f d ρ = some ρ' → (∀ σ' own', Rl G B F own' σ' H ρ' → Stored σ σ' own own' is → Q σ' H) → t v σ H Q
structure VGs (X : Cx) (G : Gx) (tgs : List Expr) (is : List Nat) (f : List D → VEnv → Option VEnv) : Prop where
  ex : ∃ t : TGs, PGs X tgs t ∧ ∀ {B : Bx} {F : Hp} {own : OwnM} {σ : St} {H : Hp} {ρ ρ' : VEnv} {vs : List V} {ds : List D} {Q : St → Hp → Prop}, Rl G B F own σ H ρ → Reps G F ds vs → f ds ρ = some ρ' → (∀ σ' own', Rl G B F own' σ' H ρ' → Stored σ σ' own own' is → Q σ' H) → t vs σ H Q
def tgName (i : Nat) : D → VEnv → Option VEnv := fun d ρ => some (ρ.set i (some (.sh, d)))
def tgNil : List D → VEnv → Option VEnv := fun ds ρ => match ds with
  | [] => some ρ
  | _ => none
def tgCons (f : D → VEnv → Option VEnv) (g : List D → VEnv → Option VEnv) : List D → VEnv → Option VEnv := fun ds ρ => match ds with
  | d :: ds => (f d ρ).bind fun ρ' => g ds ρ'
  | [] => none
def tgTup (n : Nat) (g : List D → VEnv → Option VEnv) : D → VEnv → Option VEnv := fun d ρ => match d with
  | .tup ds => if ds.length = n then g ds ρ else none
  | _ => none
section
variable {X : Cx} {G : Gx} {tg e : Expr} {tgs es : List Expr} {is js : List Nat} {f : D → VEnv → Option VEnv} {pos : Pos}
theorem Stored.rfl' {σ : St} {own : OwnM} {is : List Nat} : Stored σ σ own own is := ⟨rfl, fun _ _ => rfl, fun _ _ h => h⟩
theorem Stored.tr {σ σ1 σ2 : St} {own own1 own2 : OwnM} (a : Stored σ σ1 own own1 is) (b : Stored σ1 σ2 own1 own2 js) : Stored σ σ2 own own2 (is ++ js) :=
  ⟨b.len.trans a.len, fun j h => by rw [b.out j (fun z => h (List.mem_append_right _ z)), a.out j (fun z => h (List.mem_append_left _ z))], fun j x h => a.own j x (b.own j x h)⟩
theorem VG.ex (h : VGx X G tg is f) : VG X G tg is f := by
  obtain ⟨t, p, q⟩ := h
  exact ⟨fun B => ⟨fun pins s σ H v u Q I r ⟨F, own, ρ, d, ρ', R, rd, e, k⟩ => p.run pins s σ H v u Q I r (q R rd e k)⟩⟩
theorem vg_name {i : Nat} {x : Str} (hN : X.N.Nodup) (hi : X.N[i]? = some x) (hx : Loc X.env.scope x) (hf : X.fn x = true ∨ X.env.scope.names.lookup x = some .local) : VGx X G (.Name x pos) [i] (tgName i) := by
  refine ⟨gName i, pg_name hN hi hx hf, fun {B F own σ H ρ ρ' v d Q} R r e k => ?_⟩
  injection e with e
  subst e
  exact k _ _ (R.setSh r) ⟨List.length_set .., fun j hj => List.getElem?_set_ne (fun z => hj (by rw [z]; simp)), fun j a h => (clr_some h).1⟩
theorem vgs_nil : VGs X G [] [] tgNil := by
  refine ⟨gNil, pgs_nil, fun {B F own σ H ρ ρ' vs ds Q} R r e k => ?_⟩
  unfold tgNil at e
  split at e
  · injection e with e
    subst e
    exact ⟨reps_nil.mp r, k σ own R .rfl'⟩
  · cases e
theorem vgs_cons {f : D → VEnv → Option VEnv} {g : List D → VEnv → Option VEnv} (h1 : VGx X G e is f) (h2 : VGs X G es js g) (hs : (assignEach (e :: es) X.env).map (·.2) = assign e X.env :: (assignEach es X.env).map (·.2)) : VGs X G (e :: es) (is ++ js) (tgCons f g) := by
  obtain ⟨t, p, k1⟩ := h1
  obtain ⟨u, q, k2⟩ := h2
  refine ⟨gCons t u, pgs_cons p q hs, fun {B F own σ H ρ ρ' vs ds Q} R r e k => ?_⟩
  unfold tgCons at e
  split at e
  · rename_i d ds
    cases e1 : f d ρ with
    | none => rw [e1] at e; cases e
    | some ρ1 =>
      rw [e1] at e
      match vs, r with
      | [], r => have := r.len; simp at this
      | v :: vs, r =>
        have r := reps_cons.mp r
        exact ⟨v, vs, rfl, k1 R r.1 e1 fun σ1 own1 R1 s1 => k2 R1 r.2 e fun σ2 own2 R2 s2 => k σ2 own2 R2 (s1.tr s2)⟩
  · cases e
theorem vg_tup {n k : Nat} {g : List D → VEnv → Option VEnv} (hK : G.K = X.K) (hc : X.calm = true) (h : VGs X G es is g) (hn : (assignEach es X.env).length = n) (hst : (assignEach es X.env).findIdx? (·.1) = none) : VGx X G (.Tuple es k pos) is (tgTup n g) := by
  obtain ⟨t, p, q⟩ := h
  refine ⟨gTup X.K n t, pg_tup hc p hn hst, fun {B F own σ H ρ ρ' v d Q} R r e k => ?_⟩
  unfold tgTup at e
  split at e
  · rename_i ds
    split at e
    · rename_i hl
      obtain ⟨a, vs, ev, s, r⟩ := rep_tup.mp r
      exact ⟨a, vs, ev, hK ▸ R.fsub.sqT s, by rw [← r.len]; exact hl, q R r e k⟩
    · cases e
  · cases e
end
/-! ### statements -/
inductive SR where
  | nx (ρ : VEnv) | bk (ρ : VEnv) | ct (ρ : VEnv) | rt (r : Rv) (ρ : VEnv) | exc (x : Xd) (ρ : VEnv) | bad
abbrev SM := VEnv → SR
section
variable (G : Gx) (B : Bx) (W : WX) (F : Hp) (E : Ends)
def PostS : SR → Prop
  | .nx ρ => ∀ σ' H' F' own', Sub F F' → Rl G B F' own' σ' H' ρ → E.nx σ' H'
  | .bk ρ => ∀ σ' H' F' own', Sub F F' → Rl G B F' own' σ' H' ρ → E.bk σ' H'
  | .ct ρ => ∀ σ' H' F' own', Sub F F' → Rl G B F' own' σ' H' ρ → E.ct σ' H'
  | .rt r ρ => ∀ v σ' H' F' own', Sub F F' → Rl G B F' own' σ' H' ρ → RvOk G B σ' B.H0 F' own' H' r v → E.rt v H'
  | .exc x ρ => ∀ cls d σ' H' F' own', Sub F F' → Rl G B F' own' σ' H' ρ → ExcOk G F' cls d x → W cls d σ' H'
  | .bad => False
end
def tS (G : Gx) (B : Bx) (W : WX) (m : SM) : TS := fun E σ H => ∃ F own ρ, Rl G B F own σ H ρ ∧ PostS G B W F E (m ρ)
structure VS (X : Cx) (G : Gx) (W : WX) (st : Stmt) (m : SM) : Prop where
  run : ∀ B, PS X st (tS G B W m)
structure VSs (X : Cx) (G : Gx) (W : WX) (sts : List Stmt) (m : SM) : Prop where
  run : ∀ B, PSs X sts (tS G B W m)
section
variable {X : Cx} {G : Gx} {B : Bx} {W : WX} {F F1 H H1 : Hp} {own own1 : OwnM} {σ : St} {ρ : VEnv} {E E' : Ends} {r : SR} {pos : Pos}
theorem PostS.sub (p : PostS G B W F E r) (f : Sub F F1) : PostS G B W F1 E r := by
  cases r with
  | nx ρ => exact fun σ' H' F' own' s R => p σ' H' F' own' (f.tr s) R
  | bk ρ => exact fun σ' H' F' own' s R => p σ' H' F' own' (f.tr s) R
  | ct ρ => exact fun σ' H' F' own' s R => p σ' H' F' own' (f.tr s) R
  | rt r ρ => exact fun v σ' H' F' own' s R q => p v σ' H' F' own' (f.tr s) R q
  | exc x ρ => exact fun cls d σ' H' F' own' s R k => p cls d σ' H' F' own' (f.tr s) R k
  | bad => exact p
/-- an expression's result, then the rest -/
def thenS {α : Type} (m : M α) (k : α → SM) : SM := fun ρ => match m ρ with
  | .ok a ρ' => k a ρ'
  | .exc x ρ' => .exc x ρ'
  | .bad => .bad
theorem stepS {α β : Type} {ok : St → OkK α β} {m : M α} {k : α → SM} {K : β → Hp → Prop} (R : Rl G B F own σ H ρ) (P : PostS G B W F E (thenS m k ρ))
    (h : ∀ a ρ2 b H2 F2 own2, m ρ = .ok a ρ2 → Grow own own2 H H2 F F2 → Rl G B F2 own2 σ H2 ρ2 → (ok σ).p H F2 own2 H2 a b → PostS G B W F2 E (k a ρ2) → K b H2) : tM G B W ok m σ H K := by
  refine ⟨F, own, ρ, R, ?_⟩
  unfold thenS at P
  cases e : m ρ with
  | ok a ρ2 =>
    rw [e] at P
    exact fun b H2 F2 own2 g2 R2 o => h a ρ2 b H2 F2 own2 e g2 R2 o (PostS.sub P g2.frz)
  | exc x ρ2 =>
    rw [e] at P
    exact fun cls d H' F' own' s R' k => P cls d σ H' F' own' s R' k
  | bad =>
    rw [e] at P
    exact P
def sNext : SM := fun ρ => .nx ρ
def sSeq (a b : SM) : SM := fun ρ => match a ρ with
  | .nx ρ' => b ρ'
  | r => r
theorem PostS.seq {a b : SM} (p : PostS G B W F E (sSeq a b ρ)) : PostS G B W F { E with nx := tS G B W b E } (a ρ) := by
  unfold sSeq at p
  cases e : a ρ with
  | nx ρ' =>
    rw [e] at p
    exact fun σ' H' F' own' s R => ⟨F', own', ρ', R, PostS.sub p s⟩
  | bk ρ => rw [e] at p; exact p
  | ct ρ => rw [e] at p; exact p
  | rt r ρ => rw [e] at p; exact p
  | exc x ρ => rw [e] at p; exact p
  | bad => rw [e] at p; exact p
theorem vss_nil : VSs X G W [] sNext := ⟨fun B => pss_imp pss_nil fun E σ H ⟨F, own, ρ, R, P⟩ => P σ H F own Sub.rfl' R⟩
theorem vss_cons {st : Stmt} {rest : List Stmt} {a b : SM} (h1 : VS X G W st a) (h2 : VSs X G W rest b) : VSs X G W (st :: rest) (sSeq a b) :=
  ⟨fun B => pss_imp (pss_cons (h1.run B) (h2.run B)) fun E σ H ⟨F, own, ρ, R, P⟩ => ⟨F, own, ρ, R, PostS.seq P⟩⟩
theorem vs_bad {st : Stmt} : VS X G W st fun _ => .bad := ⟨fun B => ps_imp ps_never fun E σ H ⟨F, own, ρ, R, P⟩ => P.elim⟩
theorem vss_bad {sts : List Stmt} : VSs X G W sts fun _ => .bad := ⟨fun B => pss_imp pss_never fun E σ H ⟨F, own, ρ, R, P⟩ => P.elim⟩
theorem vs_pass : VS X G W (.Pass pos) sNext := ⟨fun B => ps_imp ps_pass fun E σ H ⟨F, own, ρ, R, P⟩ => P σ H F own Sub.rfl' R⟩
theorem vs_break : VS X G W (.Break pos) fun ρ => .bk ρ := ⟨fun B => ps_imp ps_break fun E σ H ⟨F, own, ρ, R, P⟩ => P σ H F own Sub.rfl' R⟩
theorem vs_continue : VS X G W (.Continue pos) fun ρ => .ct ρ := ⟨fun B => ps_imp ps_continue fun E σ H ⟨F, own, ρ, R, P⟩ => P σ H F own Sub.rfl' R⟩
def sDrop {α : Type} (m : M α) : SM := thenS m fun _ ρ => .nx ρ
theorem vs_expr {e : Expr} {m : M Rv} (h : VE X G W e m) (hs : swapsWith e none pos.line X.env = pure false) : VS X G W (.Expr e pos) (sDrop m) :=
  ⟨fun B => ps_imp (ps_expr (h.run B) hs) fun E σ H ⟨F, own, ρ, R, P⟩ => stepS R P fun a ρ2 b H2 F2 own2 _ g R2 _ P2 => P2 σ H2 F2 own2 Sub.rfl' R2⟩
def sRet (m : M Rv) : SM := thenS m fun r ρ => .rt r ρ
theorem base_none (R : Rl G B F own σ H ρ) (x : Addr) (h : H x = none) : B.H0 x = none := R.free0 h
theorem vs_ret {e : Expr} {m : M Rv} (h : VE X G W e m) : VS X G W (.Return (some e) pos) (sRet m) :=
  ⟨fun B => ps_imp (ps_ret (h.run B)) fun E σ H ⟨F, own, ρ, R, P⟩ => stepS R P fun a ρ2 b H2 F2 own2 _ g R2 q P2 => P2 b σ H2 F2 own2 Sub.rfl' R2 ((okRv G B σ).mono (base_none R) q)⟩
def sRetN : SM := fun ρ => .rt (.sh .non) ρ
theorem vs_retN : VS X G W (.Return none pos) sRetN := ⟨fun B => ps_imp ps_retN fun E σ H ⟨F, own, ρ, R, P⟩ => P .non σ H F own Sub.rfl' R (show Rep G F .non .non from rep_non.mpr rfl)⟩
/-- return name: what the frame owns goes out -/
def sRetV (i : Nat) : SM := fun ρ => match ρ[i]? with
  | some (some (.sh, d)) => .rt (.sh d) ρ
  | some (some (.ow, d)) => .rt (.tm d) (ρ.set i none)
  | _ => .bad
theorem Rl.drop {i : Nat} (R : Rl G B F own σ H ρ) : Rl G B F (clr own i) σ H (ρ.set i none) := by
  refine ⟨by rw [List.length_set]; exact R.len, fun j p e => ?_, R.same, R.fsub, R.f0, R.fnew, fun j b e => R.ownF j b (clr_some e).1, fun j b e => R.own0 j b (clr_some e).1,
    fun j b e => R.ownH j b (clr_some e).1, fun j k b e e' => R.inj j k b (clr_some e).1 (clr_some e').1⟩
  by_cases hj : j = i
  · subst hj
    by_cases hl : j < ρ.length
    · rw [List.getElem?_set_self hl] at e
      injection e with e
      cases e
    · rw [List.getElem?_eq_none (by rw [List.length_set]; omega)] at e
      cases e
  · rw [List.getElem?_set_ne (Ne.symm hj)] at e
    obtain ⟨w, hw, q⟩ := R.slot j p e
    exact ⟨w, hw, q.clr hj⟩
theorem vs_retV {i : Nat} {x : Str} {p : Pos} (hN : X.N[i]? = some x) (hv : Vis X.env.scope x) (hd : (x == ("__debug__" : Str)) = false) (hc : (x == ("__classdict__" : Str)) = false) : VS X G W (.Return (some (.Name x p)) pos) (sRetV i) := by
  refine ⟨fun B => ps_imp (ps_ret (pe_var hN hv hd hc)) fun E σ H ⟨F, own, ρ, R, P⟩ => ?_⟩
  unfold sRetV at P
  split at P
  · rename_i d e
    obtain ⟨v, hv, q⟩ := R.slot i _ e
    exact ⟨v, hv, P v σ H F own Sub.rfl' R q⟩
  · rename_i d e
    obtain ⟨v, hv, a, o, e1, e2, e3, q⟩ := R.slot i _ e
    exact ⟨v, hv, P v σ H F _ Sub.rfl' R.drop ⟨a, o, e1, e3, R.ownF i a e2, ⟨R.own0 i a e2, R.own0 i a e2⟩, fun j z => (clr_some z).2 (R.inj j i a (clr_some z).1 e2), q⟩⟩
  · exact P.elim
def sIf (t : M Bool) (a b : SM) : SM := thenS t fun c => match c with
  | true => a
  | false => b
theorem vs_if {c : Expr} {p q : List Stmt} {t : M Bool} {a b : SM} (hc : VT X G W c t) (ha : VSs X G W p a) (hb : VSs X G W q b) : VS X G W (.If c p q pos) (sIf t a b) := by
  refine ⟨fun B => ps_imp (ps_if (hc.run B) (ha.run B) (hb.run B)) fun E σ H ⟨F, own, ρ, R, P⟩ => ?_⟩
  refine stepS R P fun c ρ2 v H2 F2 own2 _ g R2 k P2 => ?_
  have k : c = v := k
  subst k
  cases c with
  | true => exact ⟨F2, own2, ρ2, R2, P2⟩
  | false => exact ⟨F2, own2, ρ2, R2, P2⟩
/-! ### stores -/
def setRv (i : Nat) (r : Rv) : SM := fun ρ => match r with
  | .sh d => .nx (ρ.set i (some (.sh, d)))
  | .tm d => .nx (ρ.set i (some (.ow, d)))
  | .pk _ => .bad
def sSet (i : Nat) (m : M Rv) : SM := thenS m (setRv i)
theorem set_go {i : Nat} {B : Bx} {E : Ends} {σ : St} {H : Hp} {m : M Rv} (h : tS G B W (sSet i m) E σ H) : tAsg (tM G B W (fun σ => okRv G B σ) m) (gName i) E σ H := by
  obtain ⟨F, own, ρ, R, P⟩ := h
  refine stepS R P fun r ρ2 v H2 F2 own2 _ g R2 k P2 => ?_
  cases r with
  | sh d => exact P2 _ H2 F2 _ Sub.rfl' (R2.setSh k)
  | tm d =>
    obtain ⟨a, o, e, h1, h2, h3, h4, h5⟩ := k
    subst e
    exact P2 _ H2 F2 _ Sub.rfl' (R2.setOw h1 h2 h3.2 h4 h5)
  | pk j => exact P2.elim
theorem vs_set {i : Nat} {x : Str} {e : Expr} {m : M Rv} {p : Pos} (hN : X.N.Nodup) (hi : X.N[i]? = some x) (hx : Loc X.env.scope x) (he : VE X G W e m) (hs : swapsWith e (some (.Name x p)) pos.line X.env = pure false) (hf : X.fn x = true ∨ X.env.scope.names.lookup x = some .local) :
    VS X G W (.Assign [.Name x p] e pos) (sSet i m) := ⟨fun B => ps_imp (ps_set hN hi hx (he.run B) hs hf) fun E σ H h => set_go h⟩
def sAsg (f : D → VEnv → Option VEnv) (m : M D) : SM := thenS m fun d ρ => match f d ρ with
  | some ρ' => .nx ρ'
  | none => .bad
theorem vs_asg {tg e : Expr} {is : List Nat} {f : D → VEnv → Option VEnv} {m : M D} (he : VV X G W e m) (hg : VG X G tg is f) (hs : swapsWithSole [tg] e pos.line X.env = pure false) (hw : swappedStores [tg] e X.env = pure none) (h1 : (assignEach [tg] X.env).map (·.2) = [assign tg X.env]) :
    VS X G W (.Assign [tg] e pos) (sAsg f m) := by
  refine ⟨fun B => ps_imp (ps_asg (he.run B) (hg.run B) hs hw h1) fun E σ H ⟨F, own, ρ, R, P⟩ => ?_⟩
  refine stepS R P fun d ρ2 v H2 F2 own2 _ g R2 k P2 => ?_
  split at P2
  · rename_i ρ3 e3
    exact ⟨F2, own2, ρ2, d, ρ3, R2, k, e3, fun σ' own' R' _ => P2 σ' H2 F2 own' Sub.rfl' R'⟩
  · exact P2.elim
/-- a, b = x, y -/
def setTwo (i j : Nat) (r1 r2 : Rv) : SM := fun ρ => match r1, r2 with
  | .sh d1, .sh d2 => .nx ((ρ.set i (some (.sh, d1))).set j (some (.sh, d2)))
  | .tm d1, .tm d2 => .nx ((ρ.set i (some (.ow, d1))).set j (some (.ow, d2)))
  | .sh d1, .tm d2 => .nx ((ρ.set i (some (.sh, d1))).set j (some (.ow, d2)))
  | .tm d1, .sh d2 => .nx ((ρ.set i (some (.ow, d1))).set j (some (.sh, d2)))
  | _, _ => .bad
/-! ### for -/
def forS (f : D → VEnv → Option VEnv) (b : SM) : List D → SM
  | [] => fun ρ => .nx ρ
  | d :: ds => fun ρ => match f d ρ with
    | none => .bad
    | some ρ1 => (match b ρ1 with
      | .nx ρ2 => forS f b ds ρ2
      | .ct ρ2 => forS f b ds ρ2
      | .bk ρ2 => .nx ρ2
      | r => r)
def sFor (mi : M (List D)) (f : D → VEnv → Option VEnv) (b : SM) : SM := thenS mi fun ds => forS f b ds
theorem getElem?_drop_cons {α : Type} {ds : List α} {i : Nat} {d : α} (h : ds[i]? = some d) : ds.drop i = d :: ds.drop (i + 1) := by
  obtain ⟨hi, e⟩ := List.getElem?_eq_some_iff.mp h
  rw [List.drop_eq_getElem_cons hi, e]
theorem vs_for {tg iter : Expr} {body : List Stmt} {is : List Nat} {f : D → VEnv → Option VEnv} {mi : M (List D)} {b : SM} (hp : PassesOwn (model X.prog X.w) X.A X.env X.xe) (hc : X.calm = true) (hi : VI X G W tg iter mi) (hg : VG X G tg is f) (hb : VSs X G W body b)
    (hs : ∀ x, foldedSetIterable iter X.env x = pure x) : VS X G W (.For tg iter body [] pos) (sFor mi f b) := by
  refine ⟨fun B => ps_imp (ps_for hp hc (hi.run B) (hg.run B) (hb.run B) hs) fun E σ H ⟨F, own, ρ, R, P⟩ => ?_⟩
  refine stepS R P fun ds ρ1 J H1 F1 own1 _ g1 R1 w P1 => ?_
  have w : Wk G B J ds F1 := w
  refine ⟨fun i m σ H => m = ds.length - i ∧ i ≤ ds.length ∧ ∃ F' own' ρ', Sub F1 F' ∧ Rl G B F' own' σ H ρ' ∧ PostS G B W F' E (forS f b (ds.drop i) ρ'), ⟨ds.length, by omega, Nat.zero_le _, F1, own1, ρ1, Sub.rfl', R1, by rw [List.drop_zero]; exact P1⟩, ?_⟩
  rintro i m σ2 H2 ⟨hm, hi, F2, own2, ρ2, f12, R2, P2⟩
  by_cases hlt : i < ds.length
  · refine .inr ⟨w.go f12 R2.fsub R2.same hlt, fun σ H => ∃ F' own' ρ', Sub F1 F' ∧ Rl G B F' own' σ H ρ' ∧ PostS G B W F' E (forS f b (ds.drop (i + 1)) ρ'), fun σ' H' h => ⟨ds.length - (i + 1), by omega, rfl, by omega, h⟩, fun x H' y => ?_⟩
    obtain ⟨F3, d, sH, f23, s3, n3, ed, rd⟩ := w.yld f12 R2.fsub R2.same hlt y
    obtain ⟨R3, g3⟩ := R2.alloc sH f23 s3 n3
    rw [getElem?_drop_cons ed] at P2
    unfold forS at P2
    split at P2
    · exact P2.elim
    · rename_i ρ3 e3
      refine ⟨F3, own2, ρ2, d, ρ3, R3, rd, e3, fun σ4 own4 R4 _ => ⟨F3, own4, ρ3, R4, ?_⟩⟩
      cases e4 : b ρ3 with
      | nx ρ5 =>
        rw [e4] at P2
        exact fun σ' H' F' own' s R' => ⟨F', own', ρ5, f12.tr (f23.tr s), R', PostS.sub P2 (f23.tr s)⟩
      | ct ρ5 =>
        rw [e4] at P2
        exact fun σ' H' F' own' s R' => ⟨F', own', ρ5, f12.tr (f23.tr s), R', PostS.sub P2 (f23.tr s)⟩
      | bk ρ5 =>
        rw [e4] at P2
        exact fun σ' H' F' own' s R' => P2 σ' H' F' own' (f23.tr s) R'
      | rt r ρ5 =>
        rw [e4] at P2
        exact fun v σ' H' F' own' s R' k => P2 v σ' H' F' own' (f23.tr s) R' k
      | exc x ρ5 =>
        rw [e4] at P2
        exact fun cls d σ' H' F' own' s R' k => P2 cls d σ' H' F' own' (f23.tr s) R' k
      | bad =>
        rw [e4] at P2
        exact P2
  · have e : i = ds.length := by omega
    subst e
    rw [List.drop_length] at P2
    exact .inl ⟨w.stop f12 R2.fsub R2.same rfl, P2 σ2 H2 F2 own2 Sub.rfl' R2⟩
/-! ### while -/
def whileN (c : M Bool) (b : SM) : Nat → SM
  | 0 => fun _ => .bad
  | n + 1 => thenS c fun t => match t with
    | true => fun ρ => (match b ρ with
      | .nx ρ2 => whileN c b n ρ2
      | .ct ρ2 => whileN c b n ρ2
      | .bk ρ2 => .nx ρ2
      | r => r)
    | false => fun ρ => .nx ρ
open Classical in
noncomputable def sWhile (c : M Bool) (b : SM) : SM := fun ρ => if h : ∃ n, whileN c b n ρ ≠ .bad then whileN c b h.choose ρ else .bad
theorem whileN_succ (c : M Bool) (b : SM) : ∀ (n : Nat) (ρ : VEnv), whileN c b n ρ ≠ .bad → whileN c b (n + 1) ρ = whileN c b n ρ
  | 0, ρ, h => absurd rfl h
  | n + 1, ρ, h => by
    rw [whileN] at h ⊢
    rw [whileN]
    unfold thenS at h ⊢
    cases e : c ρ with
    | ok t ρ1 =>
      rw [e] at h
      dsimp only at h ⊢
      cases t with
      | true =>
        dsimp only at h ⊢
        cases e2 : b ρ1 with
        | nx ρ2 =>
          rw [e2] at h
          exact whileN_succ c b n ρ2 h
        | ct ρ2 =>
          rw [e2] at h
          exact whileN_succ c b n ρ2 h
        | bk ρ2 => rfl
        | rt r ρ2 => rfl
        | exc x ρ2 => rfl
        | bad => rfl
      | false => rfl
    | exc x ρ1 => rfl
    | bad => rfl
theorem whileN_le (c : M Bool) (b : SM) {n m : Nat} {ρ : VEnv} (h : whileN c b n ρ ≠ .bad) (hl : n ≤ m) : whileN c b m ρ = whileN c b n ρ := by
  induction m with
  | zero =>
    have : n = 0 := by omega
    subst this
    rfl
  | succ m ih =>
    by_cases e : n = m + 1
    · rw [e]
    · have hl : n ≤ m := by omega
      rw [whileN_succ c b m ρ (by rw [ih hl]; exact h), ih hl]
/-- how a while loop is told -/
theorem sWhile_eq {c : M Bool} {b : SM} {n : Nat} {ρ : VEnv} {r : SR} (h : whileN c b n ρ = r) (hr : r ≠ .bad) : sWhile c b ρ = r := by
  unfold sWhile
  have hx : ∃ n, whileN c b n ρ ≠ .bad := ⟨n, by rw [h]; exact hr⟩
  rw [dif_pos hx]
  have hn := hx.choose_spec
  rcases Nat.le_total n hx.choose with l | l
  · rw [whileN_le c b (by rw [h]; exact hr) l, h]
  · rw [← whileN_le c b hn l, h]
theorem sWhile_run {c : M Bool} {b : SM} {ρ : VEnv} (h : sWhile c b ρ ≠ .bad) : ∃ n, whileN c b n ρ = sWhile c b ρ := by
  unfold sWhile at h ⊢
  split at h
  · rename_i hx
    exact ⟨hx.choose, by rw [dif_pos hx]⟩
  · exact absurd rfl h
theorem vs_while {c : Expr} {body : List Stmt} {t : M Bool} {b : SM} (hp : PassesOwn (model X.prog X.w) X.A X.env X.xe) (hc : VT X G W c t) (hb : VSs X G W body b) : VS X G W (.While c body [] pos) (sWhile t b) := by
  refine ⟨fun B => ps_imp (ps_while hp (hc.run B) (hb.run B)) fun E σ H ⟨F, own, ρ, R, P⟩ => ?_⟩
  have hnb : sWhile t b ρ ≠ .bad := fun e => by rw [e] at P; exact P
  obtain ⟨n, en⟩ := sWhile_run hnb
  rw [← en] at P
  refine ⟨fun m σ H => ∃ F' own' ρ', Rl G B F' own' σ H ρ' ∧ PostS G B W F' E (whileN t b m ρ'), ⟨n, F, own, ρ, R, P⟩, ?_⟩
  rintro m σ2 H2 ⟨F2, own2, ρ2, R2, P2⟩
  cases m with
  | zero => exact P2.elim
  | succ m =>
    rw [whileN] at P2
    refine stepS R2 P2 fun d ρ3 v H3 F3 own3 _ g R3 k P3 => ?_
    have k : d = v := k
    subst k
    cases d with
    | false => exact P3 σ2 H3 F3 own3 Sub.rfl' R3
    | true =>
      rw [if_pos rfl]
      refine ⟨fun σ H => ∃ F' own' ρ', Rl G B F' own' σ H ρ' ∧ PostS G B W F' E (whileN t b m ρ'), fun σ' H' h => ⟨m, Nat.lt_succ_self m, h⟩, F3, own3, ρ3, R3, ?_⟩
      dsimp only at P3
      cases e4 : b ρ3 with
      | nx ρ5 =>
        rw [e4] at P3
        exact fun σ' H' F' own' s R' => ⟨F', own', ρ5, R', PostS.sub P3 s⟩
      | ct ρ5 =>
        rw [e4] at P3
        exact fun σ' H' F' own' s R' => ⟨F', own', ρ5, R', PostS.sub P3 s⟩
      | bk ρ5 => rw [e4] at P3; exact P3
      | rt r ρ5 => rw [e4] at P3; exact P3
      | exc x ρ5 => rw [e4] at P3; exact P3
      | bad => rw [e4] at P3; exact P3
end
end VL

set_option maxHeartbeats 200000
/-! The value layer: comprehensions. -/
namespace VL
open PySem PySem.Spec L2

def wipeE (ρ : VEnv) : List Nat → VEnv
  | [] => ρ
  | v :: vs => (wipeE ρ vs).set v none
/-- what a name that the block hides is behind it -/
def keepS : Option Slot → Slot
  | some (some (.sh, d)) => some (.sh, d)
  | some (some (.ro, d)) => some (.ro, d)
  | _ => none
def backE (ρ ρ3 : VEnv) : List Nat → VEnv
  | [] => ρ3
  | v :: vs => (backE ρ ρ3 vs).set v (keepS ρ[v]?)
theorem wipeE_len (ρ : VEnv) : ∀ vs, (wipeE ρ vs).length = ρ.length
  | [] => rfl
  | v :: vs => by rw [wipeE, List.length_set, wipeE_len ρ vs]
theorem backE_len (ρ ρ3 : VEnv) : ∀ vs, (backE ρ ρ3 vs).length = ρ3.length
  | [] => rfl
  | v :: vs => by rw [backE, List.length_set, backE_len ρ ρ3 vs]
theorem wipe_out' {σ : St} {j : Nat} : ∀ {vs : List Nat}, j ∉ vs → (wipe σ vs)[j]? = σ[j]?
  | [], _ => rfl
  | v :: vs, h => by
    rw [wipe, List.getElem?_set_ne (fun z => h (by rw [z]; simp)), wipe_out' fun z => h (List.mem_cons_of_mem _ z)]
theorem wipe_in {σ : St} {j : Nat} : ∀ {vs : List Nat}, j ∈ vs → j < σ.length → (wipe σ vs)[j]? = some none
  | v :: vs, h, hl => by
    by_cases e : v = j
    · subst e
      rw [wipe, List.getElem?_set_self (by rw [wipe_length]; exact hl)]
    · rw [wipe, List.getElem?_set_ne e]
      exact wipe_in ((List.mem_cons.mp h).resolve_left fun z => e z.symm) hl
theorem wipeE_some {ρ : VEnv} {j : Nat} {p : Md × D} : ∀ {vs : List Nat}, (wipeE ρ vs)[j]? = some (some p) → ρ[j]? = some (some p) ∧ j ∉ vs
  | [], h => ⟨h, by simp⟩
  | v :: vs, h => by
    rw [wipeE] at h
    by_cases e : v = j
    · subst e
      by_cases hl : v < (wipeE ρ vs).length
      · rw [List.getElem?_set_self hl] at h
        injection h with h
        cases h
      · rw [List.getElem?_eq_none (by simpa using hl)] at h
        cases h
    · rw [List.getElem?_set_ne e] at h
      obtain ⟨h1, h2⟩ := wipeE_some h
      exact ⟨h1, fun z => (List.mem_cons.mp z).elim (fun z => e z.symm) h2⟩
theorem backE_some {ρ ρ3 : VEnv} {j : Nat} {p : Md × D} : ∀ {vs : List Nat}, (backE ρ ρ3 vs)[j]? = some (some p) → (j ∉ vs ∧ ρ3[j]? = some (some p)) ∨ (j ∈ vs ∧ keepS ρ[j]? = some p)
  | [], h => .inl ⟨by simp, h⟩
  | v :: vs, h => by
    rw [backE] at h
    by_cases e : v = j
    · subst e
      by_cases hl : v < (backE ρ ρ3 vs).length
      · rw [List.getElem?_set_self hl] at h
        injection h with h
        exact .inr ⟨by simp, h⟩
      · rw [List.getElem?_eq_none (by simpa using hl)] at h
        cases h
    · rw [List.getElem?_set_ne e] at h
      rcases backE_some h with ⟨h1, h2⟩ | ⟨h1, h2⟩
      · exact .inl ⟨fun z => (List.mem_cons.mp z).elim (fun z => e z.symm) h1, h2⟩
      · exact .inr ⟨List.mem_cons_of_mem _ h1, h2⟩
theorem keepS_some {o : Option Slot} {p : Md × D} (h : keepS o = some p) : o = some (some p) ∧ (p.1 = .sh ∨ p.1 = .ro) := by
  unfold keepS at h
  split at h
  · injection h with h
    subst h
    exact ⟨rfl, .inl rfl⟩
  · injection h with h
    subst h
    exact ⟨rfl, .inr rfl⟩
  · cases h
section
variable {X : Cx} {G : Gx} {B : Bx} {W : WX} {F F1 F3 H H1 H3 : Hp} {own own1 own3 : OwnM} {σ σ2 : St} {ρ ρ3 : VEnv} {vs is : List Nat} {pos : Pos}
theorem Rl.wiped (R : Rl G B F own σ H ρ) : Rl G B F own (wipe σ vs) H (wipeE ρ vs) :=
  R.weak (by rw [wipeE_len, wipe_length]; exact R.len) fun i p e => by
    obtain ⟨h1, h2⟩ := wipeE_some e
    exact ⟨h1, wipe_out' h2⟩
theorem wipe_same {σ : St} {own own' : OwnM} (s : Stored (wipe σ vs) σ2 own own' is) (h : ∀ j ∈ is, j ∈ vs) : wipe σ2 vs = wipe σ vs := by
  apply List.ext_getElem?
  intro j
  by_cases hj : j ∈ vs
  · by_cases hl : j < σ.length
    · rw [wipe_in hj hl, wipe_in hj (by rw [s.len, wipe_length]; exact hl)]
    · rw [List.getElem?_eq_none (by rw [wipe_length, s.len, wipe_length]; omega), List.getElem?_eq_none (by rw [wipe_length]; omega)]
  · rw [wipe_out' hj, s.out j fun z => hj (h j z)]
theorem Rl.unwiped (R : Rl G B F own σ H ρ) (R3 : Rl G B F3 own3 σ2 H3 ρ3) (s : Sub F F3) (w : wipe σ2 vs = wipe σ vs) : Rl G B F3 own3 σ H3 (backE ρ ρ3 vs) := by
  have hl : σ2.length = σ.length := by rw [← wipe_length σ2 vs, w, wipe_length]
  refine ⟨by rw [backE_len, R3.len, hl], fun j p e => ?_, R3.same, R3.fsub, R3.f0, R3.fnew, R3.ownF, R3.own0, R3.ownH, R3.inj⟩
  rcases backE_some e with ⟨h1, h2⟩ | ⟨h1, h2⟩
  · obtain ⟨v, hv, q⟩ := R3.slot j p h2
    refine ⟨v, ?_, q⟩
    rw [← hv, ← wipe_out' h1, ← w, wipe_out' h1]
  · obtain ⟨e1, e2⟩ := keepS_some h2
    obtain ⟨v, hv, q⟩ := R.slot j p e1
    refine ⟨v, hv, ?_⟩
    obtain ⟨m, d⟩ := p
    rcases e2 with e2 | e2
    · have e2 : m = .sh := e2
      subst e2
      exact Rep.mono s q
    · have e2 : m = .ro := e2
      subst e2
      exact Red.mono q Sub.rfl' s
/-- the tests of a comprehension -/
structure VTs (X : Cx) (G : Gx) (W : WX) (ifs : List Expr) (m : M Bool) : Prop where
  run : ∀ B, PTs X ifs (tM G B W (fun _ => okB) m)
theorem vts_nil : VTs X G W [] (M.pure true) := ⟨fun B => ⟨fun pins s σ H Q I ⟨F, own, ρ, R, P⟩ => pts_nil.run pins s σ H Q I (P true H F own Grow.rfl' R rfl)⟩⟩
theorem vts_one {c : Expr} {t : M Bool} (h : VT X G W c t) : VTs X G W [c] t := ⟨fun B => pts_one (h.run B)⟩
/-! ### lists -/
def lcGo (f : D → VEnv → Option VEnv) (tt : M Bool) (te : M D) (vs : List Nat) : List D → List D → VEnv → Res (List D)
  | [], acc, ρ => .ok acc ρ
  | d :: ds, acc, ρ => match f d (wipeE ρ vs) with
    | none => .bad
    | some ρ1 => (match tt ρ1 with
      | .ok true ρ2 => (match te ρ2 with
        | .ok y ρ3 => if acc.length < lim then lcGo f tt te vs ds (acc ++ [y]) (backE ρ ρ3 vs) else .bad
        | _ => .bad)
      | .ok false ρ2 => lcGo f tt te vs ds acc (backE ρ ρ2 vs)
      | _ => .bad)
theorem lcGo_exc {f : D → VEnv → Option VEnv} {tt : M Bool} {te : M D} {vs : List Nat} : ∀ {ds acc : List D} {ρ : VEnv} {x : Xd} {ρ' : VEnv}, lcGo f tt te vs ds acc ρ ≠ .exc x ρ'
  | [], acc, ρ, x, ρ', h => by cases h
  | d :: ds, acc, ρ, x, ρ', h => by
    unfold lcGo at h
    split at h
    · cases h
    · split at h
      · split at h
        · split at h
          · exact lcGo_exc h
          · cases h
        · cases h
      · exact lcGo_exc h
      · cases h
def noW : WX := fun _ _ _ _ => False
def lcM (mi : M (List D)) (f : D → VEnv → Option VEnv) (tt : M Bool) (te : M D) (vs : List Nat) : M Rv := mi.bind fun ds => M.bind (fun ρ => lcGo f tt te vs ds [] ρ) fun acc => M.pure (.tm (.lst acc))
/-- the block's frame is told for every start -/
def BlkAll (X : Cx) (scope : Scope) (P : Cx → Prop) : Prop := ∀ (s : Shared) (H : Hp) (C : Addr) (cl : List (Str × Addr)) (fp : List Addr), P (X.blk s H scope (compEnvC scope cl C X.env) fp)
theorem lc_go {f : D → VEnv → Option VEnv} {tt : M Bool} {te : M D} {mi : M (List D)} {wi : TI} {Q : VK} (hsub : ∀ j ∈ is, j ∈ vs) (h : tM G B W (fun σ => okRv G B σ) (lcM mi f tt te vs) σ H Q) :
    tLc (tM G B W (fun _ => okW G B) mi) (gF G B is f) (tM G B noW (fun _ => okB) tt) (tM G B noW (fun _ => okD G) te) vs σ H Q := by
  obtain ⟨F, own, ρ, R, P⟩ := h
  refine step Grow.rfl' R P fun ds ρ1 J H1 F1 own1 _ g1 _ R1 w P1 => ?_
  have w : Wk G B J ds F1 := w
  intro Dp hD
  have P1 : Post G B W σ (okRv G B σ) own F H ((lcGo f tt te vs ds [] ρ1).bind fun acc => M.pure (.tm (.lst acc))) Q := P1
  obtain ⟨R1', g1'⟩ := R1.fresh (o := .lst []) hD
  refine ⟨fun i m H2 => m = ds.length - i ∧ i ≤ ds.length ∧ ∃ F2 own2 ρ2 acc vs', Grow own1 own2 (upd H1 Dp (.lst [])) (upd H2 Dp (.lst [])) F1 F2 ∧ Rl G B F2 own2 σ H2 ρ2 ∧ H2 Dp = some (.lst vs') ∧ F2 Dp = none ∧ Reps G F2 acc vs' ∧
    Post G B W σ (okRv G B σ) own F H ((lcGo f tt te vs (ds.drop i) acc ρ2).bind fun acc => M.pure (.tm (.lst acc))) Q,
    ⟨ds.length, by omega, Nat.zero_le _, F1, own1, ρ1, [], [], ?_, R1', upd_same, R1.freeF hD, reps_nil.mpr rfl, by rw [List.drop_zero]; exact P1⟩, ?_⟩
  · have e : upd (upd H1 Dp (.lst [])) Dp (.lst []) = upd H1 Dp (.lst []) := by
      funext x
      by_cases hx : x = Dp
      · subst hx
        rw [upd_same, upd_same]
      · rw [upd_ne hx]
    rw [e]
    exact Grow.rfl'
  rintro i m H2 ⟨hm, hi, F2, own2, ρ2, acc, vs', g2, R2, hD2, hF2, rA, P2⟩
  have no1 : ∀ j, own1 j ≠ some Dp := R1.freeO hD
  have no2 : ∀ j, own2 j ≠ some Dp := fun j z => no1 j (g2.own j _ z)
  -- the growth told without the new list
  have gA : Grow own own2 H H2 F F2 := by
    have hDH : H Dp = none := g1.back Dp hD
    refine ⟨fun a o ha hn => ?_, fun a o ha => ?_, g1.frz.tr g2.frz, fun a o ha => ?_, fun j a z => g1.own j a (g2.own j a z)⟩
    · have hne : a ≠ Dp := ne_of_none ha hDH
      have h1 := g1.keep a o ha hn
      have h2 := g2.keep a o (by rw [upd_ne hne]; exact h1) fun j z => hn j (g1.own j a z)
      rw [upd_ne hne] at h2
      exact h2
    · have hne : a ≠ Dp := ne_of_none ha hDH
      obtain ⟨o1, h1⟩ := g1.dom a o ha
      obtain ⟨o2, h2⟩ := g2.dom a o1 (by rw [upd_ne hne]; exact h1)
      rw [upd_ne hne] at h2
      exact ⟨o2, h2⟩
    · have hne : a ≠ Dp := fun z => by rw [z, hF2] at ha; cases ha
      rcases g2.new a o ha with z | z | ⟨j, z⟩
      · exact g1.new a o z
      · rw [upd_ne hne] at z
        exact .inr (.inl (g1.back a z))
      · exact .inr (.inr ⟨j, g1.own j a z⟩)
  by_cases hlt : i < ds.length
  · refine .inr ⟨w.go g2.frz R2.fsub R2.same hlt, fun H2 => ∃ F2 own2 ρ2 acc vs', Grow own1 own2 (upd H1 Dp (.lst [])) (upd H2 Dp (.lst [])) F1 F2 ∧ Rl G B F2 own2 σ H2 ρ2 ∧ H2 Dp = some (.lst vs') ∧ F2 Dp = none ∧ Reps G F2 acc vs' ∧
      Post G B W σ (okRv G B σ) own F H ((lcGo f tt te vs (ds.drop (i + 1)) acc ρ2).bind fun acc => M.pure (.tm (.lst acc))) Q, fun H' h => ⟨ds.length - (i + 1), by omega, rfl, by omega, h⟩, fun x H' y => ?_⟩
    obtain ⟨F3, d, sH, f23, s3, n3, ed, rd⟩ := w.yld g2.frz R2.fsub R2.same hlt y
    obtain ⟨R3, g3⟩ := R2.alloc sH f23 s3 n3
    have hD3 : H' Dp = some (.lst vs') := sH _ _ hD2
    have hF3 : F3 Dp = none := by
      cases q : F3 Dp with
      | none => rfl
      | some u =>
        rcases n3 Dp u q with z | z
        · rw [hF2] at z; cases z
        · rw [hD2] at z; cases z
    rw [getElem?_drop_cons ed] at P2
    unfold lcGo at P2
    split at P2
    · exact P2.elim
    · rename_i ρ4 e4
      refine ⟨F3, own2, wipeE ρ2 vs, d, ρ4, R3.wiped, rd, e4, fun σ5 own5 R5 st => ⟨wipe_same st hsub, ?_⟩⟩
      have w5 := wipe_same st hsub
      have g5 : Grow own2 own5 H' H' F3 F3 := ⟨fun _ _ h _ => h, fun _ o h => ⟨o, h⟩, Sub.rfl', fun _ _ h => .inl h, st.own⟩
      -- a step's growth, over the list in the making
      have lift : ∀ {own6 : OwnM} {H6 F6 : Hp}, Grow own5 own6 H' H6 F3 F6 → ∀ {vs6 : List V}, H6 Dp = some (.lst vs6) → Grow own1 own6 (upd H1 Dp (.lst [])) (upd H6 Dp (.lst [])) F1 F6 ∧ F6 Dp = none := fun {own6 H6 F6} g6 {vs6} h6 => by
        have g36 := g3.tr (g5.tr g6)
        have hF6 : F6 Dp = none := by
          cases q : F6 Dp with
          | none => rfl
          | some u =>
            rcases g36.new Dp u q with z | z | ⟨j, z⟩
            · rw [hF2] at z; cases z
            · rw [hD2] at z; cases z
            · exact absurd z (no2 j)
        refine ⟨⟨fun a o ha hn => ?_, fun a o ha => ?_, g2.frz.tr g36.frz, fun a o ha => ?_, fun j a z => g2.own j a (g36.own j a z)⟩, hF6⟩
        · by_cases hx : a = Dp
          · subst hx
            rw [upd_same] at ha ⊢
            exact ha
          · have h1 := g2.keep a o ha hn
            rw [upd_ne hx] at h1 ⊢
            exact g36.keep a o h1 fun j z => hn j (g2.own j a z)
        · by_cases hx : a = Dp
          · subst hx
            exact ⟨_, upd_same⟩
          · obtain ⟨o1, h1⟩ := g2.dom a o ha
            rw [upd_ne hx] at h1
            obtain ⟨o2, h2⟩ := g36.dom a o1 h1
            exact ⟨o2, by rw [upd_ne hx]; exact h2⟩
        · have hne : a ≠ Dp := fun z => by rw [z, hF6] at ha; cases ha
          rcases g36.new a o ha with z | z | ⟨j, z⟩
          · exact g2.new a o z
          · refine .inr (.inl (g2.back a ?_))
            rw [upd_ne hne]
            exact z
          · exact .inr (.inr ⟨j, g2.own j a z⟩)
      refine ⟨F3, own5, ρ4, R5, ?_⟩
      cases e6 : tt ρ4 with
      | exc x ρ6 =>
        rw [e6] at P2
        exact P2.elim
      | bad =>
        rw [e6] at P2
        exact P2.elim
      | ok c ρ6 =>
        rw [e6] at P2
        intro b H6 F6 own6 g6 R6 k6
        have k6 : c = b := k6
        subst k6
        have h6 : H6 Dp = some (.lst vs') := g6.keep Dp _ hD3 fun j z => no2 j (st.own j _ z)
        cases c with
        | false =>
          rw [if_neg Bool.false_ne_true]
          obtain ⟨gg, hF6⟩ := lift g6 h6
          refine ⟨F6, own6, _, acc, vs', gg, R3.unwiped R6 g6.frz w5, h6, hF6, rA.mono (f23.tr g6.frz), P2⟩
        | true =>
          rw [if_pos rfl]
          dsimp only at P2
          refine ⟨F6, own6, ρ6, R6, ?_⟩
          cases e7 : te ρ6 with
          | exc x ρ7 =>
            rw [e7] at P2
            exact P2.elim
          | bad =>
            rw [e7] at P2
            exact P2.elim
          | ok yd ρ7 =>
            rw [e7] at P2
            intro yv H7 F7 own7 g7 R7 k7
            have k7 : Rep G F7 yd yv := k7
            have h7 : H7 Dp = some (.lst vs') := g7.keep Dp _ h6 fun j z => no2 j (st.own j _ (g6.own j _ z))
            dsimp only at P2
            split at P2
            · rename_i hl
              have rA7 : Reps G F7 acc vs' := rA.mono (f23.tr (g6.frz.tr g7.frz))
              refine ⟨vs', h7, by rw [← rA7.len]; exact Nat.lt_of_lt_of_le hl (lim_ok (Nat.le_refl _)), ?_⟩
              obtain ⟨gg, hF7⟩ := lift (g6.tr g7) h7
              have hB : B.H0 Dp = none := R1.free0 hD
              have RB := R3.unwiped R7 (g6.frz.tr g7.frz) w5
              have e8 : upd (upd H7 Dp (.lst (vs' ++ [yv]))) Dp (.lst []) = upd H7 Dp (.lst []) := by
                funext x
                by_cases hx : x = Dp
                · subst hx
                  rw [upd_same, upd_same]
                · rw [upd_ne hx, upd_ne hx, upd_ne hx]
              have no7 : ∀ j, own7 j ≠ some Dp := fun j z => no2 j (st.own j _ (g6.own j _ (g7.own j _ z)))
              refine ⟨F7, own7, _, acc ++ [yd], vs' ++ [yv], by rw [e8]; exact gg, ?_, upd_same, hF7, rA7.app (Reps.one k7), P2⟩
              -- the list in the making is written
              have ne : ∀ {b : Addr} {u : HO}, F7 b = some u → b ≠ Dp := fun {b u} e z => by
                rw [z, hF7] at e
                cases e
              refine ⟨RB.len, fun j p e => ?_, fun b u e => ?_, fun b u e => ?_, RB.f0, RB.fnew, RB.ownF, RB.own0, fun j b e => ?_, RB.inj⟩
              · obtain ⟨v, hv, q⟩ := RB.slot j p e
                refine ⟨v, hv, ?_⟩
                obtain ⟨md, dd⟩ := p
                cases md with
                | sh => exact q
                | ro => exact q
                | ow =>
                  obtain ⟨a, o, q1, q2, q3, q4⟩ := q
                  exact ⟨a, o, q1, q2, by rw [upd_ne (fun z => no7 j (by rw [← z]; exact q2))]; exact q3, q4⟩
                | me =>
                  obtain ⟨a, o, q1, q2, q5, q3, q4⟩ := q
                  exact ⟨a, o, q1, q2, q5, by rw [upd_ne (fun z => no7 j (by rw [← z]; exact q2))]; exact q3, q4⟩
              · rw [upd_ne (ne_of_none e hB)]
                exact RB.same b u e
              · rw [upd_ne (ne e)]
                exact RB.fsub b u e
              · have hb : b ≠ Dp := fun z => no7 j (by rw [← z]; exact e)
                obtain ⟨u, hu⟩ := RB.ownH j b e
                exact ⟨u, by rw [upd_ne hb]; exact hu⟩
            · exact P2.elim
  · have e : i = ds.length := by omega
    subst e
    rw [List.drop_length] at P2
    refine .inl ⟨w.stop g2.frz R2.fsub R2.same rfl, ?_⟩
    have hDH : H Dp = none := g1.back Dp hD
    exact P2 (.ref Dp) H2 F2 own2 gA R2 ⟨Dp, _, rfl, hD2, hF2, ⟨hDH, R1.free0 hD⟩, no2, vs', rfl, rA⟩
theorem ve_lc {elt tg iter : Expr} {ifs : List Expr} {scope : Scope} {own : List (Str × Nat)} {mi : M (List D)} {f : D → VEnv → Option VEnv} {tt : M Bool} {te : M D} (hc : X.calm = true) (hN : X.N.Nodup) (hi : VI X G W tg iter mi) (ok : BlkOk X.N X.env.scope scope own)
    (hsub : ∀ j ∈ is, j ∈ own.map (·.2)) (hg : BlkAll X scope fun Y => VG Y G tg is f) (ht : BlkAll X scope fun Y => VTs Y G noW ifs tt) (he : BlkAll X scope fun Y => VV Y G noW elt te) (hs : ∀ x, foldedSetIterable iter X.env x = pure x) :
    VE X G W (.ListComp elt [⟨tg, iter, ifs, 0⟩] scope pos) (lcM mi f tt te (own.map (·.2))) :=
  ⟨fun B => pe_imp (pe_lc hc hN (hi.run B) ok (fun s H C cl fp => (hg s H C cl fp).run B) (fun s H C cl fp => (ht s H C cl fp).run B) (fun s H C cl fp => (he s H C cl fp).run B) hs) fun σ H Q h => lc_go (wi := fun _ _ _ => True) hsub h⟩
/-- name = [..] -/
theorem vs_setLc {i : Nat} {y : Str} {py spos : Pos} {elt tg iter : Expr} {ifs : List Expr} {scope : Scope} {own : List (Str × Nat)} {mi : M (List D)} {f : D → VEnv → Option VEnv} {tt : M Bool} {te : M D} (hc : X.calm = true) (hN : X.N.Nodup) (hy : X.N[i]? = some y) (hyl : X.env.scope.names.lookup y = some .local)
    (hsw : swapsWith (.ListComp elt [⟨tg, iter, ifs, 0⟩] scope pos) (some (.Name y py)) spos.line X.env = pure true) (hi : VI X G W tg iter mi) (ok : BlkOk X.N X.env.scope scope own)
    (hsub : ∀ j ∈ is, j ∈ own.map (·.2)) (hg : BlkAll X scope fun Y => VG Y G tg is f) (ht : BlkAll X scope fun Y => VTs Y G noW ifs tt) (he : BlkAll X scope fun Y => VV Y G noW elt te) (hs : ∀ x, foldedSetIterable iter X.env x = pure x) :
    VS X G W (.Assign [.Name y py] (.ListComp elt [⟨tg, iter, ifs, 0⟩] scope pos) spos) (sSet i (lcM mi f tt te (own.map (·.2)))) :=
  ⟨fun B => ps_imp (ps_setLc hc hN hy hyl hsw (hi.run B) ok (fun s H C cl fp => (hg s H C cl fp).run B) (fun s H C cl fp => (ht s H C cl fp).run B) (fun s H C cl fp => (he s H C cl fp).run B) hs) fun E σ H h => by
    obtain ⟨F, own, ρ, R, P⟩ := h
    refine lc_go (wi := fun _ _ _ => True) (W := W) hsub (stepS (k := setRv i) R P fun r ρ2 v H2 F2 own2 _ g R2 k P2 => ?_)
    cases r with
    | sh d => exact P2 _ H2 F2 _ Sub.rfl' (R2.setSh k)
    | tm d =>
      obtain ⟨a, o, e, h1, h2, h3, h4, h5⟩ := k
      subst e
      exact P2 _ H2 F2 _ Sub.rfl' (R2.setOw h1 h2 h3.2 h4 h5)
    | pk j => exact P2.elim⟩
end
end VL

set_option maxHeartbeats 200000
/-! The value layer: methods of built-in types. -/
namespace VL
open PySem PySem.Spec L2

/-- receivers -/
inductive Ty where
  | str | list | dict
  deriving DecidableEq
def Ty.nm : Ty → String
  | .str => "str"
  | .list => "list"
  | .dict => "dict"
def tyD : Ty → D → Bool
  | .str, .str _ => true
  | .list, .lst _ => true
  | .dict, .dic _ _ => true
  | _, _ => false
def tyM {α : Type} (T : Ty) (r : Rv) (k : M α) : M α := fun ρ => match rdR r ρ with
  | some d => if tyD T d then k ρ else .bad
  | none => .bad
section
variable {X : Cx} {G : Gx} {B : Bx} {W : WX} {F H : Hp} {own : OwnM} {σ : St} {ρ : VEnv} {o e : Expr} {es : List Expr} {ma : M Rv} {ms : M (List Rv)} {apos cpos : Pos} {name : Str} {id : String} {T : Ty}
theorem tyD_ok {d : D} {v : V} (h : Red G F H d v) (t : tyD T d = true) : tyV X.K T.nm v H := by
  cases T <;> cases d <;> first | cases t | skip
  · rw [red_str h]
    exact rfl
  · obtain ⟨a, vs, rfl, q, _⟩ := h
    exact .inl ⟨rfl, vs, SqL.of q⟩
  · obtain ⟨a, vs, rfl, q, _⟩ := h
    rcases q with ⟨k, q, _⟩ | ⟨k, q, _⟩
    · exact .inr (.inr (.inl ⟨rfl, .inl ⟨k, q⟩⟩))
    · exact .inr (.inr (.inl ⟨rfl, .inr ⟨k, q⟩⟩))
def mtAny (X : Cx) (id : String) : V → List V → Hp → VK → Prop := fun x xs H Q => ∃ r, MtR X id r ∧ r x xs H Q
theorem mtAny' (X : Cx) (id : String) : MtR X id (mtAny X id) := by
  intro pins s σ H x xs v us Q I r1 r2 ⟨r, ho, h⟩
  exact ho pins s σ H x xs v us Q I r1 r2 h
/-- g tells what the method gives; nothing is changed -/
def MtN (X : Cx) (G : Gx) (id : String) (g : D → List D → Option Rv) : Prop :=
  ∀ {B : Bx} {F : Hp} {own : OwnM} {σ : St} {H : Hp} {ρ : VEnv} {v : V} {d : D} {vs : List V} {ds : List D} {rv : Rv} {Q : VK}, Rl G B F own σ H ρ → Red G F H d v → Reds G F H ds vs → g d ds = some rv → Fin G B σ F own H ρ rv Q → mtAny X id v vs H Q
def mMtE (g : D → List D → Option Rv) (r : Rv) (rs : List Rv) : M Rv := fun ρ => match rdR r ρ, rdRs rs ρ with
  | some d, some ds => (match g d ds with
    | some rv => .ok rv ρ
    | none => .bad)
  | _, _ => .bad
def mMt (T : Ty) (g : D → List D → Option Rv) (ma : M Rv) (ms : M (List Rv)) : M Rv := ma.bind fun r => tyM T r (ms.bind (mMtE g r))
theorem tyM_go {α β : Type} {ok' : OkK α β} {γ : Type} {ok : OkK γ β} {r : Rv} {k : M γ} {Q : β → Hp → Prop} (P : Post G B W σ ok own F H (tyM T r k ρ) Q) : ∃ d, rdR r ρ = some d ∧ tyD T d = true ∧ Post G B W σ ok own F H (k ρ) Q := by
  unfold tyM at P
  split at P
  · rename_i d e
    split at P
    · rename_i t
      exact ⟨d, e, t, P⟩
    · exact P.elim
  · exact P.elim
theorem mt_go {g : D → List D → Option Rv} (n : MtN X G id g) {H0 H1 H2 F0 F1 F2 : Hp} {own0 own1 own2 : OwnM} {ρ2 : VEnv} {r : Rv} {v : V} {rs : List Rv} {vs : List V} {Q : VK} (k1 : RvOk G B σ H0 F1 own1 H1 r v) (g12 : Grow own1 own2 H1 H2 F1 F2) (g02 : Grow own0 own2 H0 H2 F0 F2) (R2 : Rl G B F2 own2 σ H2 ρ2)
    (k2 : RvsOk G B σ H0 F2 own2 H2 rs vs) (P : Post G B W σ (okRv G B σ) own0 F0 H0 (mMtE g r rs ρ2) Q) : mtAny X id v vs H2 Q := by
  unfold mMtE at P
  split at P
  · rename_i d ds e1 e2
    split at P
    · rename_i rv e3
      refine n R2 ((k1.grow g12).red R2 e1) (RvsOk.red R2 k2 e2) e3 fun w H4 F4 g4 R4 k4 => ?_
      exact P w H4 F4 own2 (g02.tr g4) R4 ((okRv G B σ).mono g02.back k4)
    · exact P.elim
  · exact P.elim
theorem ve_bm0 {g : D → List D → Option Rv} (n : MtN X G id g) (pa : PlainAttrs T.nm) (slot : PySem.Slot T.nm name id) (hty : typeOf (.builtin id) = pure (.type "method_descriptor")) (ho : VE X G W o ma)
    (hbase : attributeBase o name X.env (eval o X.env) = eval o X.env) (hline : (apos.endLine == cpos.line) = true) : VE X G W (.Call (.Attribute o name apos) [] [] cpos) (mMt T g ma (M.pure [])) := by
  refine ⟨fun B => pe_imp (pe_bm0 pa slot hty (mtAny' X id) (ho.run B) hbase hline) fun σ H Q ⟨F, own, ρ, R, P⟩ => ?_⟩
  refine step (k := fun r => tyM T r ((M.pure []).bind (mMtE g r))) Grow.rfl' R P fun r ρ1 v H1 F1 own1 _ g1 _ R1 k1 P1 => ?_
  obtain ⟨d, e, t, P1⟩ := tyM_go (ok' := okRv G B σ) P1
  refine ⟨tyD_ok (k1.red R1 e) t, ?_⟩
  exact mt_go n k1 Grow.rfl' g1 R1 (show RvsOk G B σ H F1 own1 H1 [] [] from rfl) P1
theorem ve_bm {g : D → List D → Option Rv} (n : MtN X G id g) (pa : PlainAttrs T.nm) (slot : PySem.Slot T.nm name id) (hty : typeOf (.builtin id) = pure (.type "method_descriptor")) (ho : VE X G W o ma) (ha : VA X G W (e :: es) ms)
    (hbase : attributeBase o name X.env (eval o X.env) = eval o X.env)
    (hfew : ((backTo cpos (starEach (e :: es) X.env)).all (fun x => !x.1) && (backToKw cpos (keywordEach [] X.env)).all (fun x => x.1.isSome)
      && decide ((e :: es).length + ([] : List Keyword).length + (if ([] : List Keyword).isEmpty then 0 else 1) < 30)) = true)
    (hline : (apos.endLine == cpos.line) = true) (hs : starEach (e :: es) X.env = (false, eval e X.env) :: starEach es X.env) (hplain : (backTo cpos (starEach es X.env)).any (·.1) = false) :
    VE X G W (.Call (.Attribute o name apos) (e :: es) [] cpos) (mMt T g ma ms) := by
  refine ⟨fun B => pe_imp (pe_bm pa slot hty (mtAny' X id) (ho.run B) (ha.run B) hbase hfew hline hs hplain) fun σ H Q ⟨F, own, ρ, R, P⟩ => ?_⟩
  refine step (k := fun r => tyM T r (ms.bind (mMtE g r))) Grow.rfl' R P fun r ρ1 v H1 F1 own1 _ g1 _ R1 k1 P1 => ?_
  obtain ⟨d, e, t, P1⟩ := tyM_go (ok' := okRv G B σ) P1
  refine ⟨tyD_ok (k1.red R1 e) t, ?_⟩
  refine step (k := mMtE g r) g1 R1 P1 fun rs ρ2 vs H2 F2 own2 _ g2 g12 R2 k2 P2 => ?_
  exact mt_go n k1 g12 g2 R2 (RvsOk.back g1.back k2) P2
/-! ### what is changed: a name's own list -/
def wrD (g : D → List D → Option (D × D)) (i : Nat) (ds : List D) : M Rv := fun ρ => match ρ[i]? with
  | some (some (m, d)) => if m = .ow ∨ m = .me then (match g d ds with
      | some (d', r) => .ok (.sh r) (ρ.set i (some (m, d')))
      | none => .bad)
    else .bad
  | _ => .bad
/-- g tells the object behind the method and what the method gives -/
def MtW (X : Cx) (G : Gx) (id : String) (g : D → List D → Option (D × D)) : Prop :=
  ∀ {F : Hp} {H : Hp} {a : Addr} {ob : HO} {d d' r : D} {vs : List V} {ds : List D} {Q : VK}, H a = some ob → Own G F ob d → (∀ b u, F b = some u → H b = some u ∧ b ≠ a) → Reps G F ds vs → g d ds = some (d', r) → (∀ w ob', Own G F ob' d' → Rep G F r w → Q w (upd H a ob')) → mtAny X id (.ref a) vs H Q
def mWr (T : Ty) (i : Nat) (g : D → List D → Option (D × D)) (ms : M (List D)) : M Rv := tyM T (.pk i) (ms.bind (wrD g i))
theorem wr_go {g : D → List D → Option (D × D)} (n : MtW X G id g) {i : Nat} {H0 F0 : Hp} {own0 : OwnM} {v : V} {ds : List D} {vs : List V} {Q : VK} (hv : σ[i]? = some (some v)) (g0 : Grow own0 own H0 H F0 F) (R : Rl G B F own σ H ρ)
    (k : Reps G F ds vs) (P : Post G B W σ (okRv G B σ) own0 F0 H0 (wrD g i ds ρ) Q) : mtAny X id v vs H Q := by
  unfold wrD at P
  split at P
  · rename_i m d e
    split at P
    · rename_i hm
      split at P
      · rename_i d' r e2
        have key : ∃ a ob, v = .ref a ∧ own i = some a ∧ H a = some ob ∧ Own G F ob d := by
          obtain ⟨w, hw, q⟩ := R.slot i _ e
          rw [hv] at hw
          injection hw with hw
          injection hw with hw
          subst hw
          rcases hm with rfl | rfl
          · obtain ⟨a, ob, e1, e2, e3, q⟩ := q
            exact ⟨a, ob, e1, e2, e3, q⟩
          · obtain ⟨a, ob, e1, e2, _, e3, q⟩ := q
            exact ⟨a, ob, e1, e2, e3, q⟩
        obtain ⟨a, ob, ev, e3, e4, q⟩ := key
        subst ev
        have hF := R.ownF i a e3
        refine n e4 q (fun b u z => ⟨R.fsub b u z, fun y => by rw [y, hF] at z; cases z⟩) k e2 fun w ob' q' rw' => ?_
        obtain ⟨R', g'⟩ := R.write (o := ob) hm e hv q' e3
        exact P w _ F own (g0.tr g') R' rw'
      · exact P.elim
    · exact P.elim
  · exact P.elim
theorem ve_wr0 {g : D → List D → Option (D × D)} (n : MtW X G id g) {i : Nat} {x : Str} {p : Pos} (hN : X.N[i]? = some x) (hv : Vis X.env.scope x) (hd : (x == ("__debug__" : Str)) = false) (hc : (x == ("__classdict__" : Str)) = false)
    (pa : PlainAttrs T.nm) (slot : PySem.Slot T.nm name id) (hty : typeOf (.builtin id) = pure (.type "method_descriptor"))
    (hbase : attributeBase (.Name x p) name X.env (eval (.Name x p) X.env) = eval (.Name x p) X.env) (hline : (apos.endLine == cpos.line) = true) : VE X G W (.Call (.Attribute (.Name x p) name apos) [] [] cpos) (mWr T i g (M.pure [])) := by
  refine ⟨fun B => pe_imp (pe_bm0 pa slot hty (mtAny' X id) (pe_var hN hv hd hc) hbase hline) fun σ H Q ⟨F, own, ρ, R, P⟩ => ?_⟩
  obtain ⟨d, e, t, P1⟩ := tyM_go (ok' := okRv G B σ) P
  unfold rdR at e
  dsimp only at e
  split at e
  · rename_i m d' e0
    injection e with e
    subst e
    obtain ⟨v, hv, q⟩ := R.slot i _ e0
    exact ⟨v, hv, tyD_ok (R.red e0 hv) t, wr_go n hv Grow.rfl' R (show Reps G F [] [] from reps_nil.mpr rfl) P1⟩
  · cases e
theorem ve_wr {g : D → List D → Option (D × D)} (n : MtW X G id g) {ms : M (List D)} {i : Nat} {x : Str} {p : Pos} (hN : X.N[i]? = some x) (hv : Vis X.env.scope x) (hd : (x == ("__debug__" : Str)) = false) (hc : (x == ("__classdict__" : Str)) = false)
    (pa : PlainAttrs T.nm) (slot : PySem.Slot T.nm name id) (hty : typeOf (.builtin id) = pure (.type "method_descriptor")) (ha : VAs X G W (e :: es) ms)
    (hbase : attributeBase (.Name x p) name X.env (eval (.Name x p) X.env) = eval (.Name x p) X.env)
    (hfew : ((backTo cpos (starEach (e :: es) X.env)).all (fun x => !x.1) && (backToKw cpos (keywordEach [] X.env)).all (fun x => x.1.isSome)
      && decide ((e :: es).length + ([] : List Keyword).length + (if ([] : List Keyword).isEmpty then 0 else 1) < 30)) = true)
    (hline : (apos.endLine == cpos.line) = true) (hs : starEach (e :: es) X.env = (false, eval e X.env) :: starEach es X.env) (hplain : (backTo cpos (starEach es X.env)).any (·.1) = false) :
    VE X G W (.Call (.Attribute (.Name x p) name apos) (e :: es) [] cpos) (mWr T i g ms) := by
  refine ⟨fun B => pe_imp (pe_bm pa slot hty (mtAny' X id) (pe_var hN hv hd hc) (ha.run B) hbase hfew hline hs hplain) fun σ H Q ⟨F, own, ρ, R, P⟩ => ?_⟩
  obtain ⟨d, e, t, P1⟩ := tyM_go (ok' := okRv G B σ) P
  unfold rdR at e
  dsimp only at e
  split at e
  · rename_i m d' e0
    injection e with e
    subst e
    obtain ⟨v, hv, q⟩ := R.slot i _ e0
    refine ⟨v, hv, tyD_ok (R.red e0 hv) t, ?_⟩
    refine step (k := wrD g i) Grow.rfl' R P1 fun ds ρ2 vs H2 F2 own2 _ g2 g12 R2 k2 P2 => ?_
    exact wr_go n hv g2 R2 k2 P2
  · cases e
def appendW : D → List D → Option (D × D)
  | .lst xs, [d] => if xs.length < lim then some (.lst (xs ++ [d]), .non) else none
  | _, _ => none
theorem append_ok : MtW X G "list.append" appendW := by
  intro F H a ob d d' r vs ds Q ha q hf k e f
  unfold appendW at e
  split at e
  · rename_i xs d
    split at e
    · rename_i hl
      injection e with e
      injection e with e1 e2
      subst e1 e2
      obtain ⟨ws, rfl, q⟩ := q
      obtain ⟨v, rfl, rv⟩ := reps_1 k
      exact ⟨_, mt_append, a, ws, v, rfl, rfl, ha, by rw [← q.len]; exact Nat.lt_of_lt_of_le hl (lim_ok (Nat.le_refl _)), f _ _ ⟨_, rfl, q.app (Reps.one rv)⟩ (rep_non.mpr rfl)⟩
    · cases e
  · cases e
def popW : D → List D → Option (D × D)
  | .lst xs, [] => (xs[xs.length - 1]?).map fun d => (.lst xs.dropLast, d)
  | .lst xs, [.int i] => if -9223372036854775808 ≤ i ∧ i < 9223372036854775808 then (match seqIndex? i xs.length with
    | some k => (xs[k]?).map fun d => (.lst (xs.eraseIdx k), d)
    | none => none) else none
  | _, _ => none
theorem Reps.dropLast {xs : List D} {vs : List V} (h : Reps G F xs vs) : Reps G F xs.dropLast vs.dropLast := by
  rw [List.dropLast_eq_take, List.dropLast_eq_take, h.len]
  exact h.take _
theorem Reps.erase {xs : List D} {vs : List V} (i : Nat) (h : Reps G F xs vs) : Reps G F (xs.eraseIdx i) (vs.eraseIdx i) := by
  rw [List.eraseIdx_eq_take_drop_succ, List.eraseIdx_eq_take_drop_succ]
  exact (h.take i).app (h.drop (i + 1))
theorem pop_ok : MtW X G "list.pop" popW := by
  intro F H a ob d d' r vs ds Q ha q hf k e f
  unfold popW at e
  split at e
  · rename_i xs
    obtain ⟨ws, rfl, q⟩ := q
    have := reps_nil.mp k
    subst this
    cases e1 : xs[xs.length - 1]? with
    | none => rw [e1] at e; cases e
    | some y =>
      rw [e1] at e
      injection e with e
      injection e with e2 e3
      subst e2 e3
      obtain ⟨w, h1, h2⟩ := q.get' e1
      exact ⟨_, mt_pop, a, ws, w, rfl, rfl, ha, by rw [← q.len]; exact h1, f _ _ ⟨_, rfl, q.dropLast⟩ h2⟩
  · rename_i xs i
    split at e
    · rename_i hi
      obtain ⟨ws, rfl, q⟩ := q
      obtain ⟨v, rfl, rv⟩ := reps_1 k
      rw [rep_int.mp rv]
      split at e
      · rename_i j ej
        cases e1 : xs[j]? with
        | none => rw [e1] at e; cases e
        | some y =>
          rw [e1] at e
          injection e with e
          injection e with e2 e3
          subst e2 e3
          obtain ⟨w, h1, h2⟩ := q.get' e1
          exact ⟨_, mt_popAt, a, ws, i, j, w, rfl, rfl, ha, hi.1, hi.2, by rw [← q.len]; exact ej, h1, f _ _ ⟨_, rfl, q.erase j⟩ h2⟩
      · cases e
    · cases e
  · cases e
def insertW : D → List D → Option (D × D)
  | .lst xs, [.int i, d] => if xs.length < lim ∧ 0 ≤ i ∧ i < 9223372036854775808 then some (.lst (xs.take i.toNat ++ [d] ++ xs.drop i.toNat), .non) else none
  | _, _ => none
theorem insert_ok : MtW X G "list.insert" insertW := by
  intro F H a ob d d' r vs ds Q ha q hf k e f
  unfold insertW at e
  split at e
  · rename_i xs i d
    split at e
    · rename_i hl
      injection e with e
      injection e with e1 e2
      subst e1 e2
      obtain ⟨ws, rfl, q⟩ := q
      obtain ⟨v, w, rfl, rv, rw'⟩ := reps_2 k
      rw [rep_int.mp rv]
      exact ⟨_, mt_insert, a, ws, i, w, rfl, rfl, ha, by rw [← q.len]; exact Nat.lt_of_lt_of_le hl.1 (lim_ok (Nat.le_refl _)), hl.2.1, hl.2.2, f _ _ ⟨_, rfl, ((q.take _).app (Reps.one rw')).app (q.drop _)⟩ (rep_non.mpr rfl)⟩
    · cases e
  · cases e
def extendW : D → List D → Option (D × D)
  | .lst xs, [.lst ys] => if xs.length + ys.length ≤ lim then some (.lst (xs ++ ys), .non) else none
  | _, _ => none
theorem extend_ok : MtW X G "list.extend" extendW := by
  intro F H a ob d d' r vs ds Q ha q hf k e f
  unfold extendW at e
  split at e
  · rename_i xs ys
    split at e
    · rename_i hl
      injection e with e
      injection e with e1 e2
      subst e1 e2
      obtain ⟨ws, rfl, q⟩ := q
      obtain ⟨v, rfl, rv⟩ := reps_1 k
      obtain ⟨b, zs, rfl, hb, r⟩ := rep_lst.mp rv
      exact ⟨_, mt_extend, a, b, ws, zs, rfl, rfl, ha, (hf b _ hb).1, by rw [← q.len, ← r.len]; exact lim_ok hl, f _ _ ⟨_, rfl, q.app r⟩ (rep_non.mpr rfl)⟩
    · cases e
  · cases e
/-! ### texts -/
def strsOf : List D → Option (List (List Nat))
  | [] => some []
  | .str s :: ds => (strsOf ds).map (s :: ·)
  | _ => none
theorem strsOf_eq : ∀ {ds : List D} {ss : List (List Nat)}, strsOf ds = some ss → ds = ss.map D.str
  | [], ss, e => by injection e with e; subst e; rfl
  | .str s :: ds, ss, e => by
    change (strsOf ds).map (s :: ·) = some ss at e
    cases q : strsOf ds with
    | none => rw [q] at e; cases e
    | some ms =>
      rw [q] at e
      injection e with e
      subst e
      rw [strsOf_eq q]
      rfl
  | .non :: ds, ss, e => by cases e
  | .bl _ :: ds, ss, e => by cases e
  | .int _ :: ds, ss, e => by cases e
  | .lst _ :: ds, ss, e => by cases e
  | .tup _ :: ds, ss, e => by cases e
  | .scr _ :: ds, ss, e => by cases e
  | .dic _ _ :: ds, ss, e => by cases e
  | .ins _ _ _ :: ds, ss, e => by cases e
  | .exc _ _ _ :: ds, ss, e => by cases e
theorem strsOf_map : ∀ ss : List (List Nat), strsOf (ss.map D.str) = some ss
  | [] => rfl
  | s :: ss => by
    show (strsOf (ss.map D.str)).map (s :: ·) = _
    rw [strsOf_map ss]
    rfl
theorem Reps.strs : ∀ {ss : List (List Nat)} {vs : List V}, Reps G F (ss.map D.str) vs → vs = (ss.map toS).map V.str
  | [], vs, h => reps_nil.mp h
  | s :: ss, [], h => by have := h.len; simp at this
  | s :: ss, v :: vs, h => by
    have h := reps_cons.mp h
    rw [rep_str.mp h.1, Reps.strs h.2]
    rfl
def joinS (S : List Nat) : List (List Nat) → List Nat
  | [] => []
  | [p] => p
  | p :: q :: r => p ++ S ++ joinS S (q :: r)
theorem joinS_ok (S : List Nat) : ∀ ps : List (List Nat), Str.join (toS S) (ps.map toS) = toS (joinS S ps)
  | [] => rfl
  | [p] => rfl
  | p :: q :: r => by
    show toS p ++ toS S ++ Str.join (toS S) ((q :: r).map toS) = _
    rw [joinS_ok S (q :: r)]
    show (⟨(p.toArray ++ S.toArray) ++ (joinS S (q :: r)).toArray⟩ : Str) = toS (p ++ S ++ joinS S (q :: r))
    simp [toS]
def joinD : D → List D → Option Rv
  | .str s, [.lst xs] => (strsOf xs).bind fun ps => if (ps.map List.length).sum + ps.length * s.length ≤ lim then some (.sh (.str (joinS s ps))) else none
  | .str s, [.tup xs] => (strsOf xs).bind fun ps => if (ps.map List.length).sum + ps.length * s.length ≤ lim then some (.sh (.str (joinS s ps))) else none
  | _, _ => none
theorem lens_toS (ps : List (List Nat)) : ((ps.map toS).map (·.length)) = ps.map List.length := by
  rw [List.map_map]
  congr 1
theorem join_ok (hK : G.K = X.K) : MtN X G "str.join" joinD := by
  intro B F own σ H ρ v d vs ds rv Q R h hs e f
  have go : ∀ (s : List Nat) (ps : List (List Nat)) (p : Addr), v = .str (toS s) → (SqL X.K H p ((ps.map toS).map V.str) ∨ SqT X.K H p ((ps.map toS).map V.str)) → vs = [.ref p] → (ps.map List.length).sum + ps.length * s.length ≤ lim → rv = .sh (.str (joinS s ps)) → mtAny X "str.join" v vs H Q := fun s ps p ev hp ep hl er => by
    subst ev ep er
    refine ⟨_, mt_join, toS s, p, ps.map toS, rfl, rfl, hp, ?_, ?_⟩
    · rw [lens_toS, List.length_map]
      have : (toS s).length = s.length := by simp [toS, Str.length]
      rw [this]
      unfold lim at hl
      omega
    · have e1 : Txt.join (toS s) (ps.map toS) = toS (joinS s ps) := by
        rw [← joinS_ok]
        exact StrLaws.glued_eq_join _ _
      rw [e1]
      exact f.val R (rep_str.mpr rfl)
  unfold joinD at e
  split at e
  · rename_i s xs
    cases e1 : strsOf xs with
    | none => rw [e1] at e; cases e
    | some ps =>
      rw [e1] at e
      change (if (ps.map List.length).sum + ps.length * s.length ≤ lim then some (Rv.sh (.str (joinS s ps))) else none) = some rv at e
      split at e
      · rename_i hl
        injection e with e
        obtain ⟨w, rfl, a, ws, rfl, q, r⟩ := reds1 hs
        rw [strsOf_eq e1] at r
        exact go s ps a (red_str h) (.inl (SqL.of (by rw [← r.strs]; exact q))) rfl hl e.symm
      · cases e
  · rename_i s xs
    cases e1 : strsOf xs with
    | none => rw [e1] at e; cases e
    | some ps =>
      rw [e1] at e
      change (if (ps.map List.length).sum + ps.length * s.length ≤ lim then some (Rv.sh (.str (joinS s ps))) else none) = some rv at e
      split at e
      · rename_i hl
        injection e with e
        obtain ⟨w, rfl, r⟩ := reds1 hs
        obtain ⟨a, ws, rfl, q, r⟩ := red_tup r
        rw [strsOf_eq e1] at r
        exact go s ps a (red_str h) (.inr (by rw [← r.strs]; exact hK ▸ R.fsub.sqT q)) rfl hl e.symm
      · cases e
  · cases e
def sindexD : D → List D → Option Rv
  | .str s, [.str t] => (match Builtin.Str.occurrences (toS s) (toS t) 0 s.length 1 with
    | i :: _ => some (.sh (.int (i : Nat)))
    | [] => none)
  | _, _ => none
theorem toS_length (s : List Nat) : (toS s).length = s.length := by simp [toS, Str.length]
theorem sindex_ok : MtN X G "str.index" sindexD := by
  intro B F own σ H ρ v d vs ds rv Q R h hs e f
  unfold sindexD at e
  split at e
  · rename_i s t
    split at e
    · rename_i i rest e1
      injection e with e
      subst e
      obtain ⟨w, rfl, r⟩ := reds1 hs
      rw [red_str h, red_str r]
      exact ⟨_, mt_sindex, toS s, toS t, i, rest, rfl, rfl, by rw [toS_length]; exact e1, f.val R (rep_int.mpr rfl)⟩
    · cases e
  · cases e
end
end VL

set_option maxHeartbeats 200000
/-! The value layer: what a def promises, calls. -/
namespace VL
open PySem PySem.Spec L2
open PyProof.Rows (envOfC)

/-- how a def ends: its result, the object that it changes; an exception -/
inductive DR where
  | ok (r : Rv) (me : Option D) | exc (x : Xd) | bad
/-- the heap without the object that is changed -/
def les (H : Hp) (me : Option Addr) : Hp := fun b => if me = some b then none else H b
theorem les_none {H : Hp} : les H none = H := by
  funext b
  exact if_neg (fun h => by cases h)
theorem les_ne {H : Hp} {a b : Addr} (h : b ≠ a) : les H (some a) b = H b := if_neg fun z => h (Option.some.inj z).symm
theorem les_same {H : Hp} {a : Addr} : les H (some a) a = none := if_pos rfl
theorem les_some {H : Hp} {me : Option Addr} {b : Addr} {o : HO} (h : les H me b = some o) : H b = some o ∧ me ≠ some b := by
  unfold les at h
  split at h
  · cases h
  · exact ⟨h, by assumption⟩
abbrev Arg := Md × D
def ArgOk (G : Gx) (F H : Hp) (me : Option Addr) (i : Nat) (v : V) : Arg → Prop
  | (.sh, d) => Rep G F d v
  | (.ro, d) => Red G F (les H me) d v
  | (.me, d) => i = 0 ∧ ∃ a o, v = .ref a ∧ me = some a ∧ H a = some o ∧ Own G F o d
  | (.ow, _) => False
structure ArgsOk (G : Gx) (F H : Hp) (me : Option Addr) (as : List Arg) (vs : List V) : Prop where
  len : as.length = vs.length
  at_ : ∀ i p, as[i]? = some p → ∃ v, vs[i]? = some v ∧ ArgOk G F H me i v p
  one : ∀ a, me = some a → ∃ d, as[0]? = some (.me, d)
/-- what a result is behind a call that began at H -/
def DrOk (G : Gx) (H F' H' : Hp) (me : Option Addr) : Rv → V → Prop
  | .sh d, v => Rep G F' d v
  | .tm d, v => ∃ a o, v = .ref a ∧ H' a = some o ∧ F' a = none ∧ H a = none ∧ me ≠ some a ∧ Own G F' o d
  | .pk _, _ => False
/-- how the heaps stand behind a call -/
structure Aft (F H F' H' : Hp) (me : Option Addr) : Prop where
  f : Sub F F'
  fh : Sub F' (les H' me)
  h : Sub (les H me) H'
  new : ∀ b u, F' b = some u → F b = some u ∨ H b = none
structure AftX (F H F' H' : Hp) (me : Option Addr) : Prop where
  f : Sub F F'
  fh : Sub F' H'
  h : Sub (les H me) H'
  new : ∀ b u, F' b = some u → F b = some u ∨ les H me b = none
def PostD (G : Gx) (F H : Hp) (me : Option Addr) (Q : VK) (E : XK) : DR → Prop
  | .ok r m => ∀ v F' H', Aft F H F' H' me → DrOk G H F' H' me r v → (∀ a, me = some a → ∃ d o, m = some d ∧ H' a = some o ∧ Own G F' o d) → Q v H'
  | .exc x => ∀ cls d F' H', AftX F H F' H' me → ExcOk G F' cls d x → E cls d H'
  | .bad => False
/-- a def's promise -/
def spG (G : Gx) (n : Nat) (run : List Arg → DR) : Sp := fun vs H Q E => vs.length = n ∧ ∃ F me as, Sub F (les H me) ∧ ArgsOk G F H me as vs ∧ PostD G F H me Q E (run as)
/-- the slots at the entry -/
def slots (n : Nat) (as : List Arg) : VEnv := as.map some ++ List.replicate (n - as.length) none
def endR (as : List Arg) (r : Rv) (ρ : VEnv) : DR := match r with
  | .pk _ => .bad
  | r => (match as[0]? with
    | some (Md.me, _) => (match ρ[0]? with
      | some (some (Md.me, d)) => .ok r (some d)
      | _ => .bad)
    | _ => .ok r none)
def runB (n : Nat) (body : SM) (as : List Arg) : DR := match body (slots n as) with
  | .rt r ρ => endR as r ρ
  | .nx ρ => endR as (.sh .non) ρ
  | .exc x _ => .exc x
  | _ => .bad
theorem slots_some {n i : Nat} {as : List Arg} {p : Arg} (h : (slots n as)[i]? = some (some p)) : as[i]? = some p := by
  unfold slots at h
  by_cases hi : i < as.length
  · rw [List.getElem?_append_left (by simpa using hi), List.getElem?_map] at h
    cases e : as[i]? with
    | none => rw [e] at h; cases h
    | some q =>
      rw [e] at h
      injection h with h
  · rw [List.getElem?_append_right (by simpa using hi), List.getElem?_replicate] at h
    split at h
    · injection h with h
      cases h
    · cases h
theorem start_get {N : List Str} {vs : List V} {i : Nat} {v : V} (h : vs[i]? = some v) : (L2.start N vs)[i]? = some (some v) := by
  obtain ⟨hi, _⟩ := List.getElem?_eq_some_iff.mp h
  unfold L2.start
  rw [List.getElem?_append_left (by simpa using hi), List.getElem?_map, h]
  rfl
section
variable {G : Gx} {F H : Hp} {me : Option Addr} {as : List Arg} {vs : List V} {N : List Str}
def own0 (me : Option Addr) : OwnM := fun i => if i = 0 then me else none
theorem own0_some {i : Nat} {a : Addr} (h : own0 me i = some a) : i = 0 ∧ me = some a := by
  unfold own0 at h
  split at h
  · exact ⟨by assumption, h⟩
  · cases h
theorem sub_les : Sub (les H me) H := fun b o h => (les_some h).1
theorem start_rl (s : Sub F (les H me)) (k : ArgsOk G F H me as vs) : Rl G ⟨les H me, F, me⟩ F (own0 me) (L2.start N vs) H (slots N.length as) := by
  have hF : ∀ a, me = some a → F a = none := fun a e => by
    cases q : F a with
    | none => rfl
    | some u => exact absurd e (les_some (s a u q)).2
  refine ⟨?_, fun i p e => ?_, sub_les, s.tr sub_les, Sub.rfl', fun a o h => .inl h, fun i a h => hF a (own0_some h).2, fun i a h => ?_, fun i a h => ?_, fun i j a h h' => (own0_some h).1.trans (own0_some h').1.symm⟩
  · unfold slots L2.start
    rw [List.length_append, List.length_append, List.length_map, List.length_map, List.length_replicate, List.length_replicate, k.len]
  · obtain ⟨v, hv, q⟩ := k.at_ i p (slots_some e)
    refine ⟨v, start_get hv, ?_⟩
    obtain ⟨m, d⟩ := p
    cases m with
    | sh => exact q
    | ro => exact q
    | ow => exact q.elim
    | me =>
      obtain ⟨hi, a, o, e1, e2, e3, q⟩ := q
      exact ⟨a, o, e1, by unfold own0; rw [if_pos hi]; exact e2, e2, e3, q⟩
  · obtain ⟨_, e⟩ := own0_some h
    show les H me a = none
    rw [e]
    exact les_same
  · obtain ⟨_, e⟩ := own0_some h
    obtain ⟨d, ed⟩ := k.one a e
    obtain ⟨v, hv, _, b, o, _, e2, e3, _⟩ := k.at_ 0 _ ed
    rw [e] at e2
    injection e2 with e2
    subst e2
    exact ⟨o, e3⟩
/-- a body's end, told to the caller -/
theorem end_ok {Q : VK} {E : XK} {r : Rv} {ρ : VEnv} {F' H' : Hp} {own : OwnM} {σ : St} {v : V} (s : Sub F (les H me)) (k : ArgsOk G F H me as vs) (P : PostD G F H me Q E (endR as r ρ)) (f : Sub F F') (R : Rl G ⟨les H me, F, me⟩ F' own σ H' ρ) (q : RvOk G ⟨les H me, F, me⟩ σ (les H me) F' own H' r v) : Q v H' := by
  have hr : ∀ j, r ≠ .pk j := fun j e => by rw [e] at P; exact P
  have key : ∀ m, PostD G F H me Q E (.ok r m) → (∀ a, me = some a → ∃ d o, m = some d ∧ H' a = some o ∧ Own G F' o d ∧ own 0 = some a) → Q v H' := fun m P hm => by
    have hF' : ∀ a, me = some a → F' a = none := fun a e => by
      obtain ⟨d, o, _, _, _, h0⟩ := hm a e
      exact R.ownF 0 a h0
    refine P v F' H' ⟨f, fun b u e => ?_, R.same, fun b u e => ?_⟩ ?_ fun a e => ?_
    · unfold les
      split
      · rename_i hb
        rw [hF' b hb] at e
        cases e
      · exact R.fsub b u e
    · rcases R.fnew b u e with z | z
      · exact .inl z
      · refine .inr ?_
        have z : les H me b = none := z
        unfold les at z
        split at z
        · rename_i hb
          rw [hF' b hb] at e
          cases e
        · exact z
    · cases r with
      | sh d => exact q
      | tm d =>
        obtain ⟨a, o, e1, e2, e3, e4, e5, q⟩ := q
        have e6 : les H me a = none := e4.1
        unfold les at e6
        split at e6
        · rename_i hb
          obtain ⟨_, _, _, _, _, h0⟩ := hm a hb
          exact absurd h0 (e5 0)
        · exact ⟨a, o, e1, e2, e3, e6, by assumption, q⟩
      | pk j => exact absurd rfl (hr j)
    · obtain ⟨d, o, h1, h2, h3, _⟩ := hm a e
      exact ⟨d, o, h1, h2, h3⟩
  have P2 : PostD G F H me Q E (match as[0]? with
    | some (Md.me, _) => (match ρ[0]? with
      | some (some (Md.me, d)) => .ok r (some d)
      | _ => .bad)
    | _ => .ok r none) := by
    cases r with
    | sh d => exact P
    | tm d => exact P
    | pk j => exact P.elim
  split at P2
  · rename_i d0 e0
    split at P2
    · rename_i d e1
      refine key _ P2 fun a e => ?_
      obtain ⟨w, hw, b, o, e2, e3, e4, e5, q5⟩ := R.slot 0 _ e1
      have e4 : me = some b := e4
      rw [e] at e4
      injection e4 with e4
      subst e4
      exact ⟨d, o, rfl, e5, q5, e3⟩
    · exact P2.elim
  · rename_i hne
    refine key _ P2 fun a e => ?_
    obtain ⟨d, ed⟩ := k.one a e
    exact (hne d ed).elim
/-- THE RULE: a def by its body -/
theorem fn_vl {P : Program} {w : World} {K : PySem.W.Frag} {mg : Str → Option Value} {base : Heap} {x qual : Str} {params : Arguments} {body : List Stmt} {scope : Scope} {dvs : List V} {kws : List (Str × V)} {f : Addr} {fd : FuncData} {ps : List Str} {k : Nat} {m : SM}
    (Fd : FunD K x qual params body scope dvs kws f fd) (S : FnScope N ps scope)
    (hb : ∀ (cdv : Value) (A : Around) (outer : List Env) (s : Shared) (H : Hp) (E : XK), Room k (A.deeper (envOfC qual scope s.heap.objs.size f cdv)) → L2N.Takes (cxOf (L2N.CX P w) P w K mg base N qual scope f cdv A outer s H E) (fun cls d _ H => E cls d H) →
      PassesOwn (model P w) (A.deeper (envOfC qual scope s.heap.objs.size f cdv)) (envOfC qual scope s.heap.objs.size f cdv) (cxOf (L2N.CX P w) P w K mg base N qual scope f cdv A outer s H E).xe →
      VSs (cxOf (L2N.CX P w) P w K mg base N qual scope f cdv A outer s H E) G (fun cls d _ H => E cls d H) body m) :
    FnOk P w K mg base (L2N.CX P w) (k + 1) f fd ps (spG G ps.length (runB N.length m)) := by
  refine Fd.ok S (fun vs H Q E h => h.1) fun cdv A outer s H vs Q E hr h => ?_
  obtain ⟨hl, F, me, as, sF, ka, PD⟩ := h
  refine ⟨tS G ⟨les H me, F, me⟩ (fun cls d _ H => E cls d H) m, (hb cdv A outer s H E hr (L2N.takes_of (E₁ := fun e' s'' => L2N.CX P w outer H s E e' s'') rfl rfl rfl rfl) (PassesOwn.leaving)).run _, F, own0 me, slots N.length as, start_rl sF ka, ?_⟩
  unfold runB at PD
  cases e : m (slots N.length as) with
  | nx ρ =>
    rw [e] at PD
    exact fun σ' H' F' own' s' R => end_ok (r := .sh .non) sF ka PD s' R (show Rep G F' .non .non from rep_non.mpr rfl)
  | rt r ρ =>
    rw [e] at PD
    exact fun v σ' H' F' own' s' R q => end_ok sF ka PD s' R q
  | exc x ρ =>
    rw [e] at PD
    intro cls d σ' H' F' own' _ R q
    exact PD cls d F' H' ⟨R.f0, R.fsub, R.same, R.fnew⟩ q
  | bk ρ => rw [e] at PD; exact PD.elim
  | ct ρ => rw [e] at PD; exact PD.elim
  | bad => rw [e] at PD; exact PD.elim
end
end VL

set_option maxHeartbeats 200000
/-! The value layer: calls of the program's own defs, classes, methods. -/
namespace VL
open PySem PySem.Spec L2
open PyProof.Rows (envOfC)

/-! ### arguments -/
def argD (x : Option Nat) (r : Rv) (ρ : VEnv) : Option Arg := match r with
  | .sh d => some (.sh, d)
  | .tm d => some (.sh, d)
  | .pk i => if x = some i then none else match ρ[i]? with
    | some (some (m, d)) => some (if m = .sh then .sh else .ro, d)
    | _ => none
def argsD (x : Option Nat) : List Rv → VEnv → Option (List Arg)
  | [], _ => some []
  | r :: rs, ρ => match argD x r ρ, argsD x rs ρ with
    | some a, some as => some (a :: as)
    | _, _ => none
section
variable {X : Cx} {G : Gx} {B : Bx} {W : WX} {F H Hs : Hp} {own : OwnM} {σ : St} {ρ : VEnv}
/-- a result that may be frozen by now -/
def RvW (G : Gx) (B : Bx) (σ : St) (H0 F : Hp) (own : OwnM) (H : Hp) : Rv → V → Prop
  | .sh d, v => Rep G F d v
  | .tm d, v => ∃ a o, v = .ref a ∧ H a = some o ∧ (H0 a = none ∧ B.H0 a = none) ∧ (∀ j, own j ≠ some a) ∧ Own G F o d
  | .pk i, v => σ[i]? = some (some v)
theorem RvOk.w {r : Rv} {v : V} (h : RvOk G B σ Hs F own H r v) : RvW G B σ Hs F own H r v := by
  cases r with
  | sh d => exact h
  | tm d =>
    obtain ⟨a, o, e, h1, h2, h3, h4, h5⟩ := h
    exact ⟨a, o, e, h1, h3, h4, h5⟩
  | pk i => exact h
theorem RvW.mono {F' : Hp} {r : Rv} {v : V} (h : RvW G B σ Hs F own H r v) (f : Sub F F') : RvW G B σ Hs F' own H r v := by
  cases r with
  | sh d => exact Rep.mono f h
  | tm d =>
    obtain ⟨a, o, e, h1, h3, h4, h5⟩ := h
    exact ⟨a, o, e, h1, h3, h4, h5.mono f⟩
  | pk i => exact h
def RvsW (G : Gx) (B : Bx) (σ : St) (H0 F : Hp) (own : OwnM) (H : Hp) : List Rv → List V → Prop
  | [], vs => vs = []
  | r :: rs, vs => ∃ v ws, vs = v :: ws ∧ RvW G B σ H0 F own H r v ∧ RvsW G B σ H0 F own H rs ws
theorem RvsOk.w : ∀ {rs : List Rv} {vs : List V}, RvsOk G B σ Hs F own H rs vs → RvsW G B σ Hs F own H rs vs
  | [], _, h => h
  | r :: rs, _, h => by
    obtain ⟨v, ws, e, h1, h2⟩ := h
    exact ⟨v, ws, e, h1.w, RvsOk.w h2⟩
theorem RvsW.mono {F' : Hp} (f : Sub F F') : ∀ {rs : List Rv} {vs : List V}, RvsW G B σ Hs F own H rs vs → RvsW G B σ Hs F' own H rs vs
  | [], _, h => h
  | r :: rs, _, h => by
    obtain ⟨v, ws, e, h1, h2⟩ := h
    exact ⟨v, ws, e, h1.mono f, RvsW.mono f h2⟩
/-- what is frozen for the arguments -/
structure Frz (G : Gx) (B : Bx) (F F' : Hp) (own : OwnM) (σ : St) (H Hs : Hp) (ρ : VEnv) : Prop where
  rl : Rl G B F' own σ H ρ
  f : Sub F F'
  new : ∀ b u, F' b = some u → F b = some u ∨ Hs b = none
theorem Frz.tr {F1 F2 : Hp} (a : Frz G B F F1 own σ H Hs ρ) (b : Frz G B F1 F2 own σ H Hs ρ) : Frz G B F F2 own σ H Hs ρ :=
  ⟨b.rl, a.f.tr b.f, fun x u h => by
    rcases b.new x u h with z | z
    · exact a.new x u z
    · exact .inr z⟩
/-- an argument as the callee sees it; x, me: the slot and the object that are left out -/
def ArgV (G : Gx) (F H : Hp) (me : Option Addr) (v : V) : Arg → Prop
  | (.sh, d) => Rep G F d v
  | (.ro, d) => Red G F (les H me) d v
  | _ => False
theorem ArgV.mono {F' : Hp} {me : Option Addr} {v : V} {p : Arg} (h : ArgV G F H me v p) (f : Sub F F') : ArgV G F' H me v p := by
  obtain ⟨m, d⟩ := p
  cases m with
  | sh => exact Rep.mono f h
  | ro => exact Red.mono h Sub.rfl' f
  | ow => exact h
  | me => exact h
theorem red_les {me : Addr} {d : D} {v : V} (h : Red G F H d v) (n : v ≠ .ref me) : Red G F (les H (some me)) d v := by
  have go : ∀ {a : Addr}, v = .ref a → a ≠ me := fun e z => n (by rw [e, z])
  cases d with
  | lst xs =>
    obtain ⟨a, vs, e, q, r⟩ := h
    exact ⟨a, vs, e, by rw [les_ne (go e)]; exact q, r⟩
  | dic ks ws =>
    obtain ⟨a, vs, e, q, r⟩ := h
    refine ⟨a, vs, e, ?_, r⟩
    unfold DicAt
    rw [les_ne (go e)]
    exact q
  | ins c ns ws =>
    obtain ⟨a, dx, vs, e, q, r⟩ := h
    exact ⟨a, dx, vs, e, by rw [les_ne (go e)]; exact q, r⟩
  | _ => exact h
theorem arg_ok {x : Option Nat} {me : Option Addr} {r : Rv} {v : V} {p : Arg} (hx : (x = none ∧ me = none) ∨ ∃ i a, x = some i ∧ me = some a ∧ own i = some a) (R : Rl G B F own σ H ρ) (k : RvW G B σ Hs F own H r v) (e : argD x r ρ = some p) :
    ∃ F', Frz G B F F' own σ H Hs ρ ∧ ArgV G F' H me v p := by
  cases r with
  | sh d =>
    injection e with e
    subst e
    exact ⟨F, ⟨R, Sub.rfl', fun _ _ h => .inl h⟩, k⟩
  | tm d =>
    injection e with e
    subst e
    obtain ⟨a, o, ev, h1, h3, h4, h5⟩ := k
    subst ev
    cases q : F a with
    | some u =>
      have hu := R.fsub a u q
      rw [h1] at hu
      injection hu with hu
      subst hu
      exact ⟨F, ⟨R, Sub.rfl', fun _ _ h => .inl h⟩, h5.rep Sub.rfl' q⟩
    | none =>
      refine ⟨upd F a o, ⟨R.freeze h1 q h3.2 h4, sub_upd q, fun b u z => ?_⟩, h5.rep (sub_upd q) upd_same⟩
      by_cases hb : b = a
      · exact .inr (by rw [hb]; exact h3.1)
      · rw [upd_ne hb] at z
        exact .inl z
  | pk i =>
    have hv : σ[i]? = some (some v) := k
    change (if x = some i then none else match ρ[i]? with
      | some (some (m, d)) => some (if m = .sh then .sh else .ro, d)
      | _ => none) = some p at e
    split at e
    · cases e
    · rename_i hxi
      split at e
      · rename_i m d e0
        injection e with e
        subst e
        refine ⟨F, ⟨R, Sub.rfl', fun _ _ h => .inl h⟩, ?_⟩
        by_cases hm : m = .sh
        · subst hm
          rw [if_pos rfl]
          obtain ⟨w, hw, q⟩ := R.slot i _ e0
          rw [hv] at hw
          injection hw with hw
          injection hw with hw
          subst hw
          exact q
        · rw [if_neg hm]
          rcases hx with ⟨_, rfl⟩ | ⟨j, a, rfl, rfl, ho⟩
          · show Red G F (les H none) d v
            rw [les_none]
            exact R.red e0 hv
          · show Red G F (les H (some a)) d v
            obtain ⟨w, hw, q⟩ := R.slot i _ e0
            rw [hv] at hw
            injection hw with hw
            injection hw with hw
            subst hw
            have hne : i ≠ j := fun z => hxi (by rw [z])
            cases m with
            | sh => exact absurd rfl hm
            | ro => exact Red.mono q (fun b u hb => by rw [les_ne (fun z => by rw [z, R.own0 j a ho] at hb; cases hb)]; exact R.same b u hb) Sub.rfl'
            | ow =>
              obtain ⟨b, o, e1, e2, e3, q⟩ := q
              rw [e1]
              exact red_les (q.red e3) (fun z => by injection z with z; subst z; exact hne (R.inj i j b e2 ho))
            | me =>
              obtain ⟨b, o, e1, e2, _, e3, q⟩ := q
              rw [e1]
              exact red_les (q.red e3) (fun z => by injection z with z; subst z; exact hne (R.inj i j b e2 ho))
      · cases e
theorem args_ok {x : Option Nat} {me : Option Addr} (hx : (x = none ∧ me = none) ∨ ∃ i a, x = some i ∧ me = some a ∧ own i = some a) : ∀ {rs : List Rv} {vs : List V} {F : Hp} {as : List Arg}, Rl G B F own σ H ρ → RvsW G B σ Hs F own H rs vs → argsD x rs ρ = some as →
    ∃ F', Frz G B F F' own σ H Hs ρ ∧ as.length = vs.length ∧ ∀ (i : Nat) (p : Arg), as[i]? = some p → ∃ v, vs[i]? = some v ∧ ArgV G F' H me v p
  | [], vs, F, as, R, k, e => by
    injection e with e
    subst e
    have k : vs = [] := k
    subst k
    exact ⟨F, ⟨R, Sub.rfl', fun _ _ h => .inl h⟩, rfl, fun i p h => by simp at h⟩
  | r :: rs, vs, F, as, R, k, e => by
    obtain ⟨v, ws, rfl, k1, k2⟩ := k
    change (match argD x r ρ, argsD x rs ρ with
      | some a, some as => some (a :: as)
      | _, _ => none) = some as at e
    split at e
    · rename_i a as' e1 e2
      injection e with e
      subst e
      obtain ⟨F1, z1, q1⟩ := arg_ok hx R k1 e1
      obtain ⟨F2, z2, l2, q2⟩ := args_ok hx z1.rl (k2.mono z1.f) e2
      refine ⟨F2, z1.tr z2, by rw [List.length_cons, List.length_cons, l2], fun i p h => ?_⟩
      cases i with
      | zero =>
        simp at h
        subst h
        exact ⟨v, rfl, q1.mono z2.f⟩
      | succ i =>
        obtain ⟨u, hu, qu⟩ := q2 i p (by simpa using h)
        exact ⟨u, by simpa using hu, qu⟩
    · cases e
theorem ArgV.ok {me : Option Addr} {i : Nat} {v : V} {p : Arg} (h : ArgV G F H me v p) : ArgOk G F H me i v p := by
  obtain ⟨m, d⟩ := p
  cases m with
  | sh => exact h
  | ro => exact h
  | ow => exact h.elim
  | me => exact h.elim
/-- defaults behind the arguments -/
def dArgs (dd : List D) : List Arg := dd.map fun d => (.sh, d)
theorem dflts_ok {me : Option Addr} {as : List Arg} {vs dvs : List V} {dd : List D} (hl : as.length = vs.length) (h : ∀ (i : Nat) (p : Arg), as[i]? = some p → ∃ v, vs[i]? = some v ∧ ArgV G F H me v p) (hd : Reps G F dd dvs) :
    (as ++ dArgs dd).length = (vs ++ dvs).length ∧ ∀ (i : Nat) (p : Arg), (as ++ dArgs dd)[i]? = some p → ∃ v, (vs ++ dvs)[i]? = some v ∧ ArgV G F H me v p := by
  refine ⟨by rw [List.length_append, List.length_append, hl]; unfold dArgs; rw [List.length_map, hd.len], fun i p e => ?_⟩
  by_cases hi : i < as.length
  · rw [List.getElem?_append_left hi] at e
    obtain ⟨v, hv, q⟩ := h i p e
    exact ⟨v, by rw [List.getElem?_append_left (by omega)]; exact hv, q⟩
  · rw [List.getElem?_append_right (by omega)] at e
    unfold dArgs at e
    rw [List.getElem?_map] at e
    cases q : dd[i - as.length]? with
    | none => rw [q] at e; cases e
    | some d =>
      rw [q] at e
      injection e with e
      subst e
      obtain ⟨v, hv, r⟩ := hd.get' q
      exact ⟨v, by rw [List.getElem?_append_right (by omega), ← hl]; exact hv, r⟩
/-! ### what is called -/
/-- the def that the module's name x stands for -/
structure UF (P : Program) (w : World) (K : PySem.W.Frag) (mg : Str → Option Value) (base : Heap) (G : Gx) (k : Nat) (x : Str) (n : Nat) (dd : List D) (run : List Arg → DR) : Prop where
  ex : ∃ f fd ps dvs ds, FnOk P w K mg base (L2N.CX P w) k f fd ps (spG G n run) ∧ mg x = some (.ref f) ∧ PySem.W.keepIn K (.ref f) = true ∧ Binds K fd ps ds ∧ Vals dvs ds ∧ ∀ F, Reps G F dd dvs
/-- the method m of the class c -/
structure UM (P : Program) (w : World) (K : PySem.W.Frag) (mg : Str → Option Value) (base : Heap) (G : Gx) (k : Nat) (c : Nat) (m : Str) (n : Nat) (dd : List D) (run : List Arg → DR) : Prop where
  ex : ∃ f fd ps dvs ds, FnOk P w K mg base (L2N.CX P w) k f fd ps (spG G n run) ∧ Cls K (G.cls c) ∧ Meth K (G.cls c) m f ∧ Binds K fd ps ds ∧ Vals dvs ds ∧ ∀ F, Reps G F dd dvs
/-- the class c, made by its name x -/
structure UK (P : Program) (w : World) (K : PySem.W.Frag) (mg : Str → Option Value) (base : Heap) (G : Gx) (k : Nat) (c : Nat) (x : Str) (n : Nat) (dd : List D) (run : List Arg → DR) : Prop where
  ex : ∃ f fd ps dvs ds, FnOk P w K mg base (L2N.CX P w) k f fd ps (spG G n run) ∧ Mk K (G.cls c) f ∧ mg x = some (.ref (G.cls c)) ∧ Binds K fd ps ds ∧ Vals dvs ds ∧ ∀ F, Reps G F dd dvs
/-- the callee is run; what it lets out is taken at these slots -/
theorem run_V {CX : CXT} {k : Nat} {f : Addr} {fd : FuncData} {ps : List Str} {sp : Sp} {dvs : List V} {ds : List Value} {E : XK} {pins : List (Addr × Obj)} {s : Shared} {Q : VK} {us : List Value} {vs : List V} (Fn : FnOk X.prog X.w X.K X.mg X.base CX k f fd ps sp) (hr : Room k X.A) (hb : Binds X.K fd ps ds)
    (hd : Vals dvs ds) (hx : ∀ (e : Value) (s' : Shared), CX X.stack H s E e s' → X.xe e s') (I : Inv X pins σ H s) (r : Vals vs us) (h : sp (vs ++ dvs) H Q E) : wpAny (model X.prog X.w) X.A (call (.ref f) us) (EP X pins σ Q) X.xe s := by
  have rall := r.append hd
  have hn := Fn.len _ _ _ _ h
  have hlen : (us ++ ds).length = ps.length := rall.length.symm.trans hn
  have run := Fn.run X.A X.stack s H ⟨us, []⟩ (us ++ ds) (vs ++ dvs) Q E hr I.env0 (hb s us I.kIn hlen) rall h
  refine wpAny_call (codeAny_mono run fun res s' hres => ?_)
  rcases res with err | fl
  case error => exact hx err s' hres
  case ok =>
    cases fl <;> first
      | exact I.after hres
      | exact hres.elim
theorem takes_no (X : Cx) : L2N.Takes X noW := fun u s' ⟨_, _, _, _, _, _, _, _, _, _, _, _, _, _, _, _, z⟩ => z.elim
theorem tk_at (tk : L2N.Takes X W) {pins : List (Addr × Obj)} {s : Shared} (I : Inv X pins σ H s) : ∀ (e : Value) (s' : Shared), L2N.CX X.prog X.w X.stack H s (fun cls d H' => W cls d σ H') e s' → X.xe e s' := fun e s' c => tk e s' (L2N.XE.of_call I (fun _ _ _ h => h) c)
def callE (x : Option Nat) (run : List Arg → DR) (n : Nat) (dd : List D) (rs : List Rv) : M Rv := fun ρ => match argsD x rs ρ with
  | some as => if (as ++ dArgs dd).length = n then (match run (as ++ dArgs dd) with
      | .ok r _ => .ok r ρ
      | .exc x => .exc x ρ
      | .bad => .bad)
    else .bad
  | none => .bad
def mUser (run : List Arg → DR) (n : Nat) (dd : List D) (ms : M (List Rv)) : M Rv := ms.bind (callE none run n dd)
/-- the call, from what the arguments are -/
theorem user_go {run : List Arg → DR} {n : Nat} {dd : List D} {rs : List Rv} {vs dvs : List V} {Fs Hb : Hp} {owns : OwnM} {Q : VK} (R : Rl G B F own σ H ρ) (k : RvsOk G B σ Hb F own H rs vs) (hb0 : ∀ x, H x = none → Hb x = none) (g : Grow owns own Hs H Fs F) (hbs : ∀ x, Hb x = none → Hs x = none) (hd : ∀ F, Reps G F dd dvs)
    (P : Post G B W σ (okRv G B σ) owns Fs Hs (callE none run n dd rs ρ) Q) : spG G n run (vs ++ dvs) H Q (fun cls d H' => W cls d σ H') := by
  unfold callE at P
  split at P
  · rename_i as ea
    split at P
    · rename_i hn
      obtain ⟨F1, z, l1, q1⟩ := args_ok (Hs := Hb) (me := none) (.inl ⟨rfl, rfl⟩) R k.w ea
      obtain ⟨l2, q2⟩ := dflts_ok l1 q1 (hd F1)
      refine ⟨by rw [← l2]; exact hn, F1, none, as ++ dArgs dd, by rw [les_none]; exact z.rl.fsub, ⟨l2, fun i p e => ?_, fun a e => by cases e⟩, ?_⟩
      · obtain ⟨v, hv, q⟩ := q2 i p e
        exact ⟨v, hv, q.ok⟩
      · have g1 : Grow owns own Hs H Fs F1 := ⟨g.keep, g.dom, g.frz.tr z.f, fun b u e => by
          rcases z.new b u e with y | y
          · exact g.new b u y
          · exact .inr (.inl (hbs b y)), g.own⟩
        cases er : run (as ++ dArgs dd) with
        | bad => rw [er] at P; exact P
        | ok r m =>
          rw [er] at P
          intro v F' H' aft hr _
          have hsub : Sub H H' := by
            have := aft.h
            rw [les_none] at this
            exact this
          have hfh : Sub F' H' := aft.fh.tr sub_les
          obtain ⟨R2, g2⟩ := z.rl.alloc hsub aft.f hfh aft.new
          refine P v H' F' own (g1.tr g2) R2 ?_
          cases r with
          | sh d => exact hr
          | tm d =>
            obtain ⟨a, o, e1, e2, e3, e4, _, e5⟩ := hr
            exact ⟨a, o, e1, e2, e3, ⟨g.back a e4, R.free0 e4⟩, R.freeO e4, e5⟩
          | pk j => exact hr.elim
        | exc x =>
          rw [er] at P
          intro cls d F' H' aft hx
          have hsub : Sub H H' := by
            have := aft.h
            rw [les_none] at this
            exact this
          obtain ⟨R2, g2⟩ := z.rl.alloc hsub aft.f aft.fh fun b u e => by
            have := aft.new b u e
            rw [les_none] at this
            exact this
          exact P cls d H' F' own (g.frz.tr (z.f.tr aft.f)) R2 hx
    · exact P.elim
  · exact P.elim
variable {k : Nat} {x m : Str} {n c : Nat} {dd : List D} {run : List Arg → DR} {p pos apos : Pos} {e o : Expr} {es : List Expr} {ma : M Rv} {ms : M (List Rv)}
/-- f(e, ..) -/
theorem ve_call (U : UF X.prog X.w X.K X.mg X.base G k x n dd run) (hr : Room k X.A) (tk : L2N.Takes X W) (hg : Gl X x) (ha : VA X G W (e :: es) ms) (hdb : (x == ("__debug__" : Str)) = false) (he : starEach (e :: es) X.env = (false, eval e X.env) :: starEach es X.env) (hpl : (backTo pos (starEach es X.env)).any (·.1) = false) :
    VE X G W (.Call (.Name x p) (e :: es) [] pos) (mUser run n dd ms) := by
  obtain ⟨f, fd, ps, dvs, ds, Fn, gm, kp, hb, hd, hD⟩ := U.ex
  refine ⟨fun B => ⟨fun pins s σ H Q I ⟨F, own, ρ, R, P⟩ => ?_⟩⟩
  refine wpAny_Call_Name_kw (ld_glob I hg gm ?_ hdb)
  have hA := (ha.run B).run pos pins s σ H _ I (step (k := callE none run n dd) Grow.rfl' R P fun rs ρ1 vs H1 F1 own1 _ g1 _ R1 k1 P1 => user_go R1 k1 g1.back g1 (fun _ h => h) hD P1)
  exact PySem.W.callWith_K (h₀ := X.base) I.ok.mod.kin kp (thn hA fun us s1 ⟨vs, H1, I1, r, q⟩ => ⟨I1.kIn, run_V Fn hr hb hd (tk_at tk I1) I1 r q⟩) he hpl
/-- f() -/
theorem ve_call0 (U : UF X.prog X.w X.K X.mg X.base G k x n dd run) (hr : Room k X.A) (tk : L2N.Takes X W) (hg : Gl X x) (hdb : (x == ("__debug__" : Str)) = false) : VE X G W (.Call (.Name x p) [] [] pos) (mUser run n dd (M.pure [])) := by
  obtain ⟨f, fd, ps, dvs, ds, Fn, gm, kp, hb, hd, hD⟩ := U.ex
  refine ⟨fun B => ⟨fun pins s σ H Q I ⟨F, own, ρ, R, P⟩ => ?_⟩⟩
  refine wpAny_Call_Name_kw (ld_glob I hg gm ?_ hdb)
  exact PySem.W.callWith_K0 I.kIn kp (run_V (us := []) (vs := []) Fn hr hb hd (tk_at tk I) I .nil (user_go R (show RvsOk G B σ H F own H [] [] from rfl) (fun _ h => h) Grow.rfl' (fun _ h => h) hD P))
end
end VL

set_option maxHeartbeats 200000
/-! The value layer: methods, new instances, attributes. -/
namespace VL
open PySem PySem.Spec L2
open PyProof.Rows (envOfC)
section
variable {X : Cx} {G : Gx} {B : Bx} {W : WX} {F H Hs : Hp} {own : OwnM} {σ : St} {ρ : VEnv}
variable {k : Nat} {x m f : Str} {n c i : Nat} {dd : List D} {run : List Arg → DR} {p pos apos : Pos} {e o : Expr} {es : List Expr} {ma : M Rv} {ms : M (List Rv)}
theorem lookup_zip_none {α : Type} {m : Str} : ∀ {ns : List Str} {vs : List α}, m ∉ ns → (ns.zip vs).lookup m = none
  | [], _, _ => rfl
  | n :: ns, [], _ => rfl
  | n :: ns, v :: vs, h => by
    rw [List.zip_cons_cons, List.lookup_cons]
    have h1 : (m == n) = false := beq_eq_false_iff_ne.mpr fun z => h (by rw [z]; simp)
    rw [h1]
    exact lookup_zip_none fun z => h (List.mem_cons_of_mem _ z)
/-- the receiver is an instance of the class c, and has no attribute m of its own -/
def clsM {α : Type} (c : Nat) (m : Str) (r : Rv) (k : M α) : M α := fun ρ => match rdR r ρ with
  | some (.ins c' ns _) => if c' = c ∧ m ∉ ns then k ρ else .bad
  | _ => .bad
theorem clsM_go {α β : Type} {ok : OkK α β} {r : Rv} {k : M α} {Q : β → Hp → Prop} (P : Post G B W σ ok own F H (clsM c m r k ρ) Q) : ∃ ns vs, rdR r ρ = some (.ins c ns vs) ∧ m ∉ ns ∧ Post G B W σ ok own F H (k ρ) Q := by
  unfold clsM at P
  split at P
  · rename_i c' ns vs e
    split at P
    · rename_i h
      obtain ⟨rfl, h⟩ := h
      exact ⟨ns, vs, e, h, P⟩
    · exact P.elim
  · exact P.elim
theorem ins_at {F1 H1 : Hp} {ns : List Str} {ws : List D} {v : V} (h : Red G F1 H1 (.ins c ns ws) v) (hm : m ∉ ns) : ∃ a dx vs, v = .ref a ∧ H1 a = some (.ins (G.cls c) dx (ns.zip vs)) ∧ (ns.zip vs).lookup m = none := by
  obtain ⟨a, dx, vs, e, q, l, r⟩ := h
  exact ⟨a, dx, vs, e, q, lookup_zip_none hm⟩
def mMeth (c : Nat) (m : Str) (run : List Arg → DR) (n : Nat) (dd : List D) (ma : M Rv) (ms : M (List Rv)) : M Rv := ma.bind fun r => clsM c m r (ms.bind fun rs => callE none run n dd (r :: rs))
/-- o.m(e, ..): the receiver is read only -/
theorem ve_meth {pl : Sem Bool} (U : UM X.prog X.w X.K X.mg X.base G k c m n dd run) (hr : Room k X.A) (tk : L2N.Takes X W) (ho : VE X G W o ma) (ha : VA X G W (e :: es) ms)
    (hst : starEach (e :: es) X.env = (false, eval e X.env) :: starEach es X.env) (hpl : (backTo pos (starEach es X.env)).any (·.1) = false)
    (ht : eval (.Call (.Attribute o m apos) (e :: es) [] pos) X.env = (do
      let ov ← eval o X.env
      standAt apos.atName
      let (g, first) ← holding [ov] (getMethod ov m pl)
      callWith pos g first (backTo pos (starEach (e :: es) X.env)) (backToKw pos (keywordEach [] X.env)))) :
    VE X G W (.Call (.Attribute o m apos) (e :: es) [] pos) (mMeth c m run n dd ma ms) := by
  obtain ⟨f, fd, ps, dvs, ds, Fn, cl, hm, hb, hd, hD⟩ := U.ex
  refine ⟨fun B => ⟨fun pins s σ H Q I ⟨F, own, ρ, R, P⟩ => ?_⟩⟩
  have hO := (ho.run B).run pins s σ H (fun v H1 => ∃ a dx fs, v = .ref a ∧ H1 a = some (.ins (G.cls c) dx fs) ∧ fs.lookup m = none ∧ tM G B W (fun σ => okRvs G B σ) ms σ H1 fun vs H2 => spG G n run (v :: (vs ++ dvs)) H2 Q (fun cls d H' => W cls d σ H')) I
    (step (k := fun r => clsM c m r (ms.bind fun rs => callE none run n dd (r :: rs))) Grow.rfl' R P fun r ρ1 v H1 F1 own1 _ g1 _ R1 k1 P1 => by
      obtain ⟨ns, ws, er, hn, P1⟩ := clsM_go P1
      obtain ⟨a, dx, vs, ev, ha, hl⟩ := ins_at (k1.red R1 er) hn
      refine ⟨a, dx, _, ev, ha, hl, step (k := fun rs => callE none run n dd (r :: rs)) g1 R1 P1 fun rs ρ2 vs H2 F2 own2 _ g2 g12 R2 k2 P2 => ?_⟩
      exact user_go (vs := v :: vs) R2 (show RvsOk G B σ H F2 own2 H2 (r :: rs) (v :: vs) from ⟨v, vs, rfl, k1.grow g12, RvsOk.back g1.back k2⟩) g2.back g2 (fun _ h => h) hD P2)
  refine PySem.W.methodCall_KW (pl := pl) (thn hO fun u s1 ⟨v, H1, I1, rv, a, dx, fs, ev, ea, hl, q1⟩ => ?_) ht
  subst ev
  obtain rfl : u = Value.ref a := rv
  have hA := (ha.run B).run pos pins s1 σ H1 _ I1 q1
  refine getmeth_ok I1 ea cl hm hl (PySem.W.callWith_K (first := [.ref a]) (h₀ := X.base) I.ok.mod.kin hm.kp (thn hA fun us s2 ⟨vs, H2, I2, r2, q2⟩ => ?_) hst hpl)
  exact ⟨I2.kIn, run_V (us := .ref a :: us) (vs := .ref a :: vs) Fn hr hb hd (tk_at tk I2) I2 (.cons rfl r2) q2⟩
theorem ve_meth0 {pl : Sem Bool} (U : UM X.prog X.w X.K X.mg X.base G k c m n dd run) (hr : Room k X.A) (tk : L2N.Takes X W) (ho : VE X G W o ma)
    (ht : eval (.Call (.Attribute o m apos) [] [] pos) X.env = (do
      let ov ← eval o X.env
      standAt apos.atName
      let (g, first) ← holding [ov] (getMethod ov m pl)
      callWith pos g first (backTo pos (starEach [] X.env)) (backToKw pos (keywordEach [] X.env)))) :
    VE X G W (.Call (.Attribute o m apos) [] [] pos) (mMeth c m run n dd ma (M.pure [])) := by
  obtain ⟨f, fd, ps, dvs, ds, Fn, cl, hm, hb, hd, hD⟩ := U.ex
  refine ⟨fun B => ⟨fun pins s σ H Q I ⟨F, own, ρ, R, P⟩ => ?_⟩⟩
  have hO := (ho.run B).run pins s σ H (fun v H1 => ∃ a dx fs, v = .ref a ∧ H1 a = some (.ins (G.cls c) dx fs) ∧ fs.lookup m = none ∧ spG G n run (v :: ([] ++ dvs)) H1 Q (fun cls d H' => W cls d σ H')) I
    (step (k := fun r => clsM c m r ((M.pure []).bind fun rs => callE none run n dd (r :: rs))) Grow.rfl' R P fun r ρ1 v H1 F1 own1 _ g1 _ R1 k1 P1 => by
      obtain ⟨ns, ws, er, hn, P1⟩ := clsM_go P1
      obtain ⟨a, dx, vs, ev, ha, hl⟩ := ins_at (k1.red R1 er) hn
      exact ⟨a, dx, _, ev, ha, hl, user_go (vs := [v]) R1 (show RvsOk G B σ H F1 own1 H1 [r] [v] from ⟨v, [], rfl, k1, rfl⟩) g1.back g1 (fun _ h => h) hD P1⟩)
  refine PySem.W.methodCall_KW (pl := pl) (thn hO fun u s1 ⟨v, H1, I1, rv, a, dx, fs, ev, ea, hl, q1⟩ => ?_) ht
  subst ev
  obtain rfl : u = Value.ref a := rv
  exact getmeth_ok I1 ea cl hm hl (PySem.W.callWith_K0 (first := [.ref a]) I1.kIn hm.kp (run_V (us := [.ref a]) (vs := [.ref a]) Fn hr hb hd (tk_at tk I1) I1 (.cons rfl .nil) q1))
/-! ### methods that change the receiver -/
def callMe (i : Nat) (run : List Arg → DR) (n : Nat) (dd : List D) (rs : List Rv) : M Rv := fun ρ => match ρ[i]? with
  | some (some (md, d)) => if md = .ow ∨ md = .me then (match argsD (some i) rs ρ with
      | some as => if ((Md.me, d) :: (as ++ dArgs dd)).length = n then (match run ((.me, d) :: (as ++ dArgs dd)) with
          | .ok r (some d') => .ok r (ρ.set i (some (md, d')))
          | .exc x => .exc x (ρ.set i none)
          | _ => .bad)
        else .bad
      | none => .bad)
    else .bad
  | _ => .bad
theorem Rl.calledMe {F' H' : Hp} {a : Addr} {ob ob' : HO} {md : Md} {d d' : D} (R : Rl G B F own σ H ρ) (hm : md = .ow ∨ md = .me) (hi : ρ[i]? = some (some (md, d))) (hs : σ[i]? = some (some (.ref a))) (ho : own i = some a) (ha : H a = some ob) (t : Aft F H F' H' (some a)) (ha' : H' a = some ob') (q : Own G F' ob' d') :
    Rl G B F' own σ H' (ρ.set i (some (md, d'))) ∧ Grow own own H H' F F' := by
  have s2 : Sub H (upd H' a ob) := fun b u hb => by
    by_cases e : b = a
    · subst e
      rw [upd_same, ← ha, hb]
    · rw [upd_ne e]
      exact t.h b u (by rw [les_ne e]; exact hb)
  have f2 : Sub F' (upd H' a ob) := fun b u hb => by
    obtain ⟨h1, h2⟩ := les_some (t.fh b u hb)
    rw [upd_ne fun z => h2 (by rw [z])]
    exact h1
  obtain ⟨R2, g2⟩ := R.alloc s2 t.f f2 t.new
  obtain ⟨R3, g3⟩ := R2.write (o := ob) hm hi hs q ho
  have e : upd (upd H' a ob) a ob' = H' := by
    funext b
    by_cases hb : b = a
    · subst hb
      rw [upd_same, ha']
    · rw [upd_ne hb, upd_ne hb]
  rw [e] at R3 g3
  exact ⟨R3, g2.tr g3⟩
theorem Rl.calledX {F' H' : Hp} {a : Addr} (R : Rl G B F own σ H ρ) (ho : own i = some a) (t : AftX F H F' H' (some a)) : Rl G B F' (clr own i) σ H' (ρ.set i none) := by
  have R1 := R.drop (i := i)
  have h0 := R.own0 i a ho
  have keep : ∀ {b : Addr} {u : HO}, b ≠ a → H b = some u → H' b = some u := fun {b u} n h => t.h b u (by rw [les_ne n]; exact h)
  have ne : ∀ {j : Nat} {b : Addr}, clr own i j = some b → b ≠ a := fun {j b} e z => (clr_some e).2 (R.inj j i a (by rw [← z]; exact (clr_some e).1) ho)
  refine ⟨R1.len, fun j p ej => ?_, fun b u hb => keep (fun z => by rw [z, h0] at hb; cases hb) (R1.same b u hb), t.fh, R1.f0.tr t.f, fun b u hb => ?_, fun j b e => ?_, R1.own0, fun j b e => ?_, R1.inj⟩
  · obtain ⟨v, hv, q⟩ := R1.slot j p ej
    refine ⟨v, hv, ?_⟩
    obtain ⟨md, d⟩ := p
    cases md with
    | sh => exact Rep.mono t.f q
    | ro => exact Red.mono q Sub.rfl' t.f
    | ow =>
      obtain ⟨b, u, e1, e2, e3, q⟩ := q
      exact ⟨b, u, e1, e2, keep (ne e2) e3, q.mono t.f⟩
    | me =>
      obtain ⟨b, u, e1, e2, e4, e3, q⟩ := q
      exact ⟨b, u, e1, e2, e4, keep (ne e2) e3, q.mono t.f⟩
  · rcases t.new b u hb with z | z
    · exact R1.fnew b u z
    · by_cases e : b = a
      · exact .inr (by rw [e]; exact h0)
      · rw [les_ne e] at z
        exact .inr (R.free0 z)
  · cases q : F' b with
    | none => rfl
    | some u =>
      rcases t.new b u q with z | z
      · rw [R1.ownF j b e] at z
        cases z
      · rw [les_ne (ne e)] at z
        obtain ⟨u', hu⟩ := R1.ownH j b e
        rw [z] at hu
        cases hu
  · obtain ⟨u, hu⟩ := R1.ownH j b e
    exact ⟨u, keep (ne e) hu⟩
theorem me_go {rs : List Rv} {v : V} {vs dvs : List V} {Fs Hb : Hp} {owns : OwnM} {Q : VK} (hv : σ[i]? = some (some v)) (R : Rl G B F own σ H ρ) (k : RvsOk G B σ Hb F own H rs vs) (hb0 : ∀ x, H x = none → Hb x = none) (g : Grow owns own Hs H Fs F) (hbs : ∀ x, Hb x = none → Hs x = none) (hd : ∀ F, Reps G F dd dvs)
    (P : Post G B W σ (okRv G B σ) owns Fs Hs (callMe i run n dd rs ρ) Q) : spG G n run (v :: (vs ++ dvs)) H Q (fun cls d H' => W cls d σ H') := by
  unfold callMe at P
  split at P
  · rename_i md d e0
    split at P
    · rename_i hm
      split at P
      · rename_i as ea
        split at P
        · rename_i hn
          have key : ∃ a ob, v = .ref a ∧ own i = some a ∧ H a = some ob ∧ Own G F ob d := by
            obtain ⟨w, hw, q⟩ := R.slot i _ e0
            rw [hv] at hw
            injection hw with hw
            injection hw with hw
            subst hw
            rcases hm with rfl | rfl
            · obtain ⟨a, ob, e1, e2, e3, q⟩ := q
              exact ⟨a, ob, e1, e2, e3, q⟩
            · obtain ⟨a, ob, e1, e2, _, e3, q⟩ := q
              exact ⟨a, ob, e1, e2, e3, q⟩
          obtain ⟨a, ob, ev, ho, hob, hq⟩ := key
          subst ev
          obtain ⟨F1, z, l1, q1⟩ := args_ok (Hs := Hb) (me := some a) (x := some i) (.inr ⟨i, a, rfl, rfl, ho⟩) R k.w ea
          obtain ⟨l2, q2⟩ := dflts_ok l1 q1 (hd F1)
          have hF1 : F1 a = none := z.rl.ownF i a ho
          refine ⟨by rw [← hn, List.length_cons, List.length_cons, l2], F1, some a, (.me, d) :: (as ++ dArgs dd), fun b u hb => ?_, ⟨by rw [List.length_cons, List.length_cons, l2], fun j p ej => ?_, fun b hb => ?_⟩, ?_⟩
          · rw [les_ne fun y => by rw [y, hF1] at hb; cases hb]
            exact z.rl.fsub b u hb
          · cases j with
            | zero =>
              simp at ej
              subst ej
              exact ⟨_, rfl, rfl, a, ob, rfl, rfl, hob, hq.mono z.f⟩
            | succ j =>
              obtain ⟨w, hw, q⟩ := q2 j p (by simpa using ej)
              exact ⟨w, by simpa using hw, q.ok⟩
          · injection hb with hb
            subst hb
            exact ⟨d, rfl⟩
          · have g1 : Grow owns own Hs H Fs F1 := ⟨g.keep, g.dom, g.frz.tr z.f, fun b u e => by
              rcases z.new b u e with y | y
              · exact g.new b u y
              · exact .inr (.inl (hbs b y)), g.own⟩
            cases er : run ((.me, d) :: (as ++ dArgs dd)) with
            | bad => rw [er] at P; exact P
            | ok r mo =>
              rw [er] at P
              cases mo with
              | none => exact P.elim
              | some d' =>
                intro w F' H' aft hr hme
                obtain ⟨d2, ob', e2, hob', hq'⟩ := hme a rfl
                injection e2 with e2
                subst e2
                obtain ⟨R2, g2⟩ := z.rl.calledMe hm e0 hv ho hob aft hob' hq'
                refine P w H' F' own (g1.tr g2) R2 ?_
                cases r with
                | sh d => exact hr
                | tm d =>
                  obtain ⟨b, o, e1, e2, e3, e4, _, e5⟩ := hr
                  exact ⟨b, o, e1, e2, e3, ⟨g.back b e4, R.free0 e4⟩, R.freeO e4, e5⟩
                | pk j => exact hr.elim
            | exc x =>
              rw [er] at P
              intro cls d F' H' aft hx
              exact P cls d H' F' _ (g.frz.tr (z.f.tr aft.f)) (z.rl.calledX ho aft) hx
        · exact P.elim
      · exact P.elim
    · exact P.elim
  · exact P.elim
def mMethMe (c : Nat) (m : Str) (i : Nat) (run : List Arg → DR) (n : Nat) (dd : List D) (ms : M (List Rv)) : M Rv := clsM c m (.pk i) (ms.bind (callMe i run n dd))
theorem pk_rd {ns : List Str} {ws : List D} (R : Rl G B F own σ H ρ) (er : rdR (.pk i) ρ = some (.ins c ns ws)) : ∃ v, σ[i]? = some (some v) ∧ Red G F H (.ins c ns ws) v := by
  unfold rdR at er
  dsimp only at er
  split at er
  · rename_i md d' e0
    injection er with er
    subst er
    obtain ⟨v, hv, _⟩ := R.slot i _ e0
    exact ⟨v, hv, R.red e0 hv⟩
  · cases er
theorem ve_methMe {pl : Sem Bool} (U : UM X.prog X.w X.K X.mg X.base G k c m n dd run) (hr : Room k X.A) (tk : L2N.Takes X W) (hN : X.N[i]? = some x) (hv : Vis X.env.scope x) (hdb : (x == ("__debug__" : Str)) = false) (hcd : (x == ("__classdict__" : Str)) = false) (ha : VA X G W (e :: es) ms)
    (hst : starEach (e :: es) X.env = (false, eval e X.env) :: starEach es X.env) (hpl : (backTo pos (starEach es X.env)).any (·.1) = false)
    (ht : eval (.Call (.Attribute (.Name x p) m apos) (e :: es) [] pos) X.env = (do
      let ov ← eval (.Name x p) X.env
      standAt apos.atName
      let (g, first) ← holding [ov] (getMethod ov m pl)
      callWith pos g first (backTo pos (starEach (e :: es) X.env)) (backToKw pos (keywordEach [] X.env)))) :
    VE X G W (.Call (.Attribute (.Name x p) m apos) (e :: es) [] pos) (mMethMe c m i run n dd ms) := by
  obtain ⟨f, fd, ps, dvs, ds, Fn, cl, hm, hb, hd, hD⟩ := U.ex
  refine ⟨fun B => ⟨fun pins s σ H Q I ⟨F, own, ρ, R, P⟩ => ?_⟩⟩
  obtain ⟨ns, ws, er, hn, P⟩ := clsM_go P
  obtain ⟨v, hσ, rd⟩ := pk_rd R er
  obtain ⟨a, dx, fs, ev, ea, hl⟩ := ins_at rd hn
  subst ev
  have hO := (pe_var (pos := p) hN hv hdb hcd).run pins s σ H (fun v H1 => v = .ref a ∧ H1 = H) I ⟨_, hσ, rfl, rfl⟩
  refine PySem.W.methodCall_KW (pl := pl) (thn hO fun u s1 ⟨v, H1, I1, rv, ev, eH⟩ => ?_) ht
  subst ev
  subst eH
  obtain rfl : u = Value.ref a := rv
  have hA := (ha.run B).run pos pins s1 σ H1 _ I1 (step (k := callMe i run n dd) Grow.rfl' R P fun rs ρ2 vs H2 F2 own2 _ g2 _ R2 k2 P2 => me_go hσ R2 k2 g2.back g2 (fun _ h => h) hD P2)
  refine getmeth_ok I1 ea cl hm hl (PySem.W.callWith_K (first := [.ref a]) (h₀ := X.base) I.ok.mod.kin hm.kp (thn hA fun us s2 ⟨vs, H2, I2, r2, q2⟩ => ?_) hst hpl)
  exact ⟨I2.kIn, run_V (us := .ref a :: us) (vs := .ref a :: vs) Fn hr hb hd (tk_at tk I2) I2 (.cons rfl r2) q2⟩
theorem ve_methMe0 {pl : Sem Bool} (U : UM X.prog X.w X.K X.mg X.base G k c m n dd run) (hr : Room k X.A) (tk : L2N.Takes X W) (hN : X.N[i]? = some x) (hv : Vis X.env.scope x) (hdb : (x == ("__debug__" : Str)) = false) (hcd : (x == ("__classdict__" : Str)) = false)
    (ht : eval (.Call (.Attribute (.Name x p) m apos) [] [] pos) X.env = (do
      let ov ← eval (.Name x p) X.env
      standAt apos.atName
      let (g, first) ← holding [ov] (getMethod ov m pl)
      callWith pos g first (backTo pos (starEach [] X.env)) (backToKw pos (keywordEach [] X.env)))) :
    VE X G W (.Call (.Attribute (.Name x p) m apos) [] [] pos) (mMethMe c m i run n dd (M.pure [])) := by
  obtain ⟨f, fd, ps, dvs, ds, Fn, cl, hm, hb, hd, hD⟩ := U.ex
  refine ⟨fun B => ⟨fun pins s σ H Q I ⟨F, own, ρ, R, P⟩ => ?_⟩⟩
  obtain ⟨ns, ws, er, hn, P⟩ := clsM_go P
  obtain ⟨v, hσ, rd⟩ := pk_rd R er
  obtain ⟨a, dx, fs, ev, ea, hl⟩ := ins_at rd hn
  subst ev
  have hO := (pe_var (pos := p) hN hv hdb hcd).run pins s σ H (fun v H1 => v = .ref a ∧ H1 = H) I ⟨_, hσ, rfl, rfl⟩
  refine PySem.W.methodCall_KW (pl := pl) (thn hO fun u s1 ⟨v, H1, I1, rv, ev, eH⟩ => ?_) ht
  subst ev
  subst eH
  obtain rfl : u = Value.ref a := rv
  exact getmeth_ok I1 ea cl hm hl (PySem.W.callWith_K0 (first := [.ref a]) I1.kIn hm.kp (run_V (us := [.ref a]) (vs := [.ref a]) Fn hr hb hd (tk_at tk I1) I1 (.cons rfl .nil)
    (me_go (vs := []) hσ R (show RvsOk G B σ H1 F own H1 [] [] from rfl) (fun _ h => h) Grow.rfl' (fun _ h => h) hD P)))
/-! ### new instances -/
def makeE (c : Nat) (run : List Arg → DR) (n : Nat) (dd : List D) (rs : List Rv) : M Rv := fun ρ => match argsD none rs ρ with
  | some as => if ((Md.me, D.ins c [] []) :: (as ++ dArgs dd)).length = n then (match run ((.me, .ins c [] []) :: (as ++ dArgs dd)) with
      | .ok (.sh .non) (some d) => .ok (.tm d) ρ
      | .exc x => .exc x ρ
      | _ => .bad)
    else .bad
  | none => .bad
def mMake (c : Nat) (run : List Arg → DR) (n : Nat) (dd : List D) (ms : M (List Rv)) : M Rv := ms.bind (makeE c run n dd)
theorem make_go {rs : List Rv} {vs dvs : List V} {Fs Hb : Hp} {owns : OwnM} {Q : VK} {y dx : Addr} (R : Rl G B F own σ H ρ) (k : RvsOk G B σ Hb F own H rs vs) (g : Grow owns own Hs H Fs F) (hbs : ∀ x, Hb x = none → Hs x = none) (hd : ∀ F, Reps G F dd dvs) (hy : H y = none) (hdx : H dx = none) (hne : dx ≠ y)
    (P : Post G B W σ (okRv G B σ) owns Fs Hs (makeE c run n dd rs ρ) Q) : spG G n run (.ref y :: (vs ++ dvs)) (upd (upd H dx (.own y)) y (.ins (G.cls c) dx [])) (fun v H2 => v = .non ∧ Q (.ref y) H2) (fun cls d H' => W cls d σ H') := by
  unfold makeE at P
  split at P
  · rename_i as ea
    split at P
    · rename_i hn
      obtain ⟨F1, z, l1, q1⟩ := args_ok (Hs := Hb) (me := none) (x := none) (.inl ⟨rfl, rfl⟩) R k.w ea
      obtain ⟨l2, q2⟩ := dflts_ok l1 q1 (hd F1)
      have sub1 : Sub H (les (upd (upd H dx (.own y)) y (.ins (G.cls c) dx [])) (some y)) := fun b u hb => by
        have n1 : b ≠ y := ne_of_none hb hy
        rw [les_ne n1, upd_ne n1, upd_ne (ne_of_none hb hdx)]
        exact hb
      refine ⟨by rw [← hn, List.length_cons, List.length_cons, l2], F1, some y, (.me, .ins c [] []) :: (as ++ dArgs dd), z.rl.fsub.tr sub1, ⟨by rw [List.length_cons, List.length_cons, l2], fun j p ej => ?_, fun b hb => ?_⟩, ?_⟩
      · cases j with
        | zero =>
          simp at ej
          subst ej
          exact ⟨_, rfl, rfl, y, _, rfl, rfl, upd_same, dx, [], rfl, rfl, reps_nil.mpr rfl⟩
        | succ j =>
          obtain ⟨w, hw, q⟩ := q2 j p (by simpa using ej)
          refine ⟨w, by simpa using hw, ?_⟩
          obtain ⟨md, d⟩ := p
          cases md with
          | sh => exact q
          | ro =>
            have q : Red G F1 (les H none) d w := q
            rw [les_none] at q
            exact Red.mono q sub1 Sub.rfl'
          | ow => exact q.elim
          | me => exact q.elim
      · injection hb with hb
        subst hb
        exact ⟨_, rfl⟩
      · have g1 : Grow owns own Hs H Fs F1 := ⟨g.keep, g.dom, g.frz.tr z.f, fun b u e => by
          rcases z.new b u e with w | w
          · exact g.new b u w
          · exact .inr (.inl (hbs b w)), g.own⟩
        have back : ∀ {b : Addr}, b ≠ y → upd (upd H dx (.own y)) y (.ins (G.cls c) dx []) b = none → H b = none := fun {b} n1 h => by
          rw [upd_ne n1] at h
          by_cases e : b = dx
          · rw [e]
            exact hdx
          · rw [upd_ne e] at h
            exact h
        cases er : run ((.me, .ins c [] []) :: (as ++ dArgs dd)) with
        | bad => rw [er] at P; exact P
        | ok r mo =>
          rw [er] at P
          match r, mo, P with
          | .sh .non, some d, P =>
            intro v F' H' aft hr hme
            obtain ⟨d2, ob, e2, hob, hq⟩ := hme y rfl
            injection e2 with e2
            subst e2
            refine ⟨rep_non.mp (show Rep G F' .non v from hr), ?_⟩
            have hF'y : F' y = none := by
              cases q : F' y with
              | none => rfl
              | some u =>
                have := aft.fh y u q
                rw [les_same] at this
                cases this
            obtain ⟨R2, g2⟩ := z.rl.alloc (sub1.tr aft.h) aft.f (aft.fh.tr sub_les) fun b u hb => by
              rcases aft.new b u hb with w | w
              · exact .inl w
              · exact .inr (back (fun e => by rw [e, hF'y] at hb; cases hb) w)
            exact P (.ref y) H' F' own (g1.tr g2) R2 ⟨y, ob, rfl, hob, hF'y, ⟨g.back y hy, R.free0 hy⟩, R.freeO hy, hq⟩
          | .sh (.bl _), _, P => exact P.elim
          | .sh (.int _), _, P => exact P.elim
          | .sh (.str _), _, P => exact P.elim
          | .sh (.lst _), _, P => exact P.elim
          | .sh (.tup _), _, P => exact P.elim
          | .sh (.scr _), _, P => exact P.elim
          | .sh (.dic _ _), _, P => exact P.elim
          | .sh (.ins _ _ _), _, P => exact P.elim
          | .sh (.exc _ _ _), _, P => exact P.elim
          | .sh .non, none, P => exact P.elim
          | .tm _, _, P => exact P.elim
          | .pk _, _, P => exact P.elim
        | exc x =>
          rw [er] at P
          intro cls d F' H' aft hx
          obtain ⟨R2, g2⟩ := z.rl.alloc (sub1.tr aft.h) aft.f aft.fh fun b u hb => by
            rcases aft.new b u hb with w | w
            · exact .inl w
            · refine .inr ?_
              by_cases e : b = y
              · rw [e]
                exact hy
              · rw [les_ne e] at w
                exact back e w
          exact P cls d H' F' own (g.frz.tr (z.f.tr aft.f)) R2 hx
    · exact P.elim
  · exact P.elim
/-- a new instance, by values -/
theorem run_makeV {CX : CXT} {C g : Addr} {fd : FuncData} {ps : List Str} {sp : Sp} {dvs : List V} {ds : List Value} {E : XK} {pins : List (Addr × Obj)} {s : Shared} {Q : VK} {us : List Value} {vs : List V} (Mc : Mk X.K C g) (Fn : FnOk X.prog X.w X.K X.mg X.base CX k g fd ps sp) (hr : Room (k + 1) X.A) (hb : Binds X.K fd ps ds) (hd : Vals dvs ds)
    (hx : ∀ (σ' : St) (H' : Hp) (s0 s' : Shared) (e : Value), Inv X pins σ H' s0 → CX X.stack H' s0 E e s' → X.xe e s') (I : Inv X pins σ H s) (r : Vals vs us)
    (h : ∀ y dx, H y = none → H dx = none → dx ≠ y → sp (.ref y :: (vs ++ dvs)) (upd (upd H dx (.own y)) y (.ins C dx [])) (fun v H2 => v = .non ∧ Q (.ref y) H2) E) : wpAny (model X.prog X.w) X.A (call (.ref C) us) (EP X pins σ Q) X.xe s := by
  have I2 := Inv.made (C := C) I
  have free : ∀ {b : Addr}, s.heap.objs.size ≤ b → H b = none := fun hb => I.hok.fresh hb
  have q := h (s.heap.objs.size + 1) s.heap.objs.size (free (Nat.le_succ _)) (free (Nat.le_refl _)) (Nat.ne_of_lt (Nat.lt_succ_self _))
  have rall : Vals (V.ref (s.heap.objs.size + 1) :: (vs ++ dvs)) (Value.ref (s.heap.objs.size + 1) :: (us ++ ds)) := .cons rfl (r.append hd)
  have hlen : ((Value.ref (s.heap.objs.size + 1) :: us) ++ ds).length = ps.length := rall.length.symm.trans (Fn.len _ _ _ _ q)
  have run := Fn.run _ X.stack _ _ ⟨.ref (s.heap.objs.size + 1) :: us, []⟩ (.ref (s.heap.objs.size + 1) :: (us ++ ds)) _ _ E (hr.make C us []) (I2.env0.make C us []) (hb _ (.ref (s.heap.objs.size + 1) :: us) I2.kIn hlen) rall q
  refine wpAny_call (make_map (f := g) I.kIn Mc.makes Mc.init (beq_iff_eq.mp Mc.fn) (codeAny_mono run fun res s' hres => ?_))
  rcases res with err | fl
  case error => exact hx σ _ _ s' err I2 hres
  case ok =>
    cases fl <;> first
      | (obtain ⟨v, H', I3, rv, ev, q3⟩ := I2.after hres
         subst ev
         exact ⟨rv, V.ref (s.heap.objs.size + 1), H', I3, rfl, q3⟩)
      | exact hres.elim
theorem ve_make (U : UK X.prog X.w X.K X.mg X.base G k c x n dd run) (hr : Room (k + 1) X.A) (tk : L2N.Takes X W) (hg : Gl X x) (ha : VA X G W (e :: es) ms) (hdb : (x == ("__debug__" : Str)) = false) (he : starEach (e :: es) X.env = (false, eval e X.env) :: starEach es X.env) (hpl : (backTo pos (starEach es X.env)).any (·.1) = false) :
    VE X G W (.Call (.Name x p) (e :: es) [] pos) (mMake c run n dd ms) := by
  obtain ⟨f, fd, ps, dvs, ds, Fn, Mc, gm, hb, hd, hD⟩ := U.ex
  refine ⟨fun B => ⟨fun pins s σ H Q I ⟨F, own, ρ, R, P⟩ => ?_⟩⟩
  refine wpAny_Call_Name_kw (ld_glob I hg gm ?_ hdb)
  have hA := (ha.run B).run pos pins s σ H _ I (step (K := fun vs H1 => ∀ y dx, H1 y = none → H1 dx = none → dx ≠ y → spG G n run (.ref y :: (vs ++ dvs)) (upd (upd H1 dx (.own y)) y (.ins (G.cls c) dx [])) (fun v H2 => v = .non ∧ Q (.ref y) H2) (fun cls d H' => W cls d σ H'))
    (k := makeE c run n dd) Grow.rfl' R P fun rs ρ1 vs H1 F1 own1 _ g1 _ R1 k1 P1 y dx hy hdx hne => make_go R1 k1 g1 (fun _ h => h) hD hy hdx hne P1)
  exact PySem.W.callWith_K (h₀ := X.base) I.ok.mod.kin Mc.kp (thn hA fun us s1 ⟨vs, H1, I1, r, q⟩ => ⟨I1.kIn, run_makeV Mc Fn hr hb hd (fun σ' H' s0 s' e I' c' => tk_at tk I' e s' c') I1 r q⟩) he hpl
theorem ve_make0 (U : UK X.prog X.w X.K X.mg X.base G k c x n dd run) (hr : Room (k + 1) X.A) (tk : L2N.Takes X W) (hg : Gl X x) (hdb : (x == ("__debug__" : Str)) = false) : VE X G W (.Call (.Name x p) [] [] pos) (mMake c run n dd (M.pure [])) := by
  obtain ⟨f, fd, ps, dvs, ds, Fn, Mc, gm, hb, hd, hD⟩ := U.ex
  refine ⟨fun B => ⟨fun pins s σ H Q I ⟨F, own, ρ, R, P⟩ => ?_⟩⟩
  refine wpAny_Call_Name_kw (ld_glob I hg gm ?_ hdb)
  exact PySem.W.callWith_K0 I.kIn Mc.kp (run_makeV (us := []) (vs := []) Mc Fn hr hb hd (fun σ' H' s0 s' e I' c' => tk_at tk I' e s' c') I .nil fun y dx hy hdx hne => make_go (vs := []) R (show RvsOk G B σ H F own H [] [] from rfl) Grow.rfl' (fun _ h => h) hD hy hdx hne P)
/-! ### attributes -/
def getF (f : Str) : List Str → List D → Option D
  | n :: ns, v :: vs => if f = n then some v else getF f ns vs
  | _, _ => none
theorem getF_ok {f : Str} : ∀ {ns : List Str} {ds : List D} {vs : List V} {d : D}, Reps G F ds vs → getF f ns ds = some d → ∃ v, (ns.zip vs).lookup f = some v ∧ Rep G F d v
  | [], ds, vs, d, r, e => by cases ds <;> cases e
  | n :: ns, [], vs, d, r, e => by cases e
  | n :: ns, x :: ds, [], d, r, e => by have := r.len; simp at this
  | n :: ns, x :: ds, v :: vs, d, r, e => by
    have r := reps_cons.mp r
    rw [List.zip_cons_cons, List.lookup_cons]
    unfold getF at e
    split at e
    · rename_i h
      injection e with e
      subst e
      have h1 : (f == n) = true := beq_iff_eq.mpr h
      rw [h1]
      exact ⟨v, rfl, r.1⟩
    · rename_i h
      have h1 : (f == n) = false := beq_eq_false_iff_ne.mpr h
      rw [h1]
      exact getF_ok r.2 e
/-- the attributes that are known of the classes -/
abbrev Flds := List (Nat × Str)
def FldsOk (K : PySem.W.Frag) (G : Gx) (T : Flds) : Prop := ∀ p ∈ T, Cls K (G.cls p.1) ∧ NoAttr K (G.cls p.1) p.2
def fldE (T : Flds) (f : Str) (r : Rv) : M Rv := fun ρ => match rdR r ρ with
  | some (.ins c ns vs) => if (c, f) ∈ T then (match getF f ns vs with
      | some d => .ok (.sh d) ρ
      | none => .bad)
    else .bad
  | _ => .bad
def mFld (T : Flds) (f : Str) (ma : M Rv) : M Rv := ma.bind (fldE T f)
theorem ve_fld {T : Flds} (hT : FldsOk X.K G T) (ho : VE X G W e ma) (hb : attributeBase e f X.env (eval e X.env) = eval e X.env) : VE X G W (.Attribute e f pos) (mFld T f ma) := by
  refine ⟨fun B => pe_imp (pe_fld (ho.run B) hb) fun σ H Q ⟨F, own, ρ, R, P⟩ => ?_⟩
  refine step (k := fldE T f) Grow.rfl' R P fun r ρ1 v H1 F1 own1 _ g1 _ R1 k1 P1 => ?_
  unfold fldE at P1
  split at P1
  · rename_i c ns vs e1
    split at P1
    · rename_i hm
      split at P1
      · rename_i d e2
        obtain ⟨a, dx, ws, ev, ea, hl, r⟩ := k1.red R1 e1
        obtain ⟨u, hu, ru⟩ := getF_ok r e2
        obtain ⟨hc, hn⟩ := hT _ hm
        exact ⟨a, G.cls c, dx, _, u, ev, ea, hc, hn, hu, P1 u H1 F1 own1 g1 R1 ru⟩
      · exact P1.elim
    · exact P1.elim
  · exact P1.elim
def putN (f : Str) : List Str → List Str
  | [] => [f]
  | n :: ns => if n = f then n :: ns else n :: putN f ns
def putD (f : Str) (d : D) : List Str → List D → List D
  | n :: ns, v :: vs => if n = f then d :: vs else v :: putD f d ns vs
  | _, _ => [d]
theorem put_ok {f : Str} {d : D} {v : V} (rv : Rep G F d v) : ∀ {ns : List Str} {ds : List D} {vs : List V}, ns.length = vs.length → Reps G F ds vs → ∃ ws, putF f v (ns.zip vs) = (putN f ns).zip ws ∧ (putN f ns).length = ws.length ∧ Reps G F (putD f d ns ds) ws
  | [], ds, [], l, r => by
    have : ds = [] := by cases ds with
      | nil => rfl
      | cons x y => have := r.len; simp at this
    subst this
    exact ⟨[v], rfl, rfl, Reps.one rv⟩
  | n :: ns, [], [], l, r => by simp at l
  | n :: ns, [], v' :: vs, l, r => by have := r.len; simp at this
  | n :: ns, x :: ds, [], l, r => by simp at l
  | n :: ns, x :: ds, v' :: vs, l, r => by
    have r := reps_cons.mp r
    have l : ns.length = vs.length := by simpa using l
    by_cases h : n = f
    · refine ⟨v :: vs, ?_, ?_, ?_⟩
      · rw [List.zip_cons_cons]
        simp only [putF, putN, if_pos h]
        rfl
      · simp only [putN, if_pos h, List.length_cons, l]
      · simp only [putD, if_pos h]
        exact reps_cons.mpr ⟨rv, r.2⟩
    · obtain ⟨ws, e1, e2, e3⟩ := put_ok (f := f) (d := d) rv l r.2
      refine ⟨v' :: ws, ?_, ?_, ?_⟩
      · rw [List.zip_cons_cons]
        simp only [putF, putN, if_neg h, e1]
        rfl
      · simp only [putN, if_neg h, List.length_cons, e2]
      · simp only [putD, if_neg h]
        exact reps_cons.mpr ⟨r.1, e3⟩
def fldSet (T : Flds) (i : Nat) (f : Str) (d : D) : SM := fun ρ => match ρ[i]? with
  | some (some (md, .ins c ns vs)) => if (md = .ow ∨ md = .me) ∧ (c, f) ∈ T ∧ ns.length < 1000 then .nx (ρ.set i (some (md, .ins c (putN f ns) (putD f d ns vs)))) else .bad
  | _ => .bad
def sFldSet (T : Flds) (i : Nat) (f : Str) (m : M D) : SM := thenS m (fldSet T i f)
/-- name.f = value, the name's own instance -/
theorem vs_fld {T : Flds} {value : Expr} {m : M D} {pos' : Pos} (hT : FldsOk X.K G T) (hN : X.N[i]? = some x) (hv : Vis X.env.scope x) (hdb : (x == ("__debug__" : Str)) = false) (hcd : (x == ("__classdict__" : Str)) = false) (he : VV X G W value m)
    (hs : swapsWith value (some (.Attribute (.Name x p) f pos')) pos.line X.env = pure false) : VS X G W (.Assign [.Attribute (.Name x p) f pos'] value pos) (sFldSet T i f m) := by
  refine ⟨fun B => ps_imp (ps_fld (pe_var hN hv hdb hcd) (he.run B) hs) fun E σ H ⟨F, own, ρ, R, P⟩ => ?_⟩
  refine stepS R P fun d ρ2 y H2 F2 own2 _ g R2 k P2 => ?_
  have k : Rep G F2 d y := k
  unfold fldSet at P2
  split at P2
  · rename_i md c ns vs e0
    split at P2
    · rename_i h
      obtain ⟨hm, hf, hl⟩ := h
      obtain ⟨w, hw, q⟩ := R2.slot i _ e0
      have key : ∃ a ob, w = .ref a ∧ own2 i = some a ∧ H2 a = some ob ∧ Own G F2 ob (.ins c ns vs) := by
        rcases hm with rfl | rfl
        · obtain ⟨a, ob, e1, e2, e3, q⟩ := q
          exact ⟨a, ob, e1, e2, e3, q⟩
        · obtain ⟨a, ob, e1, e2, _, e3, q⟩ := q
          exact ⟨a, ob, e1, e2, e3, q⟩
      obtain ⟨a, ob, rfl, e2, e3, dx, ws, rfl, l, r⟩ := key
      obtain ⟨zs, p1, p2, p3⟩ := put_ok (f := f) k l r
      obtain ⟨hc, hn⟩ := hT _ hf
      refine ⟨_, hw, a, G.cls c, dx, _, rfl, e3, hc, hn, by rw [List.length_zip]; omega, ?_⟩
      obtain ⟨R3, g3⟩ := R2.write (o := .ins (G.cls c) dx (ns.zip ws)) (o' := .ins (G.cls c) dx (putF f y (ns.zip ws))) (d' := .ins c (putN f ns) (putD f d ns vs)) hm e0 hw ⟨dx, zs, by rw [p1], p2, p3⟩ e2
      exact P2 σ _ F2 own2 Sub.rfl' R3
    · exact P2.elim
  · exact P2.elim
end
end VL

set_option maxHeartbeats 200000
/-! An own exception whose __init__ says super().__init__('..') and stores its argument: at the heap's level. -/
namespace VX
open PySem PySem.W PySem.Calls PyProof.Rows

/-- the two rows of such an __init__ -/
def rows (msg f an : Str) (j : Nat) (p0 p1 p2 p3 p4 p5 q0 q1 q2 q3 : Pos) : List Stmt :=
  [.Expr (.Call (.Attribute (.Call (.Name "super" p0) [] [] p1) "__init__" p2) [.Constant (.str msg) j p3] [] p4) p5, .Assign [.Attribute (.Name "self" q0) f q1] (.Name an q2) q3]
/-- what the written part says of the class at C and its __init__ at fI -/
structure XC (prog : Program) (K : Frag) (C fI : Addr) (f : Str) : Prop where
  T : L2.OexC K C
  init : findIn K (.ref C) "__init__" = some (some (.ref fI))
  fnT : typeIn K (.ref fI) = some (.type "function")
  noF : findIn K (.ref C) f = some none
  fn : ∃ (msg an : Str) (j : Nat) (p0 p1 p2 p3 p4 p5 q0 q1 q2 q3 : Pos) (name qual : Str) (params : Arguments) (scope : Scope) (dV kV doc pm ct oc : Value) (ad od : Option Addr) (osl : Array (Option Value)) (cda cc : Addr) (vs : Array Value) (file : Str) (tf : Tok) (ccl cl : Value) (cdd cld : Option Addr) (ccs csl : Array (Option Value)) (ar : Arg) (cd : ClassData),
    K.lookup fI = some ⟨oc, od, .func (ksFn name qual params (rows msg f an j p0 p1 p2 p3 p4 p5 q0 q1 q2 q3) scope dV kV doc pm ad (.ref cda) ct cc), osl⟩ ∧ codeIn K (.ref cda) qual = true ∧
    K.lookup cda = some ⟨ccl, cdd, .fields vs, ccs⟩ ∧ vs[2]? = some (.str file tf) ∧ ((prog.main.file : Str) == file) = true ∧ K.lookup cc = some ⟨cl, cld, .cell (some (.ref C)), csl⟩ ∧
    (params.posonlyargs ++ params.args).head? = some ar ∧ ar.arg = "self" ∧ an ≠ "self" ∧ (an == ("__debug__" : Str)) = false ∧ scope.kind = .function ∧ scope.isCoroutine = false ∧ scope.isGenerator = false ∧ (∀ x ∈ scope.names, x.2 ≠ .cell) ∧
    scope.names.lookup ("super" : Str) = some .globalImplicit ∧ scope.names.lookup ("__class__" : Str) = some .free ∧ scope.names.lookup ("self" : Str) = some .local ∧ scope.names.lookup an = some .local ∧
    (∀ u v : Value, bindArgs (ksFn name qual params (rows msg f an j p0 p1 p2 p3 p4 p5 q0 q1 q2 q3) scope dV kV doc pm ad (.ref cda) ct cc) ⟨[u, v], []⟩ = pure [(("self" : Str), u), (an, v)]) ∧
    (∃ pl : Sem Bool, ∀ env : Env, eval (.Call (.Attribute (.Call (.Name "super" p0) [] [] p1) "__init__" p2) [.Constant (.str msg) j p3] [] p4) env = (do
      let ov ← attributeBase (.Call (.Name "super" p0) [] [] p1) "__init__" env (eval (.Call (.Name "super" p0) [] [] p1) env)
      standAt p2.atName
      let (g, first) ← holding [ov] (getMethod ov "__init__" pl)
      callWith p4 g first (backTo p4 (starEach [.Constant (.str msg) j p3] env)) [])) ∧
    clsIn K C = some cd ∧ alongIn K "__init__" ((cd.mro.dropWhile (· != .ref C)).drop 1) = some (some (.builtin "ValueError.__init__"))
  noS : nsIn K mainGlobals "super" = some none
  noM : (prog.main.scope.names.lookup ("super" : Str)).isSome = false
  third : nsIn K cStatics "thirdparty.any" = some none
  subV : subIn K (.ref C) (.type "ValueError") = some true
  subC : mroIn K C (.ref C) = some true
section
variable {prog : Program} {w : World} {A : Around} {R : Result → Shared → Prop} {hp : Heap} {g : Array GenState} {d : Drawn} {t : Nat} {os : OsState} {K : Frag} {C fI e t0 : Addr} {f : Str} {v : Value} {mg : Str → Option Value} {base : Heap}
abbrev xo (C t1 : Addr) (dx : Option Addr) : Obj := { cls := .ref C, dict := dx, data := .fields #[.ref t1, .none, .none, .none, .bool false, .none] }
theorem x_init (X : XC prog K C fI f) (M : L2.Mod K mg base) (bk : ∀ b o, base.get? b = some o → hp.get? b = some o) (room : A.depth < recursionLimit) (nK : K.lookup e = none) (he : hp.get? e = some (xo C t0 none))
    (hR : ∀ h' tk' dx t1, (∀ b o, b ≠ e → hp.get? b = some o → h'.get? b = some o) → e < dx → h'.get? e = some (xo C t1 (some dx)) → h'.Ns1 dx (fun y => if y = f then some v else none) → R (.ok (.ret .none)) ⟨h', g, d, tk', os⟩) :
    codeAny (model prog w) A (.call (.ref fI) ⟨[.ref e, v], []⟩) R ⟨hp, g, d, t, os⟩ := by
  obtain ⟨msg, an, j, p0, p1, p2, p3, p4, p5, q0, q1, q2, q3, name, qual, params, scope, dV, kV, doc, pm, ct, oc, ad, od, osl, cda, cc, vs, file, tf, ccl, cl, cdd, cld, ccs, csl, ar, cd, lf, hcd, lcda, hvs, hfile, lcc, har, har2, han, hdb, hk, hco, hgen, hcell, hks, hkc, hkself, hkan, hbind, ⟨pl, hev⟩, hcls, halong⟩ := X.fn
  have KX : K.In hp := M.kin.keeps bk
  have hlim : hp.NoLimit := M.nolimit.keeps bk
  obtain ⟨mb, bb, hbb⟩ := M.blt
  have nmg : mg ("super" : Str) = none := mg_none_of M.kin M.glob X.noS
  refine ks_codeAny_call_defAt (s := ⟨hp, g, d, t, os⟩) (fd := ksFn name qual params (rows msg f an j p0 p1 p2 p3 p4 p5 q0 q1 q2 q3) scope dV kV doc pm ad (.ref cda) ct cc) (binds := [(("self" : Str), .ref e), (an, v)]) room (KX _ _ lf) rfl hlim (codeRec_of KX hcd) rfl (.of_eq (hbind _ _)) hcell
    (fun x hx => ?_) (fun h₀ hns k0 => ?_) hco hgen hk
  · rcases List.mem_cons.mp hx with rfl | hx
    · exact hkself
    · have hx : x = (an, v) := by simpa using hx
      rw [hx]
      exact hkan
  have K0 : K.In h₀ := KX.keeps k0
  have he0 : h₀.get? e = some (xo C t0 none) := k0 _ _ he
  have hlt : e < hp.objs.size := Heap.lt_size he
  have mself : (fun x : Str => ([(("self" : Str), Value.ref e), (an, v)] : List (Str × Value)).reverse.lookup x) ("self" : Str) = some (.ref e) := by
    show ([(an, v), (("self" : Str), Value.ref e)] : List (Str × Value)).lookup ("self" : Str) = _
    simp only [List.lookup_cons]
    rw [show (("self" : Str) == an) = false from beq_eq_false_iff_ne.mpr (Ne.symm han), show (("self" : Str) == ("self" : Str)) = true from beq_iff_eq.mpr rfl]
  have man : (fun x : Str => ([(("self" : Str), Value.ref e), (an, v)] : List (Str × Value)).reverse.lookup x) an = some v := by
    show ([(an, v), (("self" : Str), Value.ref e)] : List (Str × Value)).lookup an = _
    simp only [List.lookup_cons]
    rw [show (an == an) = true from beq_iff_eq.mpr rfl]
  generalize hm : (fun x : Str => ([(("self" : Str), Value.ref e), (an, v)] : List (Str × Value)).reverse.lookup x) = m at hns mself man
  generalize henv : callEnv (ksFn name qual params (rows msg f an j p0 p1 p2 p3 p4 p5 q0 q1 q2 q3) scope dV kV doc pm ad (.ref cda) ct cc) hp.objs.size fI = env
  have es : env.scope = scope := by rw [← henv]; rfl
  have eg : env.globals = mainGlobals := by rw [← henv]; rfl
  have eb : env.builtins = builtinsNs := by rw [← henv]; rfl
  have el : env.locals = hp.objs.size := by rw [← henv]; rfl
  have ec : env.cells = [(("__class__" : Str), cc)] := by rw [← henv]; rfl
  have ef : env.func = some fI := by rw [← henv]; rfl
  have eco : env.code = .ref cda := by rw [← henv]; rfl
  have kS : env.kindOf "super" = some .globalImplicit := by unfold Env.kindOf; rw [es]; exact hks
  have kC : env.kindOf "__class__" = some .free := by unfold Env.kindOf; rw [es]; exact hkc
  have kSelf : env.kindOf "self" = some .local := by unfold Env.kindOf; rw [es]; exact hkself
  have kAn : env.kindOf an = some .local := by unfold Env.kindOf; rw [es]; exact hkan
  have kk : env.scope.kind = .function := by rw [es]; exact hk
  have hintr : interactive env = false := by simp [interactive, kk]
  have hloc : h₀.Ns env.locals m := by rw [el]; exact hns
  obtain ⟨cnm, cq, cN, cbs, cbm, csn, csub, cab, ccol, cdd2, ck0, ck1, ck2, ck3, ck5, lC, hbm⟩ := X.T.cls
  have hC0 := K0 _ _ lC
  have hne : e ≠ C := fun z => by
    rw [z, hC0] at he0
    have := congrArg (fun o => o.map (·.data)) he0
    cases this
  refine ks_wpAt_execs_cons (ks_wpAt_Expr_any (ks_wpAt_MethodCall ?_ (hev env)) hintr rfl)
  · refine ks_wpAt_super_base (f := fI) (cc := cda) kS kC (by decide) ef (K0 _ _ lf) rfl har eco (K0 _ _ lcda) rfl hvs hfile X.noM ?_
    refine ks_loadName_global kk kS (loadGlobal_builtin (mg := mg) (mb := mb) (by rw [eg]; exact M.glob.keeps fun b o z => k0 _ _ (bk _ _ z)) nmg (by rw [eb]; exact bb.keeps fun b o z => k0 _ _ (bk _ _ z)) ((hbb _ (by decide)).trans (by decide +kernel)) ⟨rfl, ?_⟩)
    refine wpAny_loadName_free kk kC (by rw [ec]; rfl) ⟨_, K0 _ _ lcc, rfl⟩ ?_
    rw [har2]
    refine wpAny_loadName_local kk kSelf hloc mself ?_
    refine ks_wpAny_isType_cls hC0 rfl ⟨rfl, ?_⟩
    refine ks_wpAny_call_super hC0 rfl he0 rfl (fun c z => by cases z) (looks_mroIn K0 X.subC) (fun h1 so1 k1 => ?_)
    have K1 : K.In h1 := K0.keeps k1
    have he1 := k1 _ _ he0
    have Ie : InstAt h1 e (xo C t0 none) C none := ⟨he1, rfl, rfl, trivial⟩
    have hIn : Looks (model prog w) h1 (isInstance (.ref e) (.type "ValueError")) true := Ie.type.andThen (looks_subIn K1 X.subV)
    refine kxs_getMethod kxs_ValueError so1 (looks_opaque K1 X.third) (l₀ := cd.mro) (fun A Q E s k q => wpAny_bind ((looks_clsIn K1 hcls) A _ E s k (wpAny_pure q))) rfl K1 halong hIn hne (by decide) ?_
    generalize hu : h1.objs.size = u
    have hmw : (h1.push (kxs_mw "ValueError.__init__" e)).get? u = some (kxs_mw "ValueError.__init__" e) := by rw [← hu]; exact Heap.get?_push_at rfl rfl
    have k2 : ∀ b o, h1.get? b = some o → (h1.push (kxs_mw "ValueError.__init__" e)).get? b = some o := fun b o z => Heap.get?_push_of_some _ z
    generalize (h1.push (kxs_mw "ValueError.__init__" e)) = h2 at hmw k2 ⊢
    have K2 : K.In h2 := K1.keeps k2
    have he2 := k2 _ _ he1
    show wpAny _ _ (callWith p4 (.ref u) [] (backTo p4 (starEach [.Constant (.str msg) j p3] env)) []) _ _ _
    refine kxs_callWith (i := "ValueError.__init__") (x := e) rfl (evalArgs_plain ?_)
    show wpAny _ _ (spliced [(false, eval (.Constant (.str msg) j p3) env)]) _ _ _
    refine spliced_cons ?_
    refine Constant_str ?_
    refine spliced_nil ⟨hmw, ?_⟩
    have q2 : ∀ (b : Addr) (o : Obj), hp.get? b = some o → h2.get? b = some o := fun b o z => k2 _ _ (k1 _ _ (k0 _ _ z))
    refine wpAny_call (codeAny_of_tree ?_)
    show wpAny _ (A.deeper env).in1 (callAny (.ref u) ⟨[.str msg _], []⟩) _ _ _
    unfold callAny
    refine wpAny_bind (wpAny_load hmw ?_)
    refine KFB.if_so (show (Value.type "method-wrapper" == Value.type "method" || Value.type "method-wrapper" == Value.type "builtin_function_or_method" || Value.type "method-wrapper" == Value.type "method-wrapper") = true by decide) ?_
    refine wpAny_bind (check_bound_init F.excBase_ValueError.toExcCallFacts (K2 _ _ lC) he2 rfl ?_)
    refine wpAny_bind (wpAny_pure (wpAny_pure ⟨plainId_quiet F.excBase_ValueError.init.plain _, codeAny_builtin F.excBase_ValueError.initEntry ?_⟩))
    refine exc_init_tree (cls := .ref C) (t0 := t0) (dv := none) (c2 := .none) (c3 := .none) (b4 := .bool false) he2 (by show 1 ≤ sizeLine; rw [sizeLine_eq]; omega) fun h3 k3 e3 _ => ?_
    generalize h2.objs.size = t1 at e3
    have nb : ∀ b o, K.lookup b = some o → b ≠ e := fun b o z y => by
      rw [y, nK] at z
      cases z
    have K3 : K.In h3 := fun b o z => k3 b o (nb b o z) (K2 b o z)
    have q3k : ∀ (b : Addr) (o : Obj), b ≠ e → hp.get? b = some o → h3.get? b = some o := fun b o y z => k3 b o y (q2 _ _ z)
    have ns3 : h3.Ns env.locals m := by
      obtain ⟨oL, es2, ep2, hL, rr⟩ := hloc
      refine ⟨oL, es2, ep2, k3 _ _ (fun y => ?_) (k2 _ _ (k1 _ _ hL)), rr⟩
      rw [el] at y
      rw [y] at hlt
      exact absurd hlt (Nat.lt_irrefl _)
    refine ks_wpAt_execs_cons (ks_wpAt_Assign_Attr (wpAt_of_wpAny (wpAny_Name (wpAny_loadName_local kk kAn ns3 man ?_) hdb)) rfl)
    refine wpAny_Name (wpAny_loadName_local kk kSelf ns3 mself ?_) (by decide)
    have hclC : clsIn K C = some { name := cnm, bases := cbs, mro := .ref C :: cbm, ns := cN, qualname := cq, hasDict := true, slotNames := csn, subclasses := csub, abstract := cab, collection := ccol, hasDel := false } := by unfold clsIn; rw [lC]
    refine set_plain K3 (ox := xo C t1 none) (od := none) ⟨e3, rfl, rfl, trivial⟩ X.T.sa ?_
    refine HandSPX.exc_osa K3 e3 hclC (show HandSPX.refsVE (.ref C :: cbm) = true from hbm) rfl X.noF (fun h' tk' dx k4 dn dne hx hn => ?_)
    refine wpAt_of_wpAny (wpAny_execs_nil ?_)
    exact hR h' tk' dx t1 (fun b o y z => k4 b o y (q3k b o y z)) (Nat.lt_of_lt_of_le (Heap.lt_size e3) dn) hx hn
end
open L2 in
/-- C(e): an exception with one field -/
theorem pmk1 {X : Cx} {C fI : Addr} {f x : Str} {k : Nat} {p pos : Pos} {e : Expr} {te : TE} (T : XC X.prog X.K C fI f) (hr : Room (k + 1) X.A) (hg : Gl X x) (hm : X.mg x = some (.ref C)) (he : PE X e te)
    (hdb : (x == ("__debug__" : Str)) = false) (hs : starEach [e] X.env = (false, eval e X.env) :: starEach [] X.env) (hpl : (backTo pos (starEach [] X.env)).any (·.1) = false) :
    L2N.PMk X (.Call (.Name x p) [e] [] pos) (fun σ H Q => te σ H fun v H1 => ∀ d, H1 d = none → Q (.ref C) (some d) (upd H1 d (.xd [(f, v)]))) := by
  intro pins s σ H Q I h
  obtain ⟨nm, q, N, bs, bm, sn, sub, ab, col, dd, k0, k1, k2, k3, k5, hC, hbm⟩ := T.T.cls
  refine wpAny_Call_Name_kw (ld_glob I hg hm ?_ hdb)
  have hA := (pa_cons he pa_nil hs).run pos pins s σ H (fun vs H1 => match vs with
    | [v] => ∀ d, H1 d = none → Q (.ref C) (some d) (upd H1 d (.xd [(f, v)]))
    | _ => False) I h
  refine PySem.W.callWith_K (h₀ := X.base) I.ok.mod.kin T.T.kC (thn hA fun us s1 ⟨vs, H1, I1, r1, q1⟩ => ⟨I1.kIn, ?_⟩) hs hpl
  cases r1 with
  | nil => exact q1.elim
  | @cons v u vr ur ru rn =>
    cases rn with
    | cons _ _ => exact q1.elim
    | nil =>
      have q1 : ∀ d, H1 d = none → Q (.ref C) (some d) (upd H1 d (.xd [(f, v)])) := q1
      show wpAny _ _ (call (.ref C) [u]) _ _ _
      obtain ⟨hp, g, dr, tk, os⟩ := s1
      have kk : ∀ b o, hp.get? b = some o → ((hp.push (PySem.W.kdv_tup [u])).push (PySem.HandSPX.excO C hp.objs.size)).get? b = some o := fun b o z => Heap.get?_push_of_some _ (Heap.get?_push_of_some _ z)
      have he2 : ((hp.push (PySem.W.kdv_tup [u])).push (PySem.HandSPX.excO C hp.objs.size)).get? (hp.objs.size + 1) = some (xo C hp.objs.size none) := by heap_get
      refine wpAny_call (PySem.HandSPX.call_own F.excBase_ValueError (fun Y => PySem.HandSPX.refsVE_contains Y bm hbm) (I1.kIn _ _ hC) (PySem.W.looks_findIn I1.kIn T.init) (fun self => PySem.W.bind_fn I1.kIn self T.fnT) (by show 1 ≤ sizeLine; rw [sizeLine_eq]; omega)
        (x_init T I1.ok.mod (fun b o z => kk b o (I1.bk b o z)) (hr.make C [u] []).depth ?_ he2 fun h' tk' dx t1 k4 hlt hx hn => ?_))
      · cases z : X.K.lookup (hp.objs.size + 1) with
        | none => rfl
        | some o => exact absurd (Heap.lt_size (I1.kIn _ _ z)) (by show ¬ (hp.objs.size + 1 < hp.objs.size); omega)
      · refine ⟨rfl, ?_⟩
        have hd1 : H1 dx = none := I1.hok.fresh (show hp.objs.size ≤ dx from Nat.le_of_lt (Nat.lt_trans (Nat.lt_succ_self _) hlt))
        obtain ⟨G, g1, g2⟩ := restrict h' fun b => decide (b ≠ hp.objs.size + 1)
        have gk : ∀ b, b ≠ hp.objs.size + 1 → G.get? b = h'.get? b := fun b hb => g1 b (decide_eq_true hb)
        have ge : G.get? (hp.objs.size + 1) = none := g2 _ (by simp)
        have keep : ∀ b o, hp.get? b = some o → G.get? b = some o := fun b o z => by
          have hb : b ≠ hp.objs.size + 1 := fun y => by
            have l := Heap.lt_size z
            rw [y] at l
            exact absurd (Nat.lt_of_succ_lt l) (Nat.lt_irrefl _)
          rw [gk b hb]
          exact k4 b o hb (kk b o z)
        have ne1 : dx ≠ hp.objs.size + 1 := Nat.ne_of_gt hlt
        have new : ObjOk X.prog X.w (upd H1 dx (.xd [(f, v)])) G dx (.xd [(f, v)]) := ⟨_, hn.at fun o z => (gk dx ne1).trans z, relO_put (fs := []) ru fun _ => True.intro⟩
        have J := I1.laid (t' := tk') (a := dx) (o := .xd [(f, v)]) (h' := G) keep (show hp.objs.size ≤ dx from Nat.le_of_lt (Nat.lt_trans (Nat.lt_succ_self _) hlt)) new
        refine ⟨hp.objs.size + 1, _, _, ⟨G, g, dr, tk', os⟩, _, .ref C, some dx, rfl, J, fun b o z => ?_, ge, hx, ⟨rfl, rfl, fun vs z => by cases z; rfl⟩, rfl, rfl, ?_, rfl, I1.bare, raises_own T.T.exC T.T.tyC, q1 dx hd1⟩
        · by_cases hb : b = hp.objs.size + 1
          · rw [hb, ge] at z
            cases z
          · exact (gk b hb).symm.trans z
        · rw [upd_ne (Ne.symm ne1)]
          exact I1.hok.fresh (show hp.objs.size ≤ hp.objs.size + 1 by omega)
end VX

set_option maxHeartbeats 200000
/-! The value layer: raise, try. -/
namespace VL
open PySem PySem.Spec L2
open PyProof.Rows (envOfC)
section
variable {X : Cx} {G : Gx} {B : Bx} {W : WX} {F H Hs : Hp} {own : OwnM} {σ : St} {ρ : VEnv} {E : Ends}
/-! ### raise -/
def sRaise1 (c : Nat) (f : Str) (m : M D) : SM := thenS m fun d ρ => .exc ⟨c, [f], [d]⟩ ρ
theorem vs_raise1 {c k : Nat} {fI : Addr} {f x : Str} {p p2 pos : Pos} {e : Expr} {m : M D} (hc : X.calm = true) (tk : L2N.Takes X W) (T : VX.XC X.prog X.K (G.cls c) fI f) (hr : Room (k + 1) X.A) (hg : Gl X x) (hm : X.mg x = some (.ref (G.cls c))) (he : VV X G W e m)
    (hdb : (x == ("__debug__" : Str)) = false) (hs : starEach [e] X.env = (false, eval e X.env) :: starEach [] X.env) (hpl : (backTo p2 (starEach [] X.env)).any (·.1) = false) :
    VS X G W (.Raise (some (.Call (.Name x p) [e] [] p2)) none pos) (sRaise1 c f m) := by
  refine ⟨fun B => ps_imp (L2N.ps_raise hc tk (VX.pmk1 T hr hg hm (he.run B) hdb hs hpl)) fun E σ H ⟨F, own, ρ, R, P⟩ => ?_⟩
  refine stepS R P fun d ρ2 v H2 F2 own2 _ g R2 q P2 => fun a ha => ?_
  obtain ⟨R3, g3⟩ := R2.freshF (o := .xd [(f, v)]) ha
  exact P2 _ _ σ _ _ own2 g3.frz R3 ⟨rfl, [v], .inr ⟨a, rfl, upd_same, rfl⟩, Reps.one (Rep.mono g3.frz q)⟩
def sRaise0 (c : Nat) : SM := fun ρ => .exc ⟨c, [], []⟩ ρ
theorem vs_raise0 {c j : Nat} {x m : Str} {p p2 p3 pos : Pos} (hc : X.calm = true) (tk : L2N.Takes X W) (q : PySem.W.excIn X.K (G.cls c) He.veBase "ValueError.__new__" = true) (kC : PySem.W.keepIn X.K (.ref (G.cls c)) = true) (r : Raises X (.ref (G.cls c))) (hg : Gl X x) (hm : X.mg x = some (.ref (G.cls c))) (hdb : (x == ("__debug__" : Str)) = false) :
    VS X G W (.Raise (some (.Call (.Name x p) [.Constant (.str m) j p2] [] p3)) none pos) (sRaise0 c) := by
  refine ⟨fun B => ps_imp (L2N.ps_raise hc tk (L2N.pmk_own F.excBase_ValueError q hm kC r hg hdb)) fun E σ H ⟨F, own, ρ, R, P⟩ => ?_⟩
  exact P _ _ σ H F own Sub.rfl' R ⟨rfl, [], .inl ⟨rfl, rfl, rfl⟩, reps_nil.mpr rfl⟩
/-! ### what holds no handled exception -/
mutual
def noX : D → Bool
  | .exc _ _ _ => false
  | .lst xs => noXs xs
  | .tup xs => noXs xs
  | .dic _ vs => noXs vs
  | .ins _ _ vs => noXs vs
  | _ => true
def noXs : List D → Bool
  | [] => true
  | d :: ds => noX d && noXs ds
end
mutual
theorem Rep.cool {G G' : Gx} (hK : G'.K = G.K) (hC : G'.cls = G.cls) : ∀ {d : D} {v : V}, noX d = true → (Rep G F d v ↔ Rep G' F d v)
  | .non, v, _ => by rw [rep_non, rep_non]
  | .bl b, v, _ => by rw [rep_bl, rep_bl]
  | .int i, v, _ => by rw [rep_int, rep_int]
  | .str z, v, _ => by rw [rep_str, rep_str]
  | .scr ns, v, _ => by
    unfold Rep
    rw [hK]
  | .lst xs, v, h => by
    unfold noX at h
    rw [rep_lst, rep_lst]
    constructor
    · rintro ⟨a, vs, e, q, r⟩
      exact ⟨a, vs, e, q, (Reps.cool hK hC h).mp r⟩
    · rintro ⟨a, vs, e, q, r⟩
      exact ⟨a, vs, e, q, (Reps.cool hK hC h).mpr r⟩
  | .tup xs, v, h => by
    unfold noX at h
    rw [rep_tup, rep_tup, hK]
    constructor
    · rintro ⟨a, vs, e, q, r⟩
      exact ⟨a, vs, e, q, (Reps.cool hK hC h).mp r⟩
    · rintro ⟨a, vs, e, q, r⟩
      exact ⟨a, vs, e, q, (Reps.cool hK hC h).mpr r⟩
  | .dic ks ws, v, h => by
    unfold noX at h
    unfold Rep
    constructor
    · rintro ⟨a, vs, e, q, r⟩
      exact ⟨a, vs, e, q, (Reps.cool hK hC h).mp r⟩
    · rintro ⟨a, vs, e, q, r⟩
      exact ⟨a, vs, e, q, (Reps.cool hK hC h).mpr r⟩
  | .ins c ns ws, v, h => by
    unfold noX at h
    unfold Rep
    rw [hC]
    constructor
    · rintro ⟨a, dx, vs, e, q, l, r⟩
      exact ⟨a, dx, vs, e, q, l, (Reps.cool hK hC h).mp r⟩
    · rintro ⟨a, dx, vs, e, q, l, r⟩
      exact ⟨a, dx, vs, e, q, l, (Reps.cool hK hC h).mpr r⟩
  | .exc c ns ws, v, h => by
    unfold noX at h
    cases h
theorem Reps.cool {G G' : Gx} (hK : G'.K = G.K) (hC : G'.cls = G.cls) : ∀ {ds : List D} {vs : List V}, noXs ds = true → (Reps G F ds vs ↔ Reps G' F ds vs)
  | [], vs, _ => by rw [reps_nil, reps_nil]
  | d :: ds, [], h => by
    constructor
    · intro r
      have := r.len
      simp at this
    · intro r
      have := r.len
      simp at this
  | d :: ds, v :: vs, h => by
    unfold noXs at h
    rw [Bool.and_eq_true] at h
    rw [reps_cons, reps_cons, Rep.cool hK hC h.1, Reps.cool hK hC h.2]
end
theorem Own.cool {G G' : Gx} (hK : G'.K = G.K) (hC : G'.cls = G.cls) {o : HO} {d : D} (h : noX d = true) (q : Own G F o d) : Own G' F o d := by
  cases d with
  | lst xs =>
    unfold noX at h
    obtain ⟨vs, e, r⟩ := q
    exact ⟨vs, e, (Reps.cool hK hC h).mp r⟩
  | dic ks ws =>
    unfold noX at h
    obtain ⟨vs, r, e⟩ := q
    exact ⟨vs, (Reps.cool hK hC h).mp r, e⟩
  | ins c ns ws =>
    unfold noX at h
    obtain ⟨dx, vs, e, l, r⟩ := q
    exact ⟨dx, vs, by rw [e, hC], l, (Reps.cool hK hC h).mp r⟩
  | _ => exact q.elim
theorem Red.cool {G G' : Gx} (hK : G'.K = G.K) (hC : G'.cls = G.cls) {d : D} {v : V} (h : noX d = true) (q : Red G F H d v) : Red G' F H d v := by
  cases d with
  | lst xs =>
    unfold noX at h
    obtain ⟨a, vs, e, s, r⟩ := q
    exact ⟨a, vs, e, s, (Reps.cool hK hC h).mp r⟩
  | dic ks ws =>
    unfold noX at h
    obtain ⟨a, vs, e, s, r⟩ := q
    exact ⟨a, vs, e, s, (Reps.cool hK hC h).mp r⟩
  | ins c ns ws =>
    unfold noX at h
    obtain ⟨a, dx, vs, e, s, l, r⟩ := q
    exact ⟨a, dx, vs, e, by rw [s, hC], l, (Reps.cool hK hC h).mp r⟩
  | non => exact (Rep.cool (F := F) (v := v) (d := .non) hK hC h).mp q
  | bl b => exact (Rep.cool (F := F) (v := v) (d := .bl b) hK hC h).mp q
  | int i => exact (Rep.cool (F := F) (v := v) (d := .int i) hK hC h).mp q
  | str s => exact (Rep.cool (F := F) (v := v) (d := .str s) hK hC h).mp q
  | tup xs => exact (Rep.cool (F := F) (v := v) (d := .tup xs) hK hC h).mp q
  | scr ns => exact (Rep.cool (F := F) (v := v) (d := .scr ns) hK hC h).mp q
  | exc c ns ws =>
    unfold noX at h
    cases h
mutual
theorem Rep.noX (hG : G.hot = none) : ∀ {d : D} {v : V}, Rep G F d v → noX d = true
  | .non, v, h => by unfold noX; rfl
  | .bl b, v, h => by unfold noX; rfl
  | .int i, v, h => by unfold noX; rfl
  | .str z, v, h => by unfold noX; rfl
  | .scr ns, v, h => by unfold noX; rfl
  | .lst xs, v, h => by
    unfold noX
    obtain ⟨a, vs, _, _, r⟩ := rep_lst.mp h
    exact Reps.noX hG r
  | .tup xs, v, h => by
    unfold noX
    obtain ⟨a, vs, _, _, r⟩ := rep_tup.mp h
    exact Reps.noX hG r
  | .dic ks ws, v, h => by
    unfold noX
    unfold Rep at h
    obtain ⟨a, vs, _, _, r⟩ := h
    exact Reps.noX hG r
  | .ins c ns ws, v, h => by
    unfold noX
    unfold Rep at h
    obtain ⟨a, dx, vs, _, _, _, r⟩ := h
    exact Reps.noX hG r
  | .exc c ns ws, v, h => by
    unfold Rep at h
    obtain ⟨a, od, vs, _, q, _⟩ := h
    rw [hG] at q
    cases q
theorem Reps.noX (hG : G.hot = none) : ∀ {ds : List D} {vs : List V}, Reps G F ds vs → noXs ds = true
  | [], vs, h => by unfold noXs; rfl
  | d :: ds, [], h => by
    have := h.len
    simp at this
  | d :: ds, v :: vs, h => by
    unfold noXs
    rw [Rep.noX hG (reps_cons.mp h).1, Reps.noX hG (reps_cons.mp h).2]
    rfl
end
theorem Own.noX (hG : G.hot = none) {o : HO} {d : D} (q : Own G F o d) : VL.noX d = true := by
  cases d with
  | lst xs =>
    obtain ⟨vs, e, r⟩ := q
    unfold VL.noX
    exact r.noX hG
  | dic ks ws =>
    obtain ⟨vs, r, e⟩ := q
    unfold VL.noX
    exact r.noX hG
  | ins c ns ws =>
    obtain ⟨dx, vs, e, l, r⟩ := q
    unfold VL.noX
    exact r.noX hG
  | _ => exact q.elim
theorem Red.noX (hG : G.hot = none) {d : D} {v : V} (q : Red G F H d v) : VL.noX d = true := by
  cases d with
  | lst xs =>
    obtain ⟨a, vs, e, s, r⟩ := q
    unfold VL.noX
    exact r.noX hG
  | dic ks ws =>
    obtain ⟨a, vs, e, s, r⟩ := q
    unfold VL.noX
    exact r.noX hG
  | ins c ns ws =>
    obtain ⟨a, dx, vs, e, s, l, r⟩ := q
    unfold VL.noX
    exact r.noX hG
  | non => exact Rep.noX (F := F) (v := v) (d := .non) hG q
  | bl b => exact Rep.noX (F := F) (v := v) (d := .bl b) hG q
  | int i => exact Rep.noX (F := F) (v := v) (d := .int i) hG q
  | str s => exact Rep.noX (F := F) (v := v) (d := .str s) hG q
  | tup xs => exact Rep.noX (F := F) (v := v) (d := .tup xs) hG q
  | scr ns => exact Rep.noX (F := F) (v := v) (d := .scr ns) hG q
  | exc c ns ws => exact Rep.noX (F := F) (v := v) (d := .exc c ns ws) hG q
/-- the slots without what holds an exception -/
def clean (ρ : VEnv) : VEnv := ρ.map fun s => match s with
  | some (m, d) => if noX d then some (m, d) else none
  | none => none
theorem clean_some {i : Nat} {p : Md × D} (h : (clean ρ)[i]? = some (some p)) : ρ[i]? = some (some p) ∧ noX p.2 = true := by
  unfold clean at h
  rw [List.getElem?_map] at h
  cases e : ρ[i]? with
  | none => rw [e] at h; cases h
  | some s =>
    rw [e] at h
    cases s with
    | none =>
      injection h with h
      cases h
    | some q =>
      obtain ⟨m, d⟩ := q
      change some (if noX d then some (m, d) else none) = some (some p) at h
      split at h
      · rename_i hn
        injection h with h
        injection h with h
        subst h
        exact ⟨rfl, hn⟩
      · injection h with h
        cases h
theorem Rl.cool {G G' : Gx} (hK : G'.K = G.K) (hC : G'.cls = G.cls) (R : Rl G B F own σ H ρ) : Rl G' B F own σ H (clean ρ) := by
  refine ⟨by unfold clean; rw [List.length_map]; exact R.len, fun i p e => ?_, R.same, R.fsub, R.f0, R.fnew, R.ownF, R.own0, R.ownH, R.inj⟩
  obtain ⟨h1, h2⟩ := clean_some e
  obtain ⟨v, hv, q⟩ := R.slot i p h1
  refine ⟨v, hv, ?_⟩
  obtain ⟨m, d⟩ := p
  cases m with
  | sh => exact (Rep.cool hK hC h2).mp q
  | ro => exact Red.cool hK hC h2 q
  | ow =>
    obtain ⟨a, o, e1, e2, e3, q⟩ := q
    exact ⟨a, o, e1, e2, e3, q.cool hK hC h2⟩
  | me =>
    obtain ⟨a, o, e1, e2, e4, e3, q⟩ := q
    exact ⟨a, o, e1, e2, e4, e3, q.cool hK hC h2⟩
theorem Rl.heat {G G' : Gx} (hG : G.hot = none) (hK : G'.K = G.K) (hC : G'.cls = G.cls) (R : Rl G B F own σ H ρ) : Rl G' B F own σ H ρ := by
  refine ⟨R.len, fun i p e => ?_, R.same, R.fsub, R.f0, R.fnew, R.ownF, R.own0, R.ownH, R.inj⟩
  obtain ⟨v, hv, q⟩ := R.slot i p e
  refine ⟨v, hv, ?_⟩
  obtain ⟨m, d⟩ := p
  cases m with
  | sh => exact (Rep.cool hK hC (Rep.noX hG q)).mp q
  | ro => exact Red.cool hK hC (Red.noX hG q) q
  | ow =>
    obtain ⟨a, o, e1, e2, e3, q⟩ := q
    exact ⟨a, o, e1, e2, e3, q.cool hK hC (q.noX hG)⟩
  | me =>
    obtain ⟨a, o, e1, e2, e4, e3, q⟩ := q
    exact ⟨a, o, e1, e2, e4, e3, q.cool hK hC (q.noX hG)⟩
/-! ### try -/
/-- which classes a handler takes -/
abbrev Catch := List (Nat × Bool)
/-- a handler's end: it returns what holds no exception -/
def hotEnd : SR → SR
  | .rt (.sh d) ρ => if noX d then .rt (.sh d) (clean ρ) else .bad
  | .rt (.tm d) ρ => if noX d then .rt (.tm d) (clean ρ) else .bad
  | _ => .bad
def sTry (T : Catch) (i : Nat) (b h : SM) : SM := fun ρ => match b ρ with
  | .exc x ρ2 => (match T.lookup x.c with
    | some true => hotEnd (h (ρ2.set i (some (.sh, .exc x.c x.ns x.vs))))
    | some false => .exc x ρ2
    | none => .bad)
  | r => r
abbrev Gx.heat (G : Gx) (a : Addr) (c : Nat) (d : Option Addr) : Gx := { G with hot := some (a, c, d) }
/-- x: its fields hold no exception, as it was made while none was handled -/
theorem vs_try {T : Catch} {i : Nat} {x n : Str} {cv : Value} {body suite : List Stmt} {b₀ : Stmt} {np pos pos' : Pos} {b h : SM} (hG : G.hot = none) (hs : X.stack = X.env :: X.outer) (hf : X.env.frame = some X.env.locals) (hN : X.N.Nodup) (hi : X.N[i]? = some n) (hln : X.env.kindOf n = some .local) (hc : Names X x cv) (tk : L2N.Takes X W)
    (hT : ∀ c t, T.lookup c = some t → PySem.W.exmOne X.K (.ref (G.cls c)) cv = some t)
    (hb : ∀ (W : WX) (pn : List (Addr × Obj)) (xe : Value → Shared → Prop), L2N.Takes (X.tr pn xe) W → PassesOwn (model X.prog X.w) X.A X.env xe → VSs (X.tr pn xe) G W body b)
    (hh : ∀ (a : Addr) (oe : Obj) (c : Nat) (d : Option Addr) (pn : List (Addr × Obj)), L2N.Zn (.ref (G.cls c)) d oe → (∃ vs, oe.data = .fields vs) → VSs (X.suite a ((a, oe) :: pn)) (G.heat a c d) noW (b₀ :: suite) h) :
    VS X G W (.Try body [.ExceptHandler (some (.Name x np)) (some n) (b₀ :: suite) pos'] [] [] pos) (sTry T i b h) := by
  refine ⟨fun B => ps_imp (L2N.ps_try_as (tb := fun W => tS G B W b) (ts := fun a cls d D σ H => ∃ c, cls = .ref (G.cls c) ∧ tS (G.heat a c d) B noW h D σ H) hs hf hN hi hln hc tk (fun W pn xe t p => (hb W pn xe t p).run B)
    (fun a oe cls d pn hz hd => ⟨fun pins s σ H D I q => ?_⟩)) fun E σ H ⟨F, own, ρ, R, P⟩ => ?_⟩
  · obtain ⟨c, rfl, q⟩ := q
    exact ((hh a oe c d pn hz hd).run B).run pins s σ H D I q
  · refine ⟨F, own, ρ, R, ?_⟩
    unfold sTry at P
    cases e : b ρ with
    | nx ρ2 => rw [e] at P; exact P
    | bk ρ2 => rw [e] at P; exact P
    | ct ρ2 => rw [e] at P; exact P
    | rt r ρ2 => rw [e] at P; exact P
    | bad => rw [e] at P; exact P
    | exc y ρ2 =>
      rw [e] at P
      dsimp only at P
      intro cls d σ' H' F' own' sF R' hx
      obtain ⟨rfl, vs, hxd, hrep⟩ := hx
      cases et : T.lookup y.c with
      | none => rw [et] at P; exact P.elim
      | some t =>
        rw [et] at P
        refine ⟨t, hT _ _ et, fun ht a ha => ?_, fun ht => ?_⟩
        · subst ht
          dsimp only at P
          have R2 := R'.heat (G' := G.heat a y.c d) hG rfl rfl
          have rx : Rep (G.heat a y.c d) F' (.exc y.c y.ns y.vs) (.ref a) := by
            unfold Rep
            exact ⟨a, d, vs, rfl, rfl, hxd, (Reps.cool (G := G) (G' := G.heat a y.c d) rfl rfl (Reps.noX hG hrep)).mp hrep⟩
          refine ⟨y.c, rfl, F', clr own' i, _, R2.setSh rx, ?_⟩
          cases er : h (ρ2.set i (some (.sh, .exc y.c y.ns y.vs))) with
          | rt r ρ3 =>
            rw [er] at P
            cases r with
            | sh dd =>
              change PostS G B W F E (if noX dd then .rt (.sh dd) (clean ρ3) else .bad) at P
              split at P
              · rename_i hn
                intro v σ2 H2 F2 own2 s2 R3 q3
                refine P v σ2 H2 F2 own2 (sF.tr s2) (R3.cool (G := G.heat a y.c d) (G' := G) rfl rfl) ((Rep.cool (G := G.heat a y.c d) (G' := G) (F := F2) (v := v) (d := dd) rfl rfl hn).mp q3)
              · exact P.elim
            | tm dd =>
              change PostS G B W F E (if noX dd then .rt (.tm dd) (clean ρ3) else .bad) at P
              split at P
              · rename_i hn
                intro v σ2 H2 F2 own2 s2 R3 q3
                obtain ⟨b, o, e1, e2, e3, e4, e5, q3⟩ := q3
                refine P v σ2 H2 F2 own2 (sF.tr s2) (R3.cool (G := G.heat a y.c d) (G' := G) rfl rfl) ⟨b, o, e1, e2, e3, e4, e5, Own.cool (G := G.heat a y.c d) (G' := G) rfl rfl hn q3⟩
              · exact P.elim
            | pk j => exact P.elim
          | nx ρ3 => rw [er] at P; exact P.elim
          | bk ρ3 => rw [er] at P; exact P.elim
          | ct ρ3 => rw [er] at P; exact P.elim
          | exc z ρ3 => rw [er] at P; exact P.elim
          | bad => rw [er] at P; exact P.elim
        · subst ht
          exact P _ d σ' H' F' own' sF R' ⟨rfl, vs, hxd, hrep⟩
end
end VL

set_option maxHeartbeats 200000
/-! The value layer: the module's names, isinstance, pairs stored, subscripts stored, any, all, min, max, index. -/
namespace VL
open PySem PySem.Spec L2
section
variable {X : Cx} {G : Gx} {B : Bx} {W : WX} {F H Hs : Hp} {own : OwnM} {σ : St} {ρ : VEnv} {E : Ends}
variable {a b c e : Expr} {es : List Expr} {ma mb : M Rv} {x y : Str} {p pos : Pos} {i j : Nat}
theorem ve_gint {z : Int} (hg : Gl X x) (hm : ∃ t, X.mg x = some (.int z t)) (hd : (x == ("__debug__" : Str)) = false) : VE X G W (.Name x pos) (mCst (.int z)) := by
  obtain ⟨t, hm⟩ := hm
  exact ve_cst (pe_glob (v := .int z) hg hm ⟨t, rfl⟩ hd) fun F => rep_int.mpr rfl
theorem ve_gstr {z : List Nat} (hg : Gl X x) (hm : ∃ t, X.mg x = some (.str (toS z) t)) (hd : (x == ("__debug__" : Str)) = false) : VE X G W (.Name x pos) (mCst (.str z)) := by
  obtain ⟨t, hm⟩ := hm
  exact ve_cst (pe_glob (v := .str (toS z)) hg hm ⟨t, rfl⟩ hd) fun F => rep_str.mpr rfl
/-! ### isinstance -/
/-- of which type data are -/
inductive Kd where
  | ty (n : String) | own (c : Nat)
  deriving DecidableEq
def kdD : D → Option Kd
  | .non => some (.ty "NoneType")
  | .bl _ => some (.ty "bool")
  | .int _ => some (.ty "int")
  | .str _ => some (.ty "str")
  | .lst _ => some (.ty "list")
  | .tup _ => some (.ty "tuple")
  | .dic _ _ => some (.ty "dict")
  | .ins c _ _ => some (.own c)
  | _ => none
def Gx.kv (G : Gx) : Kd → Value
  | .ty n => .type n
  | .own c => .ref (G.cls c)
/-- what is known of a class whose instances are asked -/
structure IsiC (K : PySem.W.Frag) (C : Addr) : Prop where
  cl : Cls K C
  ha : PySem.W.findIn K (.ref C) "__class__" = some (some (.builtin "object.__class__"))
  hn : PySem.W.specialIn K (.builtin "object.__class__") "__get__" = some (some (.builtin "getset_descriptor.__get__"))
  ht : PySem.W.takesIn K (.builtin "object.__class__") = some true
  hm : PySem.W.mroIn K C (.type "object") = some true
theorem tyX_of {d : D} {v : V} {kd : Kd} (hK : G.K = X.K) (h : Red G F H d v) (s : Sub F H) (e : kdD d = some kd) (hc : ∀ c, kd = .own c → IsiC X.K (G.cls c)) : TyX X.K H v (G.kv kd) := by
  cases d with
  | non =>
    injection e with e
    subst e
    rw [red_non h]
    exact .base .non
  | bl b =>
    injection e with e
    subst e
    rw [red_bl h]
    exact .base (.bl b)
  | int n =>
    injection e with e
    subst e
    rw [red_int h]
    exact .base (.int n)
  | str z =>
    injection e with e
    subst e
    rw [red_str h]
    exact .base (.str _)
  | lst xs =>
    injection e with e
    subst e
    obtain ⟨q, vs, rfl, hq, r⟩ := h
    exact .base (.lst hq)
  | tup xs =>
    injection e with e
    subst e
    obtain ⟨q, vs, rfl, hq, r⟩ := red_tup h
    rw [hK] at hq
    rcases s.sqT hq with (hq | ⟨o, hq⟩) | ⟨o, its, n, hk, c, _⟩
    · exact .base (.tup hq)
    · exact .fTuple hq
    · exact .kTuple hk c
  | dic ks ws =>
    injection e with e
    subst e
    obtain ⟨q, vs, rfl, hq, r⟩ := h
    rcases hq with ⟨k, hq, _⟩ | ⟨k, hq, _⟩
    · exact .base (.dK hq)
    · exact .base (.dT hq)
  | ins c ns ws =>
    injection e with e
    subst e
    obtain ⟨q, dx, vs, rfl, hq, r⟩ := h
    obtain ⟨h1, h2, h3, h4, h5⟩ := hc c rfl
    exact .base (.ins hq h1 h2 h3 h4 h5)
  | _ => cases e
/-- the answers that are known -/
abbrev IsiT := List (Kd × Bool)
def isiE (T : IsiT) (r : Rv) : M Rv := fun ρ => match (rdR r ρ).bind kdD with
  | some kd => (match T.lookup kd with
    | some t => .ok (.sh (.bl t)) ρ
    | none => .bad)
  | none => .bad
/-- for each kind: the answer, and what its class must be -/
def IsiOk (K : PySem.W.Frag) (G : Gx) (u : Value) (T : IsiT) : Prop := ∀ kd t, T.lookup kd = some t → PySem.W.kitOne K (G.kv kd) u = some t ∧ ∀ c, kd = .own c → IsiC K (G.cls c)
theorem ve_isi {T : IsiT} {u : Value} {cv : V} {p1 : Pos} (hK : G.K = X.K) (hT : IsiOk X.K G u T) (hcv : ClsV cv u) (hg : Gl X "isinstance") (hm : X.mg "isinstance" = none) (ha : VE X G W a ma) (hc : PE X c (tC cv)) (he : starEach [a, c] X.env = (false, eval a X.env) :: starEach [c] X.env) (he2 : starEach [c] X.env = (false, eval c X.env) :: starEach [] X.env)
    (hpl : (backTo pos (starEach [c] X.env)).any (·.1) = false) : VE X G W (.Call (.Name "isinstance" p1) [a, c] [] pos) (ma.bind (isiE T)) := by
  refine ⟨fun B => pe_imp (L2.pe_callB (callAny' X _) hg hm (by rfl) (L2.pa_cons (ha.run B) (L2.pa_cons hc L2.pa_nil he2) he) (by decide) (by decide) he hpl) fun σ H Q ⟨F, own, ρ, R, P⟩ => ?_⟩
  refine step (k := isiE T) Grow.rfl' R P fun r ρ1 v H1 F1 own1 _ g1 _ R1 k1 P1 => ?_
  unfold isiE at P1
  split at P1
  · rename_i kd ek
    split at P1
    · rename_i t et
      cases er : rdR r ρ1 with
      | none => rw [er] at ek; cases ek
      | some d =>
        rw [er] at ek
        obtain ⟨h1, h2⟩ := hT kd t et
        exact ⟨_, call_isi, v, cv, _, u, t, rfl, hcv, tyX_of hK (k1.red R1 er) R1.fsub ek h2, h1, P1 _ H1 F1 own1 g1 R1 (show Rep G F1 (.bl t) (.bl t) from rep_bl.mpr rfl)⟩
    · exact P1.elim
  · exact P1.elim
/-! ### a, b = x, y -/
def sTwo (i j : Nat) (ms : M (List Rv)) : SM := thenS ms fun rs ρ => match rs with
  | [.sh d1, .sh d2] => .nx ((ρ.set i (some (.sh, d1))).set j (some (.sh, d2)))
  | [.tm d1, .sh d2] => .nx ((ρ.set i (some (.ow, d1))).set j (some (.sh, d2)))
  | [.sh d1, .tm d2] => .nx ((ρ.set i (some (.sh, d1))).set j (some (.ow, d2)))
  | _ => .bad
theorem vs_two {ms : M (List Rv)} {px py pt : Pos} {kt k2 : Nat} {pt2 : Pos} (hc : X.calm = true) (hN : X.N.Nodup) (hi : X.N[i]? = some x) (hj : X.N[j]? = some y) (hij : i ≠ j) (hx : X.env.scope.names.lookup x = some .local) (hy : X.env.scope.names.lookup y = some .local) (ha : VA X G W [a, b] ms)
    (hw : swappedStores [.Tuple [.Name x px, .Name y py] kt pt] (.Tuple [a, b] k2 pt2) X.env = pure (some [x, y])) (hs : swapsWithSole [.Tuple [.Name x px, .Name y py] kt pt] (.Tuple [a, b] k2 pt2) pos.line X.env = pure false) :
    VS X G W (.Assign [.Tuple [.Name x px, .Name y py] kt pt] (.Tuple [a, b] k2 pt2) pos) (sTwo i j ms) := by
  refine ⟨fun B => ps_imp (ps_par hc hN hi hj hij hx hy (ha.run B) hw hs) fun E σ H ⟨F, own, ρ, R, P⟩ => ?_⟩
  refine stepS R P fun rs ρ2 vs H2 F2 own2 _ g R2 k P2 => ?_
  match rs, k, P2 with
  | [], k, P2 => exact P2.elim
  | [r], k, P2 => cases r <;> exact P2.elim
  | r1 :: r2 :: r3 :: rs, k, P2 => cases r1 <;> cases r2 <;> exact P2.elim
  | [r1, r2], k, P2 =>
    obtain ⟨v, ws, rfl, k1, w, zs, rfl, k2, rfl⟩ := k
    refine ⟨v, w, rfl, ?_⟩
    cases r1 with
    | sh d1 =>
      have R3 := R2.setSh (i := i) k1
      cases r2 with
      | sh d2 => exact P2 _ H2 F2 _ Sub.rfl' (R3.setSh k2)
      | tm d2 =>
        obtain ⟨q, o, rfl, h1, h2, h3, h4, h5⟩ := k2
        exact P2 _ H2 F2 _ Sub.rfl' (R3.setOw h1 h2 h3.2 (fun m z => h4 m (clr_some z).1) h5)
      | pk n => exact P2.elim
    | tm d1 =>
      cases r2 with
      | sh d2 =>
        obtain ⟨q, o, rfl, h1, h2, h3, h4, h5⟩ := k1
        exact P2 _ H2 F2 _ Sub.rfl' ((R2.setOw (i := i) h1 h2 h3.2 h4 h5).setSh k2)
      | tm d2 => exact P2.elim
      | pk n => exact P2.elim
    | pk n => cases r2 <;> exact P2.elim
/-! ### name[k] = value -/
def setAny (X : Cx) : TSet := fun o i v H Q => ∃ r, PSet X r ∧ r o i v H Q
theorem setAny' (X : Cx) : PSet X (setAny X) := by
  intro pins s σ H o i v ov iv u Q I ro ri rv ⟨r, h, q⟩
  exact h pins s σ H o i v ov iv u Q I ro ri rv q
/-- g: what the object is behind the store -/
def StN (X : Cx) (G : Gx) (g : D → D → D → Option D) : Prop :=
  ∀ {F H : Hp} {q : Addr} {ob : HO} {d kd vd d' : D} {kv v : V} {Q : Hp → Prop}, H q = some ob → Own G F ob d → Sub F H → Red G F H kd kv → Rep G F vd v → g d kd vd = some d' → (∀ ob', Own G F ob' d' → Q (upd H q ob')) → setAny X (.ref q) kv v H Q
def storeE (g : D → D → D → Option D) (i : Nat) (vd : D) (r : Rv) : SM := fun ρ => match ρ[i]?, rdR r ρ with
  | some (some (m, d)), some kd => if m = .ow ∨ m = .me then (match g d kd vd with
      | some d' => .nx (ρ.set i (some (m, d')))
      | none => .bad)
    else .bad
  | _, _ => .bad
def sStore (g : D → D → D → Option D) (i : Nat) (md : M D) (mk : M Rv) : SM := thenS md fun vd ρ => match ρ[i]? with
  | some (some _) => thenS mk (storeE g i vd) ρ
  | _ => .bad
theorem vs_store {g : D → D → D → Option D} {value k : Expr} {md : M D} {mk : M Rv} {sp : Pos} (n : StN X G g) (hN : X.N[i]? = some x) (hv : Vis X.env.scope x) (hd : (x == ("__debug__" : Str)) = false) (hcd : (x == ("__classdict__" : Str)) = false) (hk : VE X G W k mk) (he : VV X G W value md)
    (ha : ∀ v, assign (.Subscript (.Name x p) k sp) X.env v = (do
      let ov ← holding [v] (eval (.Name x p) X.env)
      let iv ← holding [v, ov] (eval k X.env)
      standAt sp
      holding [v, ov, iv] (setItem ov iv v)
      release [v, ov, iv] []))
    (hs : swapsWithSole [.Subscript (.Name x p) k sp] value pos.line X.env = pure false) (hw : swappedStores [.Subscript (.Name x p) k sp] value X.env = pure none) (h1 : (assignEach [.Subscript (.Name x p) k sp] X.env).map (·.2) = [assign (.Subscript (.Name x p) k sp) X.env]) :
    VS X G W (.Assign [.Subscript (.Name x p) k sp] value pos) (sStore g i md mk) := by
  refine ⟨fun B => ps_imp (ps_asg (he.run B) (pg_sub (pe_var hN hv hd hcd) (hk.run B) (setAny' X) ha) hs hw h1) fun E σ H ⟨F, own, ρ, R, P⟩ => ?_⟩
  refine stepS R P fun vd ρ2 v H2 F2 own2 _ g2 R2 kv P2 => ?_
  have kv : Rep G F2 vd v := kv
  split at P2
  · rename_i q0 e0
    obtain ⟨u, hu, _⟩ := R2.slot i _ e0
    refine ⟨u, hu, stepS R2 P2 fun r ρ3 kw H3 F3 own3 _ g3 R3 kk P3 => ?_⟩
    unfold storeE at P3
    split at P3
    · rename_i m d kd e1 e2
      split at P3
      · rename_i hm
        split at P3
        · rename_i d' e3
          obtain ⟨w, hw, q⟩ := R3.slot i _ e1
          rw [hu] at hw
          injection hw with hw
          injection hw with hw
          subst hw
          have key : ∃ a ob, u = .ref a ∧ own3 i = some a ∧ H3 a = some ob ∧ Own G F3 ob d := by
            rcases hm with rfl | rfl
            · obtain ⟨a, ob, e1, e2, e3, q⟩ := q
              exact ⟨a, ob, e1, e2, e3, q⟩
            · obtain ⟨a, ob, e1, e2, _, e3, q⟩ := q
              exact ⟨a, ob, e1, e2, e3, q⟩
          obtain ⟨a, ob, rfl, ho, hob, hq⟩ := key
          refine n hob hq R3.fsub (kk.red R3 e2) (Rep.mono g3.frz kv) e3 fun ob' hq' => ?_
          obtain ⟨R4, g4⟩ := R3.write (o := ob) hm e1 hu hq' ho
          exact P3 σ _ F3 own3 Sub.rfl' R4
        · exact P3.elim
      · exact P3.elim
    · exact P3.elim
  · exact P2.elim
def setLD : D → D → D → Option D
  | .lst xs, .int k, v => (ixN xs.length k).map fun j => .lst (xs.set j v)
  | _, _, _ => none
theorem setL_ok : StN X G setLD := by
  intro F H q ob d kd vd d' kv v Q hq ho s hk hv e f
  unfold setLD at e
  split at e
  · rename_i xs k
    obtain ⟨vs, rfl, r⟩ := ho
    cases ej : ixN xs.length k with
    | none => rw [ej] at e; cases e
    | some j =>
      rw [ej] at e
      injection e with e
      subst e
      exact ⟨_, set_list, q, vs, k, j, rfl, red_int hk, hq, by rw [← r.len]; exact ej, f _ ⟨_, rfl, r.set j hv⟩⟩
  · cases e
/-! ### any, all, min, max -/
def blsOf : List D → Option (List Bool)
  | [] => some []
  | .bl b :: ds => (blsOf ds).map (b :: ·)
  | _ => none
theorem blsOf_eq : ∀ {ds : List D} {bs : List Bool}, blsOf ds = some bs → ds = bs.map D.bl
  | [], bs, e => by injection e with e; subst e; rfl
  | .bl b :: ds, bs, e => by
    change (blsOf ds).map (b :: ·) = some bs at e
    cases q : blsOf ds with
    | none => rw [q] at e; cases e
    | some ms =>
      rw [q] at e
      injection e with e
      subst e
      rw [blsOf_eq q]
      rfl
  | .non :: ds, bs, e => by cases e
  | .int _ :: ds, bs, e => by cases e
  | .str _ :: ds, bs, e => by cases e
  | .lst _ :: ds, bs, e => by cases e
  | .tup _ :: ds, bs, e => by cases e
  | .scr _ :: ds, bs, e => by cases e
  | .dic _ _ :: ds, bs, e => by cases e
  | .ins _ _ _ :: ds, bs, e => by cases e
  | .exc _ _ _ :: ds, bs, e => by cases e
theorem blsOf_map : ∀ bs : List Bool, blsOf (bs.map D.bl) = some bs
  | [] => rfl
  | b :: bs => by
    show (blsOf (bs.map D.bl)).map (b :: ·) = _
    rw [blsOf_map bs]
    rfl
theorem Reps.bls : ∀ {bs : List Bool} {vs : List V}, Reps G F (bs.map D.bl) vs → vs = bs.map V.bl
  | [], vs, h => reps_nil.mp h
  | b :: bs, [], h => by have := h.len; simp at this
  | b :: bs, v :: vs, h => by
    have h := reps_cons.mp h
    rw [rep_bl.mp h.1, Reps.bls h.2]
    rfl
def anyD : List D → Option Rv
  | [.lst xs] => (blsOf xs).map fun bs => .sh (.bl (bs.any id))
  | _ => none
theorem any_ok (hc : X.calm = true) : CallN X G (.builtin "any") anyD := by
  intro B F own σ H ρ vs ds rv Q R h e f
  unfold anyD at e
  split at e
  · rename_i xs
    cases q : blsOf xs with
    | none => rw [q] at e; cases e
    | some bs =>
      rw [q] at e
      injection e with e
      subst e
      obtain ⟨v, rfl, p, ws, rfl, hq, r⟩ := reds1 h
      rw [blsOf_eq q] at r
      have := r.bls
      subst this
      exact ⟨_, cr_any hc, p, bs, rfl, SqL.of hq, f.val R (rep_bl.mpr rfl)⟩
  · cases e
def allD : List D → Option Rv
  | [.lst xs] => (blsOf xs).map fun bs => .sh (.bl (bs.all id))
  | _ => none
theorem all_ok (hc : X.calm = true) : CallN X G (.builtin "all") allD := by
  intro B F own σ H ρ vs ds rv Q R h e f
  unfold allD at e
  split at e
  · rename_i xs
    cases q : blsOf xs with
    | none => rw [q] at e; cases e
    | some bs =>
      rw [q] at e
      injection e with e
      subst e
      obtain ⟨v, rfl, p, ws, rfl, hq, r⟩ := reds1 h
      rw [blsOf_eq q] at r
      have := r.bls
      subst this
      exact ⟨_, cr_all hc, p, bs, rfl, SqL.of hq, f.val R (rep_bl.mpr rfl)⟩
  · cases e
def minI : Int → List Int → Int
  | m, [] => m
  | m, n :: ns => minI (if n < m then n else m) ns
def maxI : Int → List Int → Int
  | m, [] => m
  | m, n :: ns => maxI (if m < n then n else m) ns
theorem minI_mem : ∀ (ns : List Int) (m : Int), minI m ns = m ∨ minI m ns ∈ ns
  | [], m => .inl rfl
  | n :: ns, m => by
    rw [minI]
    rcases minI_mem ns (if n < m then n else m) with h | h
    · rw [h]
      split
      · exact .inr (by simp)
      · exact .inl rfl
    · exact .inr (List.mem_cons_of_mem _ h)
theorem minI_le : ∀ (ns : List Int) (m : Int), minI m ns ≤ m ∧ ∀ y ∈ ns, minI m ns ≤ y
  | [], m => ⟨Int.le_refl _, fun _ h => by cases h⟩
  | n :: ns, m => by
    rw [minI]
    obtain ⟨h1, h2⟩ := minI_le ns (if n < m then n else m)
    have h3 : (if n < m then n else m) ≤ m ∧ (if n < m then n else m) ≤ n := by split <;> omega
    refine ⟨Int.le_trans h1 h3.1, fun y hy => ?_⟩
    rcases List.mem_cons.mp hy with rfl | hy
    · exact Int.le_trans h1 h3.2
    · exact h2 y hy
theorem maxI_mem : ∀ (ns : List Int) (m : Int), maxI m ns = m ∨ maxI m ns ∈ ns
  | [], m => .inl rfl
  | n :: ns, m => by
    rw [maxI]
    rcases maxI_mem ns (if m < n then n else m) with h | h
    · rw [h]
      split
      · exact .inr (by simp)
      · exact .inl rfl
    · exact .inr (List.mem_cons_of_mem _ h)
theorem maxI_le : ∀ (ns : List Int) (m : Int), m ≤ maxI m ns ∧ ∀ y ∈ ns, y ≤ maxI m ns
  | [], m => ⟨Int.le_refl _, fun _ h => by cases h⟩
  | n :: ns, m => by
    rw [maxI]
    obtain ⟨h1, h2⟩ := maxI_le ns (if m < n then n else m)
    have h3 : m ≤ (if m < n then n else m) ∧ n ≤ (if m < n then n else m) := by split <;> omega
    refine ⟨Int.le_trans h3.1 h1, fun y hy => ?_⟩
    rcases List.mem_cons.mp hy with rfl | hy
    · exact Int.le_trans h3.2 h1
    · exact h2 y hy
theorem one_least {ns : List Int} {m k : Int} (hm : m ∈ ns) (hl : ∀ y, y ∈ ns → m ≤ y) (hk : k ∈ ns) (h : ∀ y ∈ ns, k ≤ y) : m = k := Int.le_antisymm (hl k hk) (h m hm)
def minD : List D → Option Rv
  | [.lst xs] => (match intsOf xs with
    | some (n :: ns) => some (.sh (.int (minI n ns)))
    | _ => none)
  | [.int i, .int j] => some (.sh (.int (if j < i then j else i)))
  | _ => none
theorem min_ok (hc : X.calm = true) : CallN X G (.builtin "min") minD := by
  intro B F own σ H ρ vs ds rv Q R h e f
  unfold minD at e
  split at e
  · rename_i xs
    split at e
    · rename_i n ns q
      injection e with e
      subst e
      obtain ⟨v, rfl, p, ws, rfl, hq, r⟩ := reds1 h
      rw [intsOf_eq q] at r
      have : ws = (n :: ns).map V.int := Reps.ints.mp r
      subst this
      refine ⟨_, cr_min hc, p, n :: ns, rfl, SqL.of hq, by simp, fun m hm hl => ?_⟩
      have hmem : minI n ns ∈ n :: ns := by
        rcases minI_mem ns n with z | z
        · rw [z]
          simp
        · exact List.mem_cons_of_mem _ z
      have e2 : m = minI n ns := one_least hm hl hmem fun y hy => by
        rcases List.mem_cons.mp hy with rfl | hy
        · exact (minI_le ns y).1
        · exact (minI_le ns n).2 y hy
      rw [e2]
      exact f.val R (rep_int.mpr rfl)
    · cases e
  · rename_i i j
    injection e with e
    subst e
    obtain ⟨v, w, rfl, r1, r2⟩ := reds2 h
    exact ⟨_, call_min2 hc, i, j, by rw [red_int r1, red_int r2], f.val R (rep_int.mpr rfl)⟩
  · cases e
def maxD : List D → Option Rv
  | [.lst xs] => (match intsOf xs with
    | some (n :: ns) => some (.sh (.int (maxI n ns)))
    | _ => none)
  | [.int i, .int j] => some (.sh (.int (if j > i then j else i)))
  | _ => none
theorem max_ok (hc : X.calm = true) : CallN X G (.builtin "max") maxD := by
  intro B F own σ H ρ vs ds rv Q R h e f
  unfold maxD at e
  split at e
  · rename_i xs
    split at e
    · rename_i n ns q
      injection e with e
      subst e
      obtain ⟨v, rfl, p, ws, rfl, hq, r⟩ := reds1 h
      rw [intsOf_eq q] at r
      have : ws = (n :: ns).map V.int := Reps.ints.mp r
      subst this
      refine ⟨_, cr_max hc, p, n :: ns, rfl, SqL.of hq, by simp, fun m hm hl => ?_⟩
      have hmem : maxI n ns ∈ n :: ns := by
        rcases maxI_mem ns n with z | z
        · rw [z]
          simp
        · exact List.mem_cons_of_mem _ z
      have e2 : m = maxI n ns := Int.le_antisymm ((fun y hy => by
        rcases List.mem_cons.mp hy with rfl | hy
        · exact (maxI_le ns y).1
        · exact (maxI_le ns n).2 y hy : ∀ y ∈ n :: ns, y ≤ maxI n ns) m hm) (hl _ hmem)
      rw [e2]
      exact f.val R (rep_int.mpr rfl)
    · cases e
  · rename_i i j
    injection e with e
    subst e
    obtain ⟨v, w, rfl, r1, r2⟩ := reds2 h
    exact ⟨_, call_max2 hc, i, j, by rw [red_int r1, red_int r2], f.val R (rep_int.mpr rfl)⟩
  · cases e
/-! ### list.index of flat data -/
def flatD : D → Option V
  | .non => some .non
  | .bl b => some (.bl b)
  | .int i => some (.int i)
  | .str s => some (.str (toS s))
  | _ => none
theorem flatD_ok {d : D} {v w : V} (h : flatD d = some w) (r : Rep G F d v) : v = w ∧ flatV w = true := by
  cases d with
  | non => injection h with h; subst h; exact ⟨rep_non.mp r, rfl⟩
  | bl b => injection h with h; subst h; exact ⟨rep_bl.mp r, rfl⟩
  | int i => injection h with h; subst h; exact ⟨rep_int.mp r, rfl⟩
  | str s => injection h with h; subst h; exact ⟨rep_str.mp r, rfl⟩
  | _ => cases h
def flatsD : List D → Option (List V)
  | [] => some []
  | d :: ds => match flatD d, flatsD ds with
    | some v, some vs => some (v :: vs)
    | _, _ => none
theorem flatsD_ok : ∀ {ds : List D} {vs ws : List V}, flatsD ds = some ws → Reps G F ds vs → vs = ws ∧ ws.all flatV = true
  | [], vs, ws, h, r => by
    injection h with h
    subst h
    exact ⟨reps_nil.mp r, rfl⟩
  | d :: ds, [], ws, h, r => by have := r.len; simp at this
  | d :: ds, v :: vs, ws, h, r => by
    change (match flatD d, flatsD ds with
      | some v, some vs => some (v :: vs)
      | _, _ => none) = some ws at h
    split at h
    · rename_i w zs e1 e2
      injection h with h
      subst h
      have r := reps_cons.mp r
      obtain ⟨h1, h2⟩ := flatD_ok e1 r.1
      obtain ⟨h3, h4⟩ := flatsD_ok e2 r.2
      subst h1 h3
      exact ⟨rfl, by rw [List.all_cons, h2, h4]; rfl⟩
    · cases h
/-- the place of the first one that is equal -/
def firstV (y : V) : List V → Nat → Option Nat
  | [], _ => none
  | z :: zs, n => if eqV z y = true then some n else firstV y zs (n + 1)
theorem firstV_ok {y : V} : ∀ {zs : List V} {n j : Nat}, firstV y zs n = some j → ∃ k, j = n + k ∧ (∃ z, zs[k]? = some z ∧ eqV z y = true) ∧ ∀ (m : Nat) (z' : V), m < k → zs[m]? = some z' → eqV z' y = false
  | [], n, j, h => by cases h
  | z :: zs, n, j, h => by
    rw [firstV] at h
    split at h
    · rename_i he
      injection h with h
      exact ⟨0, by omega, ⟨z, rfl, he⟩, fun m z' hm => by omega⟩
    · rename_i he
      obtain ⟨k, e, ⟨w, hw, he2⟩, hf⟩ := firstV_ok h
      refine ⟨k + 1, by omega, ⟨w, by simpa using hw, he2⟩, fun m z' hm hz => ?_⟩
      cases m with
      | zero =>
        simp at hz
        subst hz
        simpa using he
      | succ m => exact hf m z' (by omega) (by simpa using hz)
def lindexD : D → List D → Option Rv
  | .lst xs, [d] => (match flatsD xs, flatD d with
    | some vs, some v => (firstV v vs 0).map fun j => .sh (.int (j : Nat))
    | _, _ => none)
  | _, _ => none
theorem red_flat {d : D} {v w : V} (h : flatD d = some w) (r : Red G F H d v) : v = w ∧ flatV w = true := by
  cases d with
  | non => injection h with h; subst h; exact ⟨red_non r, rfl⟩
  | bl b => injection h with h; subst h; exact ⟨red_bl r, rfl⟩
  | int i => injection h with h; subst h; exact ⟨red_int r, rfl⟩
  | str s => injection h with h; subst h; exact ⟨red_str r, rfl⟩
  | _ => cases h
theorem lindex_ok : MtN X G "list.index" lindexD := by
  intro B F own σ H ρ v d vs ds rv Q R h hs e f
  unfold lindexD at e
  split at e
  · rename_i xs y
    split at e
    · rename_i ws w e1 e2
      cases ej : firstV w ws 0 with
      | none => rw [ej] at e; cases e
      | some j =>
        rw [ej] at e
        injection e with e
        subst e
        obtain ⟨u, rfl, r1⟩ := reds1 hs
        obtain ⟨p, zs, rfl, hq, r⟩ := h
        obtain ⟨h1, h2⟩ := flatsD_ok e1 r
        obtain ⟨h3, h4⟩ := red_flat e2 r1
        subst h1 h3
        obtain ⟨k, ek, ⟨z, hz, he⟩, hf⟩ := firstV_ok ej
        have ek : j = k := by omega
        subst ek
        exact ⟨_, mt_index, p, zs, u, j, z, rfl, rfl, SqL.of hq, h4, h2, hz, he, hf, f.val R (rep_int.mpr rfl)⟩
    · cases e
  · cases e
end
end VL

set_option maxHeartbeats 200000
/-! The value layer: where an exception is handled. -/
namespace VL
open PySem PySem.Spec L2
open PyProof.Rows (envOfC)
/-- the exception that is handled, as the context bears it -/
structure HotG (X : Cx) (G : Gx) : Prop where
  ex : ∃ a oe c d, G.hot = some (a, c, d) ∧ (a, oe) ∈ X.pn ∧ L2N.Zn (.ref (G.cls c)) d oe ∧ (∃ vs, oe.data = .fields vs) ∧ X.A.handled = some (.ref a)
theorem zn_none {cls : Value} {d : Option Addr} {oe : Obj} {vs : Array Value} (z : L2N.Zn cls d oe) (h : oe.data = .fields vs) : vs[2]? = some .none := z.2.2 vs h
theorem HotG.hotC {X : Cx} {G : Gx} (h : HotG X G) : L2H.HotC X := by
  obtain ⟨a, oe, c, d, _, h2, h3, ⟨vs, h4⟩, h5⟩ := h.ex
  exact ⟨(a, oe), ⟨h5, vs, h4, zn_none h3 h4⟩, h2⟩
/-- a def's promise where an exception is handled -/
structure FnX (P : Program) (w : World) (K : PySem.W.Frag) (mg : Str → Option Value) (base : Heap) (G : Gx) (k : Nat) (f : Addr) (fd : FuncData) (ps : List Str) (sp : Sp) : Prop where
  len : ∀ vs H Q E, sp vs H Q E → vs.length = ps.length
  run : ∀ (A : Around) (outer : List Env) (s : Shared) (H : Hp) (args : Args) (us : List Value) (vs : List V) (Q : VK) (E : XK) (a : Addr) (oe : Obj) (c : Nat) (d : Option Addr), G.hot = some (a, c, d) → L2N.Zn (.ref (G.cls c)) d oe → (∃ vs, oe.data = .fields vs) → A.handled = some (.ref a) → L2H.RoomH k A → L2H.PinOk outer H s (a, oe) →
    Env0 P w K mg base A outer s H → BindsTo s fd args (ps.zip us) → Vals vs us → sp vs H Q E → codeAny (model P w) A (.call (.ref f) args) (CR (L2N.CX P w) outer P w H s Q E) s
section
variable {G : Gx} {P : Program} {w : World} {K : PySem.W.Frag} {mg : Str → Option Value} {base : Heap} {N ps : List Str}
theorem fn_vlX {x qual : Str} {params : Arguments} {body : List Stmt} {scope : Scope} {dvs : List V} {kws : List (Str × V)} {f : Addr} {fd : FuncData} {k : Nat} {m : SM} (Fd : FunD K x qual params body scope dvs kws f fd) (S : FnScope N ps scope)
    (hb : ∀ (cdv : Value) (A : Around) (outer : List Env) (s : Shared) (H : Hp) (E : XK) (p : Addr × Obj), HotG (L2H.cxH (L2N.CX P w) P w K mg base N qual scope f cdv A outer s H E p) G → L2H.RoomH k (A.deeper (envOfC qual scope s.heap.objs.size f cdv)) → L2N.Takes (L2H.cxH (L2N.CX P w) P w K mg base N qual scope f cdv A outer s H E p) (fun cls d _ H => E cls d H) →
      PassesOwn (model P w) (A.deeper (envOfC qual scope s.heap.objs.size f cdv)) (envOfC qual scope s.heap.objs.size f cdv) (L2H.cxH (L2N.CX P w) P w K mg base N qual scope f cdv A outer s H E p).xe →
      VSs (L2H.cxH (L2N.CX P w) P w K mg base N qual scope f cdv A outer s H E p) G (fun cls d _ H => E cls d H) body m) :
    FnX P w K mg base G (k + 1) f fd ps (spG G ps.length (runB N.length m)) := by
  obtain ⟨oc, od, dV, kV, doc, pm, an, cdv, ct, osl, rfl, lk, hcd, _, _⟩ := Fd.ex
  refine ⟨fun vs H Q E h => h.1, fun A outer s H args us vs Q E a oe c d hG hz hd hh hr pin e0 hbind r hsp => ?_⟩
  have kin : K.In s.heap := e0.mod.kin.keeps fun x y z => (e0.bs x y z).1
  have nl : s.heap.NoLimit := e0.mod.nolimit.keeps fun x y z => (e0.bs x y z).1
  have kinds : ∀ y ∈ ps.zip us, scope.names.lookup y.1 = some .local ∨ (scope.names.lookup y.1 = some .cell ∧ ((cellsFrom (s.heap.objs.size + 1) scope.names []).lookup y.1).isSome = true) := by
    rintro ⟨n, v⟩ hy
    have hn := S.par n (List.of_mem_zip hy).1
    exact hn.imp id fun q => ⟨q, PySem.W.cellsFrom_some _ _ _ (.inl q)⟩
  refine codeAny_call_function hr.depth (kin _ _ lk) rfl S.co S.gen rfl (PySem.W.codeRec_of kin hcd) (hbind _ _ _ _ (wpAny_newFunctionEnv_cells S.kind kinds ?_))
  intro env he s1 x
  subst he
  refine ⟨nl.keeps x.toInCall.keep, codeAny_func ?_⟩
  have hcopy := hsp
  obtain ⟨hl, Fz, me, as, sF, ka, PD⟩ := hsp
  have Iv := L2H.inv_startH (CX := L2N.CX P w) (qual := qual) (f := f) (cd := cdv) (E := E) S pin e0 hl r x
  have hot : HotG (L2H.cxH (L2N.CX P w) P w K mg base N qual scope f cdv A outer s H E (a, oe)) G := ⟨a, oe, c, d, hG, by show (a, oe) ∈ [(a, oe)]; simp, hz, hd, hh⟩
  have body1 := (hb cdv A outer s H E (a, oe) hot (hr.deeper _) (L2N.takes_of (E₁ := fun e' s'' => L2N.CX P w outer H s E e' s'') rfl rfl rfl rfl) PassesOwn.leaving).run ⟨les H me, Fz, me⟩
  have pure1 : tS G ⟨les H me, Fz, me⟩ (fun cls d _ H => E cls d H) m { nx := fun _ H' => Q .non H', rt := Q } (L2.start N vs) H := by
    refine ⟨Fz, own0 me, slots N.length as, start_rl sF ka, ?_⟩
    unfold runB at PD
    cases e : m (slots N.length as) with
    | nx ρ =>
      rw [e] at PD
      exact fun σ' H' F' own' s' R => end_ok (r := .sh .non) sF ka PD s' R (show Rep G F' .non .non from rep_non.mpr rfl)
    | rt r ρ =>
      rw [e] at PD
      exact fun v σ' H' F' own' s' R q => end_ok sF ka PD s' R q
    | exc x ρ =>
      rw [e] at PD
      exact fun cls d σ' H' F' own' _ R q => PD cls d F' H' ⟨R.f0, R.fsub, R.same, R.fnew⟩ q
    | bk ρ => rw [e] at PD; exact PD.elim
    | ct ρ => rw [e] at PD; exact PD.elim
    | bad => rw [e] at PD; exact PD.elim
  refine wpAny_mono (body1.run [] s1 (L2.start N vs) H _ Iv pure1) (fun fl s' hs => ?_) fun _ _ z => z
  cases fl with
  | ret u =>
    obtain ⟨v, σ', H', J, rv, q⟩ := hs
    exact ⟨v, H', J.os, J.bare, J.base, J.hok, rv, q⟩
  | next =>
    obtain ⟨σ', H', J, q⟩ := hs
    exact ⟨V.non, H', J.os, J.bare, J.base, J.hok, rfl, q⟩
  | brk => exact hs.elim fun _ z => z.elim fun _ z => z.2.elim
  | cont => exact hs.elim fun _ z => z.elim fun _ z => z.2.elim
/-- the def that the name x stands for, called where an exception is handled -/
structure UX (P : Program) (w : World) (K : PySem.W.Frag) (mg : Str → Option Value) (base : Heap) (G : Gx) (k : Nat) (x : Str) (n : Nat) (dd : List D) (run : List Arg → DR) : Prop where
  ex : ∃ f fd ps dvs ds, FnX P w K mg base G k f fd ps (spG G n run) ∧ mg x = some (.ref f) ∧ PySem.W.keepIn K (.ref f) = true ∧ Binds K fd ps ds ∧ Vals dvs ds ∧ ∀ F, Reps G F dd dvs
end
section
variable {X : Cx} {G : Gx} {B : Bx} {W : WX} {F H Hs : Hp} {own : OwnM} {σ : St} {ρ : VEnv}
variable {k : Nat} {x m f : Str} {n c i : Nat} {dd : List D} {run : List Arg → DR} {p pos apos : Pos} {a e o : Expr} {es : List Expr} {ma : M Rv} {ms : M (List Rv)}
theorem run_X {f : Addr} {fd : FuncData} {ps : List Str} {sp : Sp} {dvs : List V} {ds : List Value} {E : XK} {pins : List (Addr × Obj)} {s : Shared} {Q : VK} {us : List Value} {vs : List V} (Fn : FnX X.prog X.w X.K X.mg X.base G k f fd ps sp) (hot : HotG X G) (hr : L2H.RoomH k X.A) (hb : Binds X.K fd ps ds)
    (hd : Vals dvs ds) (hx : ∀ (e : Value) (s' : Shared), L2N.CX X.prog X.w X.stack H s E e s' → X.xe e s') (I : Inv X pins σ H s) (r : Vals vs us) (h : sp (vs ++ dvs) H Q E) : wpAny (model X.prog X.w) X.A (call (.ref f) us) (EP X pins σ Q) X.xe s := by
  obtain ⟨a, oe, c, d, h1, h2, h3, h4, h5⟩ := hot.ex
  have rall := r.append hd
  have hlen : (us ++ ds).length = ps.length := rall.length.symm.trans (Fn.len _ _ _ _ h)
  have q := I.pin (a, oe) (List.mem_append_left _ h2)
  have pin : L2H.PinOk X.stack H s (a, oe) := ⟨q.1, q.2.1, fun z => (List.mem_cons.mp (I.stkSub a z)).elim q.2.2.1 q.2.2.2.1, q.2.2.2.2⟩
  have run := Fn.run X.A X.stack s H ⟨us, []⟩ (us ++ ds) (vs ++ dvs) Q E a oe c d h1 h3 h4 h5 hr pin I.env0 (hb s us I.kIn hlen) rall h
  refine wpAny_call (codeAny_mono run fun res s' hres => ?_)
  rcases res with err | fl
  case error => exact hx err s' hres
  case ok =>
    cases fl <;> first
      | exact I.after hres
      | exact hres.elim
theorem ve_callX (U : UX X.prog X.w X.K X.mg X.base G k x n dd run) (hot : HotG X G) (hr : L2H.RoomH k X.A) (tk : L2N.Takes X W) (hg : Gl X x) (ha : VA X G W (e :: es) ms) (hdb : (x == ("__debug__" : Str)) = false) (he : starEach (e :: es) X.env = (false, eval e X.env) :: starEach es X.env) (hpl : (backTo pos (starEach es X.env)).any (·.1) = false) :
    VE X G W (.Call (.Name x p) (e :: es) [] pos) (mUser run n dd ms) := by
  obtain ⟨f, fd, ps, dvs, ds, Fn, gm, kp, hb, hd, hD⟩ := U.ex
  refine ⟨fun B => ⟨fun pins s σ H Q I ⟨F, own, ρ, R, P⟩ => ?_⟩⟩
  refine wpAny_Call_Name_kw (ld_glob I hg gm ?_ hdb)
  have hA := (ha.run B).run pos pins s σ H _ I (step (k := callE none run n dd) Grow.rfl' R P fun rs ρ1 vs H1 F1 own1 _ g1 _ R1 k1 P1 => user_go R1 k1 g1.back g1 (fun _ h => h) hD P1)
  exact PySem.W.callWith_K (h₀ := X.base) I.ok.mod.kin kp (thn hA fun us s1 ⟨vs, H1, I1, r, q⟩ => ⟨I1.kIn, run_X Fn hot hr hb hd (tk_at tk I1) I1 r q⟩) he hpl
/-! ### what the handled exception is -/
structure XcC (K : PySem.W.Frag) (D : Addr) : Prop where
  cl : (PySem.W.clsIn K D).isSome = true
  hg : PySem.W.findIn K (.ref D) "__getattribute__" = some (some (.builtin "BaseException.__getattribute__"))
  hk : PySem.W.findIn K (.ref D) "__getattr__" = some none
  hs : PySem.W.subIn K (.ref D) (.type "BaseException") = some true
  hd : PySem.W.hasDictIn K D = true
  ha : PySem.W.findIn K (.ref D) "__class__" = some (some (.builtin "object.__class__"))
  hn : PySem.W.specialIn K (.builtin "object.__class__") "__get__" = some (some (.builtin "getset_descriptor.__get__"))
  ht : PySem.W.takesIn K (.builtin "object.__class__") = some true
  hm : PySem.W.mroIn K D (.type "object") = some true
/-- it lies in the heap as an instance -/
theorem inst_hot {F' : Hp} {pins : List (Addr × Obj)} {s : Shared} {c : Nat} {ns : List Str} {ws : List D} {v : V} (hot : HotG X G) (I : Inv X pins σ H s) (hF : Sub F' H) (r : Rep G F' (.exc c ns ws) v) :
    ∃ (a : Addr) (oe : Obj) (od : Option Obj) (vs : List V), v = .ref a ∧ PySem.W.InstAt s.heap a oe (G.cls c) od ∧ Reps G F' ws vs ∧ ((od = none ∧ ns = []) ∨ ∃ (dd : Addr) (o : Obj) (mA : Str → Option Value), od = some o ∧ s.heap.get? dd = some o ∧ s.heap.Ns1 dd mA ∧ ∀ g, RelO ((ns.zip vs).lookup g) (mA g)) := by
  obtain ⟨a, oe, c', d, h1, h2, h3, ⟨dvs, h4⟩, h5⟩ := hot.ex
  unfold Rep at r
  obtain ⟨a', od', vs, rfl, e1, hx, r⟩ := r
  rw [h1] at e1
  injection e1 with e1
  injection e1 with ea e1
  injection e1 with ec ed
  subst ea ec ed
  have q := I.pin (a, oe) (List.mem_append_left _ h2)
  have notc : PySem.W.notCls oe = true := by unfold PySem.W.notCls; rw [h4]
  rcases hx with ⟨e1, e2, e3⟩ | ⟨dd, e1, e2, e3⟩
  · refine ⟨a, oe, none, vs, rfl, ⟨q.1, h3.1, notc, ?_⟩, r, .inl ⟨rfl, e2⟩⟩
    rw [h3.2.1, e1]
    trivial
  · have hxd : ObjOk X.prog X.w H s.heap dd (.xd (ns.zip vs)) := I.hok dd _ (hF _ _ e2)
    obtain ⟨mA, hns, rel⟩ := hxd
    obtain ⟨o, es, ep, ho, hh⟩ := id hns
    refine ⟨a, oe, some o, vs, rfl, ⟨q.1, h3.1, notc, ?_⟩, r, .inr ⟨dd, o, mA, rfl, ho, hns, rel⟩⟩
    rw [h3.2.1, e1]
    exact ho
/-! ### isinstance of it -/
abbrev XIsT := List (Nat × Bool)
def xisiE (T : XIsT) (r : Rv) : M Rv := fun ρ => match rdR r ρ with
  | some (.exc c _ _) => (match T.lookup c with
    | some t => .ok (.sh (.bl t)) ρ
    | none => .bad)
  | _ => .bad
def XIsOk (K : PySem.W.Frag) (G : Gx) (u : Value) (T : XIsT) : Prop := ∀ c t, T.lookup c = some t → PySem.W.kitOne K (.ref (G.cls c)) u = some t ∧ XcC K (G.cls c)
theorem ve_xisi {T : XIsT} {u : Value} {cv : V} {p1 : Pos} {c : Expr} (hot : HotG X G) (hT : XIsOk X.K G u T) (hcv : ClsV cv u) (hg : Gl X "isinstance") (hm : X.mg "isinstance" = none) (ha : VE X G W a ma) (hc : PE X c (tC cv)) (he : starEach [a, c] X.env = (false, eval a X.env) :: starEach [c] X.env) (he2 : starEach [c] X.env = (false, eval c X.env) :: starEach [] X.env)
    (hpl : (backTo pos (starEach [c] X.env)).any (·.1) = false) : VE X G W (.Call (.Name "isinstance" p1) [a, c] [] pos) (ma.bind (xisiE T)) := by
  have rule : CallR X (.builtin "isinstance") fun xs H Q => ∃ F v c ns ws t, Sub F H ∧ xs = [v, cv] ∧ Rep G F (.exc c ns ws) v ∧ T.lookup c = some t ∧ Q (.bl t) H := by
    intro pins s σ H xs us Q I r h
    obtain ⟨F, v, c, ns, ws, t, sF, rfl, hr, et, q⟩ := h
    obtain ⟨a, oe, od, vs, rfl, J, _, _⟩ := inst_hot hot I sF hr
    obtain ⟨h1, h2⟩ := hT c t et
    obtain ⟨u1, u2, rfl, r1, r2⟩ := vals2 r
    obtain rfl : u1 = Value.ref a := r1
    have e2 := hcv.eq r2
    subst e2
    exact PySem.W.kia_one (PySem.W.kitx_exc h2.cl h2.hg h2.hk h2.hs h2.ha h2.hn h2.ht h2.hm) I.kIn J h1 (fun z => nomatch z) fun tk => ⟨.bl t, H, I.kept (t' := tk) fun _ _ z => z, rfl, q⟩
  refine ⟨fun B => pe_imp (L2.pe_callB rule hg hm (by rfl) (L2.pa_cons (ha.run B) (L2.pa_cons hc L2.pa_nil he2) he) (by decide) (by decide) he hpl) fun σ H Q ⟨F, own, ρ, R, P⟩ => ?_⟩
  refine step (k := xisiE T) Grow.rfl' R P fun r ρ1 v H1 F1 own1 _ g1 _ R1 k1 P1 => ?_
  unfold xisiE at P1
  split at P1
  · rename_i c ns ws er
    split at P1
    · rename_i t et
      exact ⟨F1, v, c, ns, ws, t, R1.fsub, rfl, k1.red R1 er, et, P1 _ H1 F1 own1 g1 R1 (show Rep G F1 (.bl t) (.bl t) from rep_bl.mpr rfl)⟩
    · exact P1.elim
  · exact P1.elim
/-! ### its fields -/
abbrev XFlds := List (Nat × Str)
def XFldsOk (K : PySem.W.Frag) (G : Gx) (T : XFlds) : Prop := ∀ p ∈ T, XfC K (G.cls p.1) ∧ PySem.W.findIn K (.ref (G.cls p.1)) p.2 = some none
def xfldE (T : XFlds) (f : Str) (r : Rv) : M Rv := fun ρ => match rdR r ρ with
  | some (.exc c ns vs) => if (c, f) ∈ T then (match getF f ns vs with
      | some d => .ok (.sh d) ρ
      | none => .bad)
    else .bad
  | _ => .bad
theorem ve_xfld {T : XFlds} (hot : HotG X G) (hT : XFldsOk X.K G T) (ho : VE X G W e ma) (hb : attributeBase e f X.env (eval e X.env) = eval e X.env) : VE X G W (.Attribute e f pos) (ma.bind (xfldE T f)) := by
  refine ⟨fun B => ⟨fun pins s σ H Q I ⟨F, own, ρ, R, P⟩ => ?_⟩⟩
  have hO := (ho.run B).run pins s σ H (fun v H1 => ∃ F1 c ns ws d, Sub F1 H1 ∧ Rep G F1 (.exc c ns ws) v ∧ (c, f) ∈ T ∧ getF f ns ws = some d ∧ ∀ u, Rep G F1 d u → Q u H1) I
    (step (k := xfldE T f) Grow.rfl' R P fun r ρ1 v H1 F1 own1 _ g1 _ R1 k1 P1 => by
      unfold xfldE at P1
      split at P1
      · rename_i c ns ws er
        split at P1
        · rename_i hm
          split at P1
          · rename_i d ed
            exact ⟨F1, c, ns, ws, d, R1.fsub, k1.red R1 er, hm, ed, fun u hu => P1 u H1 F1 own1 g1 R1 hu⟩
          · exact P1.elim
        · exact P1.elim
      · exact P1.elim)
  refine attr_of hb (thn hO fun u s1 ⟨v, H1, I1, rv, F1, c, ns, ws, d, sF, hr, hm, ed, q⟩ => ?_)
  obtain ⟨a, oe, od, vs, rfl, J, hrep, hcase⟩ := inst_hot hot I1 sF hr
  obtain rfl : u = Value.ref a := rv
  obtain ⟨hc, hno⟩ := hT _ hm
  obtain ⟨y, hy, ry⟩ := getF_ok hrep ed
  rcases hcase with ⟨_, rfl⟩ | ⟨dd, ob, mA, rfl, ho, hns, rel⟩
  · cases hy
  · obtain ⟨od2, ho2, hl⟩ := lookIn_ns hns
    rw [ho] at ho2
    injection ho2 with ho2
    subst ho2
    obtain ⟨z, hz, rz⟩ := RelO.some_of (v := y) (o := mA f) (by rw [← hy]; exact rel f)
    exact HandSPX.exc_get I1.kIn J hc.ga hc.gg hc.exC (PySem.W.findObj_own hc.hdC hno rfl (by rw [hl, hz])) (handed_of rz) ⟨y, H1, I1.tok _, rz, q y ry⟩
end
end VL

set_option maxHeartbeats 200000
/-! The value layer: a list comprehension where an exception is handled. -/
namespace VL
open PySem PySem.Spec L2
section
variable {prog : Program} {w : World} {A : Around} {E : Value → Shared → Prop} {s : Shared}
/-- a list's iterator is used up while x1 is handled -/
theorem list_end_hot {it l x1 : Addr} {i : Nat} {items : Array Value} {Q : Option Value → Shared → Prop} (hot : HotX.HotAt A x1 s.heap) (hx1 : x1 ≠ it) (hit : s.heap.IsListIter it l i) (hl : s.heap.IsList l items) (hx : items[i]? = none)
    (hQ : ∀ h', (∀ b o, b ≠ it → s.heap.get? b = some o → h'.get? b = some o) → Q none { s with heap := h' }) : wpAny (model prog w) A (pyNext (.ref it)) Q E s := by
  obtain ⟨hh, o1, vs1, g1, d1, c1⟩ := hot
  obtain ⟨oi, gi, ci, di⟩ := id hit
  obtain ⟨ol, gl, _, nl, dl⟩ := hl
  unfold pyNext
  refine wpAny_bind (wpAny_attempt (wpAny_callSpecial?_slot (name := Str.ofString "__next__") hit.typeIs slot_listiter_next (wpAny_call_entry slot_listiter_next hit.typeIs entry_listiter_next ?_ (args_listiter_next _))))
  show wpAny _ _ (field (.ref it) 0 >>= _) _ _ s
  refine wpAny_bind (wpAny_field gi di (x := .ref l) rfl ?_)
  show wpAny _ _ (if (Value.ref l == Value.none) = true then _ else _) _ _ s
  rw [if_neg (by intro z; cases z)]
  show wpAny _ _ (field (.ref it) 1 >>= _) _ _ s
  refine wpAny_bind (wpAny_field gi di (x := .int i 0) rfl ?_)
  show wpAny _ _ (seqItems? (.ref l) >>= _) _ _ s
  refine wpAny_bind (wpAny_seqItems gl dl ?_)
  simp only [Int.toNat_natCast, hx]
  refine wpAny_bind (wpAny_rule (wpAny_bind (wpAny_setField gi di (by simp) ?_)))
  have keep1 : ∀ b o, b ≠ it → s.heap.get? b = some o → (s.heap.update it (Obj.mapFields (·.setIfInBounds 0 .none))).get? b = some o := fun b o hb z => (Heap.get?_update_other _ _ (Ne.symm hb)).trans z
  refine wpAny_bind (m := newExc _ _) ?_
  simp only [newExc, newTuple]
  refine wpAny_bind (wpAny_newObj_type ?_ (by size_fits))
  refine wpAny_bind (m := firstArgMember _ _) (wpAny_of_eq (a := Value.none) (by first | rfl | (simp only [firstArgMember]; rfl)) ?_)
  refine wpAny_newObj_type ?_ (by size_fits)
  refine HotX.raiseNew_hot ⟨hh, o1, vs1, Heap.get?_push_of_some _ (Heap.get?_push_of_some _ (keep1 _ _ hx1 g1)), d1, c1⟩ (Nat.ne_of_lt (Heap.lt_size (Heap.get?_push_of_some _ (keep1 _ _ hx1 g1)))) (Heap.get?_push_size _ rfl) rfl
    (by first | (simp; done) | (simp; omega) | (simp only [Array.size_append]; simp; omega)) ?_
  refine wpAny_bind (wpAny_isInstance (T := "StopIteration") (b := true) ⟨_, Heap.get?_update_self _ (Heap.get?_push_size _ rfl) rfl, rfl⟩ isSubtype_stop ?_)
  refine wpAny_pure (hQ _ fun b o hb z => ?_)
  have z1 := Heap.get?_push_of_some { cls := .type "tuple", data := .seq ([] : List Value).toArray } (keep1 b o hb z)
  rw [Heap.get?_update_other _ _ (Nat.ne_of_gt (Heap.lt_size z1))]
  exact Heap.get?_push_of_some _ z1
end
section
variable {X : Cx} {G : Gx} {B : Bx} {W : WX} {pos : Pos}
/-- what is walked where an exception is handled: a list that stands still -/
structure PL (X : Cx) (iter : Expr) (wi : TI) : Prop where
  run : ∀ (pins : List (Addr × Obj)) (s : Shared) (σ : St) (H : Hp) (R : It → Hp → Prop), Inv X pins σ H s → wi σ H R →
    wpAny (model X.prog X.w) X.A (eval iter X.env) (fun v s1 => wpAny (model X.prog X.w) X.A (pyIter v) (fun itv s2 => ∃ (it p : Addr) (H' : Hp), itv = .ref it ∧ Inv X pins σ H' s2 ∧ s2.heap.IsListIter it p 0 ∧ FpOk X pins H' it ∧ R (Itl X.K p) H') X.xe s1) X.xe s
def lstM : Rv → M (List D)
  | .sh (.lst xs) => M.pure xs
  | .tm (.lst xs) => M.pure xs
  | _ => bad
theorem pl_lst {iter : Expr} {ma : M Rv} (hK : G.K = X.K) (ha : VE X G W iter ma) : PL X iter (tM G B W (fun _ => okW G B) (ma.bind lstM)) := by
  refine ⟨fun pins s σ H R I ⟨F, own, ρ, Rl0, P⟩ => ?_⟩
  have hI := (ha.run B).run pins s σ H (fun v H1 => ∃ p xs, v = .ref p ∧ SqL X.K H1 p xs ∧ R (Itl X.K p) H1) I (step (k := lstM) Grow.rfl' Rl0 P fun r ρ1 v H1 F1 own1 _ g1 _ R1 k1 P1 => by
    have go : ∀ {F2 : Hp} {xs : List D} {p : Addr} {vs : List V}, Grow own own1 H H1 F F2 → Rl G B F2 own1 σ H1 ρ1 → F2 p = some (.lst vs) → Reps G F2 xs vs → Post G B W σ (okW G B) own F H (.ok xs ρ1) R → ∃ q ys, V.ref p = .ref q ∧ SqL X.K H1 q ys ∧ R (Itl X.K q) H1 := fun {F2 xs p vs} g2 R2 hp hr P2 => by
      have st : Still G B X.K (.l p) vs xs F2 := ⟨fun f1 f2 _ => SqL.of (f2 _ _ (f1 _ _ hp)), hr⟩
      exact ⟨p, vs, rfl, SqL.of (R2.fsub _ _ hp), P2 _ H1 F2 own1 g2 R2 (wk_src st)⟩
    cases r with
    | sh d =>
      cases d with
      | lst xs =>
        obtain ⟨p, vs, rfl, hp, hr⟩ := rep_lst.mp (show Rep G F1 (.lst xs) v from k1)
        exact go g1 R1 hp hr P1
      | _ => exact P1.elim
    | tm d =>
      cases d with
      | lst xs =>
        obtain ⟨p, o, rfl, h1, h2, h3, h4, vs, rfl, h5⟩ := k1
        refine go (F2 := upd F1 p (.lst vs)) ⟨g1.keep, g1.dom, g1.frz.tr (sub_upd h2), fun b u z => ?_, g1.own⟩ (R1.freeze h1 h2 h3.2 h4) upd_same (h5.mono (sub_upd h2)) P1
        by_cases hb : b = p
        · exact .inr (.inl (by rw [hb]; exact h3.1))
        · rw [upd_ne hb] at z
          exact g1.new b u z
      | _ => exact P1.elim
    | pk i => exact P1.elim)
  refine thn hI fun v s1 ⟨x, H1, I1, rx, p, xs, ex, hq, q⟩ => ?_
  subst ex
  obtain rfl : v = Value.ref p := rx
  obtain ⟨its, rv, pl, hz⟩ := I1.list hq
  refine wpAny_pyIter_list pl.isList ?_
  have fr : H1 s1.heap.objs.size = none := I1.hok.fresh (Nat.le_refl _)
  exact ⟨s1.heap.objs.size, p, H1, rfl, I1.kept (t' := s1.toks) fun b o e => Heap.get?_push_of_some _ e, ⟨_, Heap.get?_push_size _ rfl, rfl, rfl⟩, I1.fpOk (Nat.le_refl _) fr, q⟩
/-- the loop of such a comprehension -/
theorem lcx_core {pins : List (Addr × Obj)} {u : Shared} {σ : St} {H : Hp} {Q : VK} {elt tg iter : Expr} {ifs : List Expr} {scope : Scope} {own : List (Str × Nat)} {pos pos' : Pos} {wi : TI} {g : TG} {tt : TT} {te : TE} {use : Option (Value → Sem Unit)} {Qf : Value → Shared → Prop}
    (hot : HotG X G) (nd : X.N.Nodup) (I : Inv X pins σ H u) (hi : PL X iter wi) (ok : BlkOk X.N X.env.scope scope own) (hg : BlkAll X scope fun Y => PG Y tg g) (ht : BlkAll X scope fun Y => PTs Y ifs tt) (he : BlkAll X scope fun Y => PE Y elt te) (hs : ∀ x, foldedSetIterable iter X.env x = pure x) (h : tLc wi g tt te (own.map (·.2)) σ H Q)
    (back : ∀ L C u' m H', Inv X pins σ H' u' → Q (.ref L) H' → u'.heap.Ns C m → FpOk X pins H' C → compPost (model X.prog X.w) X.A X.xe use Qf (.ref L) C (.ok .next) u') :
    wpAny (model X.prog X.w) X.A (comprehension (.ListComp elt [⟨tg, iter, ifs, 0⟩] scope pos) scope X.env pos' (newList []) false (eval iter X.env) use) Qf X.xe u := by
  obtain ⟨a, oe, c, d, hG, hpn, hz, ⟨dvs, hdat⟩, hh⟩ := hot.ex
  have frees : ∀ y ∈ scope.names, y.2 = .free → ∃ c, X.env.cells.lookup y.1 = some c := fun y hy e => (ok.free y hy e).elim (fun k => I.ok.has _ (.inl k)) fun k => I.ok.has _ (.inr k)
  refine wpAny_comprehension_free (use := use) rfl hs (closure_ok frees) ok.kind (fun y hy e => by rw [ok.uniq y hy, e]) (thn (hi.run pins u σ H _ I h) fun v1 u1 h1 => thn h1 fun v2 u2 h2 => ?_)
  obtain ⟨it, p, H2, rfl, I2, hit, fp2, q⟩ := h2
  refine wpAny_newObj_type (newEnv_comp ?_) (by show 0 ≤ sizeLine; decide)
  generalize hL : u2.heap.objs.size = L
  have freeL : H2 L = none := I2.hok.fresh (Nat.le_of_eq hL)
  obtain ⟨Wt, ⟨m0, w0⟩, turn⟩ := q L freeL
  generalize hu3 : ({ u2 with heap := u2.heap.push { cls := .type "list", data := .seq ([] : List Value).toArray } } : Shared) = u3
  have heap3 : u3.heap = u2.heap.push { cls := .type "list", data := .seq ([] : List Value).toArray } := by rw [← hu3]
  have I3 : Inv X pins σ (upd H2 L (.lst [])) u3 := by
    rw [← hu3]
    refine I2.laid (t' := u2.toks) (fun _ _ z => Heap.get?_push_of_some _ z) (Nat.le_of_eq hL) ⟨Nat.zero_le _, [], 0, .nil, ?_⟩
    rw [← hL]
    exact Heap.get?_push_size _ rfl
  obtain ⟨oi, gi, ci, di⟩ := id hit
  have ltI : it < u2.heap.objs.size := Heap.lt_size gi
  have neL : it ≠ L := by
    rw [← hL]
    exact Nat.ne_of_lt ltI
  have fp3 : ∀ b ∈ [it], FpOk X pins (upd H2 L (.lst [])) b ∧ b < u3.heap.objs.size := fun b hb => by
    obtain rfl : b = it := by simpa using hb
    refine ⟨⟨by rw [upd_ne neL]; exact fp2.1, fp2.2⟩, ?_⟩
    rw [heap3, Heap.size_push]
    exact Nat.lt_succ_of_lt ltI
  have hit3 : u3.heap.IsListIter it p 0 := Heap.IsListIter.at hit fun o z => by rw [heap3]; exact Heap.get?_push_of_some _ z
  have I4 := block_start I3 ok nd fp3
  have pg := hg u3 (upd H2 L (.lst [])) u3.heap.objs.size (cellsFrom (u3.heap.objs.size + 1) scope.names (cloFrom X.env.cells scope.names [])) [it]
  have pt := ht u3 (upd H2 L (.lst [])) u3.heap.objs.size (cellsFrom (u3.heap.objs.size + 1) scope.names (cloFrom X.env.cells scope.names [])) [it]
  have pe := he u3 (upd H2 L (.lst [])) u3.heap.objs.size (cellsFrom (u3.heap.objs.size + 1) scope.names (cloFrom X.env.cells scope.names [])) [it]
  show codeAny _ _ (.compStart (.ListComp elt [⟨tg, iter, ifs, 0⟩] scope pos) 0 (.ref it) (.ref L) (compEnvC scope (cellsFrom (u3.heap.objs.size + 1) scope.names (cloFrom X.env.cells scope.names [])) u3.heap.objs.size X.env)) (compPost (model X.prog X.w) X.A X.xe use Qf (.ref L) u3.heap.objs.size) { u3 with heap := pushCells (u3.heap.push { cls := .type "dict", data := .dict #[] }) scope.names }
  have pinA := I3.pin (a, oe) (List.mem_append_left _ hpn)
  have neIA : a ≠ it := fp2.2.2.2.2.2 (a, oe) (List.mem_append_left _ hpn)
  generalize hce : compEnvC scope (cellsFrom (u3.heap.objs.size + 1) scope.names (cloFrom X.env.cells scope.names [])) u3.heap.objs.size X.env = ce at I4 pg pt pe ⊢
  have locC : ce.locals = u3.heap.objs.size := by subst hce; rfl
  generalize hH3 : upd H2 L (.lst []) = H3 at I3 I4 pg pt pe w0 fp3 pinA
  generalize hu4 : ({ u3 with heap := pushCells (u3.heap.push { cls := .type "dict", data := .dict #[] }) scope.names } : Shared) = u4 at I4 ⊢
  have kept4 : ∀ b o, u3.heap.get? b = some o → u4.heap.get? b = some o := fun b o z => by
    rw [← hu4]
    exact pushCells_keeps _ _ _ _ (Heap.get?_push_of_some _ z)
  have hit4 : u4.heap.IsListIter it p 0 := Heap.IsListIter.at hit3 fun o z => kept4 _ _ z
  have aFs : a ∉ frs X.stack := fun z => (List.mem_cons.mp (I3.stkSub a z)).elim pinA.2.2.1 pinA.2.2.2.1
  have I5 : Inv (X.blk u3 H3 scope ce [it]) [(a, oe)] (wipe σ (own.map (·.2))) H3 u4 := I4.pins_of fun q hq => by
    obtain rfl : q = (a, oe) := by simpa using hq
    refine ⟨kept4 _ _ pinA.1, pinA.2.1, ?_, aFs, pinA.2.2.2.2⟩
    show a ≠ ce.locals
    rw [locC]
    exact Nat.ne_of_lt (Heap.lt_size pinA.1)
  have stat : ∀ {σ' : St} {H' : Hp} {u' : Shared}, Inv (X.blk u3 H3 scope ce [it]) [(a, oe)] σ' H' u' → H' it = none → FpOk (X.blk u3 H3 scope ce [it]) [(a, oe)] H' it := fun {σ' H' u'} I' hn =>
    ⟨hn, (I'.ok.exf it (by show it ∈ [it]; simp)).1, I'.ok.exfs it (by show it ∈ [it]; simp), .inl (by show it ∈ [it]; simp), fun x c e => (I'.ok.exf it (by show it ∈ [it]; simp)).2 x c e, fun q hq => by
      have hq : q ∈ ([] : List (Addr × Obj)) ++ [(a, oe)] := hq
      obtain rfl : q = (a, oe) := by simpa using hq
      exact neIA⟩
  have loop : codeAny (model X.prog X.w) X.A (.compLoop (.ListComp elt [⟨tg, iter, ifs, 0⟩] scope pos) 0 (.ref it) (.ref L) ce) (compPost (model X.prog X.w) X.A X.xe use Qf (.ref L) u3.heap.objs.size) u4 := by
    refine compLoop_any (fun n u' => ∃ i H', Inv (X.blk u3 H3 scope ce [it]) [(a, oe)] (wipe σ (own.map (·.2))) H' u' ∧ u'.heap.IsListIter it p i ∧ H' it = none ∧ Wt i n H') ?_ m0 ⟨0, H3, I5, hit4, (fp3 it (by simp)).1.1, w0⟩
    rintro n u5 ⟨i, H5, J5, t5, n5, w5⟩
    obtain ⟨f0, f1, f2, f3, f4, f5⟩ := stat J5 n5
    have hotAt : HotX.HotAt X.A a u5.heap := ⟨hh, oe, dvs, (J5.pin (a, oe) (List.mem_append_right _ (by simp))).1, hdat, zn_none hz hdat⟩
    rcases turn i n H5 w5 with ⟨⟨xs, hq5, hl5⟩, qq⟩ | ⟨⟨xs, x, hq5, hx5⟩, Nx, hNx, stp⟩
    · obtain ⟨its, rv, pl, hzz⟩ := J5.list hq5
      have ln := rv.length
      refine list_end_hot hotAt neIA t5 pl.isList (by simp; omega) fun h' eb => ?_
      have J6 : Inv (X.blk u3 H3 scope ce [it]) [(a, oe)] (wipe σ (own.map (·.2))) H5 { u5 with heap := h' } := J5.turned (t' := u5.toks) (fun b o hb z => eb b o hb z) f0 f1 f3 f4 f5
      have I7 : Inv X pins σ H5 { u5 with heap := h' } := I3.call' (ch := [it]) J6.os J6.base J6.hok J6.bare fun b hb => ⟨(fp3 b hb).1.2.2.2.1, (fp3 b hb).1.2.1, (fp3 b hb).1.2.2.2.2.1, (fp3 b hb).1.2.2.2.2.2⟩
      have nC : H5 u3.heap.objs.size = none := by
        have z : H5 ce.locals = none := J6.free
        rw [locC] at z
        exact z
      obtain ⟨m, hn, _⟩ := J6.loc
      have hn : h'.Ns ce.locals m := hn
      rw [locC] at hn
      exact back L u3.heap.objs.size _ m H5 I7 qq hn (I3.fpOk (Nat.le_refl _) nC)
    · obtain ⟨its, rv, pl, hzz⟩ := J5.list hq5
      obtain ⟨v, hv, ru⟩ := rv.get hx5
      refine wpAny_pyNext_list_item t5 pl.isList (x := v) (by simpa using hv) fun h' t6 sb => ?_
      have J6 : Inv (X.blk u3 H3 scope ce [it]) [(a, oe)] (wipe σ (own.map (·.2))) H5 { u5 with heap := h' } := J5.turned (t' := u5.toks) (fun b o hb z => (sb.2 b hb).trans z) f0 f1 f3 f4 f5
      obtain ⟨o6, g6, c6, d6⟩ := id t6
      refine go_of (s := { u5 with heap := h' }) g6 c6 d6 (by decide) ?_
      have yld : (Itl X.K p).yld i H5 x H5 := ⟨rfl, fun ys hy => by rw [J5.list_inj hy hq5]; exact hx5⟩
      have fit : ∀ b ∈ [it], FpOk (X.blk u3 H3 scope ce [it]) [(a, oe)] H5 b := fun b hb => by
        obtain rfl : b = it := by simpa using hb
        exact stat J6 n5
      have J7 := J6.pinned fit fun b hb => by
        obtain rfl : b = it := by simpa using hb
        exact ⟨o6, g6, fun v z => by rw [d6] at z; cases z⟩
      refine thnF (pg.run _ _ _ H5 x v _ J7 ru (stp x H5 yld)) fun _ u8 ⟨σ8, H8, I8, hw8, q8⟩ => ?_
      refine thnF (pt.run _ u8 σ8 H8 _ I8 q8) fun b u9 ⟨H9, I9, q9⟩ => ?_
      have fin : ∀ {u' : Shared} {H' : Hp}, Inv (X.blk u3 H3 scope ce [it]) ([(a, oe)] ++ pinsAt [it] h') σ8 H' u' → Nx H' → ∃ m, m < n ∧ ∃ i H', Inv (X.blk u3 H3 scope ce [it]) [(a, oe)] (wipe σ (own.map (·.2))) H' u' ∧ u'.heap.IsListIter it p i ∧ H' it = none ∧ Wt i m H' := fun {u' H'} K' nx => by
        obtain ⟨m', hm, w'⟩ := hNx H' nx
        have pinI := K'.pin (it, o6) (List.mem_append_right _ (List.mem_append_right _ (mem_pinsAt (by simp) g6)))
        have ll : (wipe σ (own.map (·.2))).length = σ8.length := by rw [← hw8, wipe_length]
        refine ⟨m', hm, i + 1, H', (K'.unpinned (pins := [(a, oe)])).weak ll (fun j w e => ?_), Heap.IsListIter.at t6 (fun o z => ?_), pinI.2.1, w'⟩
        · rw [← hw8] at e
          exact (wipe_some e).1
        · have z : h'.get? it = some o := z
          rw [g6] at z
          cases z
          exact pinI.1
      cases b with
      | false =>
        simp only [Bool.false_eq_true, if_false] at q9 ⊢
        exact fin I9 q9
      | true =>
        simp only [if_true] at q9 ⊢
        refine thnF (pe.run _ u9 σ8 H9 _ I9 q9) fun z u10 ⟨yv, H10, I10, r10, acc, hD10, hz10, nx⟩ => ?_
        exact app_ok (X := X.blk u3 H3 scope ce [it]) I10 hD10 hz10 r10 fun u11 I11 => fin I11 nx
  exact codeAny_compStart_list loop (wpAny_pyIter_listiter hit4 loop)
theorem ve_lcX {elt tg iter : Expr} {ifs : List Expr} {is : List Nat} {scope : Scope} {own : List (Str × Nat)} {ma : M Rv} {f : D → VEnv → Option VEnv} {tt : M Bool} {te : M D} (hot : HotG X G) (hK : G.K = X.K) (nd : X.N.Nodup) (hi : VE X G W iter ma) (ok : BlkOk X.N X.env.scope scope own)
    (hsub : ∀ j ∈ is, j ∈ own.map (·.2)) (hg : BlkAll X scope fun Y => VG Y G tg is f) (ht : BlkAll X scope fun Y => VTs Y G noW ifs tt) (he : BlkAll X scope fun Y => VV Y G noW elt te) (hs : ∀ x, foldedSetIterable iter X.env x = pure x) :
    VE X G W (.ListComp elt [⟨tg, iter, ifs, 0⟩] scope pos) (lcM (ma.bind lstM) f tt te (own.map (·.2))) := by
  refine ⟨fun B => ⟨fun pins u σ H Q I h => ?_⟩⟩
  rw [eval_ListComp]
  refine lcx_core hot nd I (pl_lst (B := B) hK hi) ok (fun s H C cl fp => (hg s H C cl fp).run B) (fun s H C cl fp => (ht s H C cl fp).run B) (fun s H C cl fp => (he s H C cl fp).run B) hs (lc_go (wi := fun _ _ _ => True) hsub h) fun L C u' m H' J q hn f => ⟨m, hn, fun h'' sb => ?_⟩
  obtain ⟨f0, f1, f2, f3, f4, f5⟩ := f
  exact ⟨.ref L, H', J.turned (t' := u'.toks) (fun b o hb e => (sb.2 b hb).trans e) f0 f1 f3 f4 f5, rfl, q⟩
end
end VL

set_option maxHeartbeats 200000
/-! The value layer: the rest. -/
namespace VL
open PySem PySem.Spec L2
section
variable {X : Cx} {G : Gx} {B : Bx} {W : WX} {a b c e : Expr} {ma mb mc m : M Rv} {pos : Pos} {j : Nat}
def negE : Rv → M Rv
  | .sh (.int i) => M.pure (.sh (.int (-i)))
  | _ => bad
theorem ve_neg (ha : VE X G W a ma) : VE X G W (.UnaryOp .USub a pos) (ma.bind negE) := by
  refine ⟨fun B => pe_imp (L2.pe_un L2.un_neg (ha.run B)) fun σ H Q ⟨F, own, ρ, R, P⟩ => ?_⟩
  refine step (k := negE) Grow.rfl' R P fun r ρ1 v H1 F1 own1 _ g1 _ R1 k1 P1 => ?_
  cases r with
  | sh d =>
    cases d with
    | int i => exact ⟨i, rep_int.mp (show Rep G F1 (.int i) v from k1), P1 _ H1 F1 own1 g1 R1 (show Rep G F1 (.int (-i)) (.int (-i)) from rep_int.mpr rfl)⟩
    | _ => exact P1.elim
  | _ => exact P1.elim
theorem ve_int {i : Int} : VE X G W (.Constant (.int i) j pos) (mCst (.int i)) := ve_cst pe_int fun F => rep_int.mpr rfl
theorem ve_bl {t : Bool} : VE X G W (.Constant (.bool t) j pos) (mCst (.bl t)) := ve_cst pe_bl fun F => rep_bl.mpr rfl
theorem ve_non : VE X G W (.Constant .none j pos) (mCst .non) := ve_cst pe_non fun F => rep_non.mpr rfl
theorem ve_str {s : List Nat} {x : Str} (h : x = toS s) : VE X G W (.Constant (.str x) j pos) (mCst (.str s)) := by
  subst h
  exact ve_cst pe_str fun F => rep_str.mpr rfl
/-- the guard of the units -/
theorem units_of {k : Nat} {A : Around} (r : Room k A) : A.units + 64 < cLine := r.units
theorem units5_of {k : Nat} {A : Around} (r : Room k A) : A.units + 65 < cLine := by
  have := r.un
  omega
theorem unitsH5_of {k : Nat} {A : Around} (r : L2H.RoomH k A) : A.units + 65 < cLine := by
  have := r.un
  omega
theorem unitsH_of {k : Nat} {A : Around} (r : L2H.RoomH k A) : A.units + 64 < cLine := by
  have := r.un
  omega
end
end VL
namespace VL
open PySem PySem.Spec L2
abbrev RunF := Nat → List Arg → DR
theorem hot_suite {X : Cx} {G : Gx} {a : Addr} {oe : Obj} {c : Nat} {d : Option Addr} {pn : List (Addr × Obj)} (hz : L2N.Zn (.ref (G.cls c)) d oe) (hd : ∃ vs, oe.data = .fields vs) : HotG (X.suite a ((a, oe) :: pn)) (G.heat a c d) :=
  ⟨a, oe, c, d, rfl, by show (a, oe) ∈ (a, oe) :: pn; simp, hz, hd, rfl⟩
theorem room_suite {X : Cx} {k : Nat} {a : Addr} {pn : List (Addr × Obj)} (hr : Room k X.A) : L2H.RoomH k (X.suite a pn).A := ⟨hr.dp, hr.un⟩
end VL

set_option maxHeartbeats 200000
/-! The value layer: the head's facts. -/
namespace VL
open PySem PySem.Spec L2
open PyProof.Rows (envOfC)
abbrev Fr := PySem.W.Frag
theorem and2 {a b : Bool} (h : (a && b) = true) : a = true ∧ b = true := Bool.and_eq_true_iff.mp h
/-! ### own exceptions over super().__init__ -/
structure XD where
  x : Str
  f : Str
  name : Str
  qual : Str
  params : Arguments
  body : List Stmt
  scope : Scope
abbrev XW : Type := Option (Str × Str × Arguments × FuncBody × Scope × Addr × Addr)
def xiAt (K : Fr) (x : Str) : Addr := He.ma K (He.ga K x) "__init__"
def xW (K : Fr) (x : Str) : XW := match K.lookup (xiAt K x) with
  | some ⟨_, _, .func fd, _⟩ => some (fd.name, fd.qualname, fd.params, fd.body, fd.scope, fd.globals, fd.builtins)
  | _ => none
def XD.val (d : XD) : XW := some (d.name, d.qual, d.params, .stmts d.body, d.scope, mainGlobals, builtinsNs)
/-- the class object -/
def xcB (K : Fr) (C : Addr) : Bool := match K.lookup C with
  | some ⟨.type t, _, .cls cd, sl⟩ => (match cd.mro, sl.toList with
    | .ref C' :: bm, [_, _, _, _, some (.builtin n), _] => decide (t = "type") && (decide (C' = C) && (decide (n = "ValueError.__new__") && (!cd.hasDel && (cd.hasDict && (PySem.HandSPX.refsVE bm && decide (PySem.W.alongIn K "__init__" ((cd.mro.dropWhile (· != .ref C)).drop 1) = some (some (.builtin "ValueError.__init__"))))))))
    | _, _ => false)
  | _ => false
theorem xcB_ok {K : Fr} {C : Addr} (h : xcB K C = true) : (∃ nm q N bs bm sn sub ab col dd k0 k1 k2 k3 k5, K.lookup C = some (excClassObj nm q C N bs bm true sn sub ab col dd k0 k1 k2 k3 k5 "ValueError.__new__") ∧ PySem.HandSPX.refsVE bm = true) ∧
    ∃ cd : ClassData, PySem.W.clsIn K C = some cd ∧ PySem.W.alongIn K "__init__" ((cd.mro.dropWhile (· != .ref C)).drop 1) = some (some (.builtin "ValueError.__init__")) := by
  unfold xcB at h
  split at h
  · rename_i t dd cd sl ho
    split at h
    · rename_i C' bm k0 k1 k2 k3 n k5 hm hs
      obtain ⟨h1, h⟩ := and2 h
      obtain ⟨h2, h⟩ := and2 h
      obtain ⟨h3, h⟩ := and2 h
      obtain ⟨h4, h⟩ := and2 h
      obtain ⟨h5, h⟩ := and2 h
      obtain ⟨h6, h7⟩ := and2 h
      have h7 := of_decide_eq_true h7
      have h1 := of_decide_eq_true h1
      have h2 := of_decide_eq_true h2
      have h3 := of_decide_eq_true h3
      subst h1 h2 h3
      have hc : PySem.W.clsIn K C' = some cd := by unfold PySem.W.clsIn; rw [ho]
      refine ⟨?_, cd, hc, h7⟩
      obtain ⟨nm, bs, mro, ns, qn, hd, sn, sub, ab, col, del⟩ := cd
      dsimp only at hm h4 h5
      have h4 : del = false := by cases del with
        | true => cases h4
        | false => rfl
      subst hm h4 h5
      have hsl : sl = #[k0, k1, k2, k3, some (.builtin "ValueError.__new__"), k5] := by
        obtain ⟨l⟩ := sl
        simp only at hs
        rw [hs]
      subst hsl
      exact ⟨nm, qn, ns, bs, bm, sn, sub, ab, col, dd, k0, k1, k2, k3, k5, ho, h6⟩
    · cases h
  · cases h
/-- its __init__'s object -/
def xfB2 (K : Fr) (C fI : Addr) (qual file : Str) : Bool := match K.lookup fI with
  | some ⟨_, _, .func fd, _⟩ => (match fd.closure, fd.code, fd.defaults with
    | [(k, cc)], .ref cda, .none => decide (k = "__class__") && (PySem.W.codeIn K (.ref cda) qual && ((match K.lookup cda with
      | some ⟨_, _, .fields vs, _⟩ => (match (vs[2]? : Option Value) with
        | some (Value.str fl _) => file == fl
        | _ => false)
      | _ => false) && (match K.lookup cc with
      | some ⟨_, _, .cell (some (.ref C')), _⟩ => decide (C' = C)
      | _ => false)))
    | _, _, _ => false)
  | _ => false
structure XFn (K : Fr) (C fI : Addr) (file : Str) (d : XD) : Prop where
  ex : ∃ (kV doc pm ct oc : Value) (ad od : Option Addr) (osl : Array (Option Value)) (cda cc : Addr) (vs : Array Value) (fl : Str) (tf : Tok) (ccl cl : Value) (cdd cld : Option Addr) (ccs csl : Array (Option Value)),
    K.lookup fI = some ⟨oc, od, .func (PySem.W.ksFn d.name d.qual d.params d.body d.scope .none kV doc pm ad (.ref cda) ct cc), osl⟩ ∧ PySem.W.codeIn K (.ref cda) d.qual = true ∧ K.lookup cda = some ⟨ccl, cdd, .fields vs, ccs⟩ ∧ vs[2]? = some (.str fl tf) ∧ (file == fl) = true ∧ K.lookup cc = some ⟨cl, cld, .cell (some (.ref C)), csl⟩
theorem xfB2_ok {K : Fr} {C : Addr} {file : Str} {d : XD} (e : xW K d.x = d.val) (h : xfB2 K C (xiAt K d.x) d.qual file = true) : XFn K C (xiAt K d.x) file d := by
  unfold xfB2 at h
  unfold xW at e
  split at h
  · rename_i oc od fd osl ho
    rw [ho] at e
    split at h
    · rename_i k cc cda hcl hcd hdv
      obtain ⟨h1, h⟩ := and2 h
      obtain ⟨h2, h⟩ := and2 h
      obtain ⟨h3, h4⟩ := and2 h
      have h1 := of_decide_eq_true h1
      subst h1
      obtain ⟨n1, n2, n3, n4, n5, n6, n7, n8, n9, n10, n11, n12, n13, n14, n15⟩ := fd
      dsimp only at hcl hcd hdv e
      subst hcl hcd hdv
      have e2 : (some (n1, n2, n3, n4, n5, n6, n15) : XW) = some (d.name, d.qual, d.params, .stmts d.body, d.scope, mainGlobals, builtinsNs) := e
      simp only [Option.some.injEq, Prod.mk.injEq] at e2
      obtain ⟨e1, e2, e3, e4, e5, e6, e7⟩ := e2
      subst e1 e2 e3 e4 e5 e6 e7
      split at h3
      · rename_i ccl cdd vs ccs hc
        split at h3
        · rename_i fl tf hv
          split at h4
          · rename_i cl cld C' csl hcc
            have h4 := of_decide_eq_true h4
            subst h4
            exact ⟨n9, n10, n11, n14, oc, n12, od, osl, cda, cc, vs, fl, tf, ccl, cl, cdd, cld, ccs, csl, ho, h2, hc, hv, h3, hcc⟩
          · cases h4
        · cases h3
      · cases h3
    · cases h
  · cases h
def XD.ok (K : Fr) (file : Str) (d : XD) : Bool := xcB K (He.ga K d.x) && (xfB2 K (He.ga K d.x) (xiAt K d.x) d.qual file && (decide (PySem.W.findIn K (.ref (He.ga K d.x)) "__setattr__" = some (some (.builtin "object.__setattr__"))) && (decide (PySem.W.subIn K (.ref (He.ga K d.x)) (.type "BaseException") = some true) && (decide (PySem.W.typeIn K (.ref (He.ga K d.x)) = some (.type "type")) &&
  (PySem.W.keepIn K (.ref (He.ga K d.x)) && (decide (PySem.W.findIn K (.ref (He.ga K d.x)) "__init__" = some (some (.ref (xiAt K d.x)))) && (decide (PySem.W.typeIn K (.ref (xiAt K d.x)) = some (.type "function")) && (decide (PySem.W.findIn K (.ref (He.ga K d.x)) d.f = some none) && (decide (PySem.W.nsIn K mainGlobals "super" = some none) && (decide (PySem.W.nsIn K cStatics "thirdparty.any" = some none) &&
  (decide (PySem.W.subIn K (.ref (He.ga K d.x)) (.type "ValueError") = some true) && decide (PySem.W.mroIn K (He.ga K d.x) (.ref (He.ga K d.x)) = some true))))))))))))
theorem xc_of {prog : Program} {K : Fr} {d : XD} (e : xW K d.x = d.val) (c : d.ok K prog.main.file = true) (noM : (prog.main.scope.names.lookup ("super" : Str)).isSome = false)
    {msg an : Str} {j : Nat} {p0 p1 p2 p3 p4 p5 q0 q1 q2 q3 : Pos} (hb : d.body = VX.rows msg d.f an j p0 p1 p2 p3 p4 p5 q0 q1 q2 q3) {ar : PySem.Arg} (har : (d.params.posonlyargs ++ d.params.args).head? = some ar) (har2 : ar.arg = "self") (h1 : an ≠ "self") (h2 : (an == ("__debug__" : Str)) = false)
    (h3 : d.scope.kind = .function) (h4 : d.scope.isCoroutine = false) (h5 : d.scope.isGenerator = false) (h6 : ∀ x ∈ d.scope.names, x.2 ≠ .cell) (h7 : d.scope.names.lookup ("super" : Str) = some .globalImplicit) (h8 : d.scope.names.lookup ("__class__" : Str) = some .free) (h9 : d.scope.names.lookup ("self" : Str) = some .local) (h10 : d.scope.names.lookup an = some .local)
    (hbind : ∀ (body : List Stmt) (kV doc pm : Value) (ad : Option Addr) (cda cc : Addr) (ct u v : Value), PySem.bindArgs (PySem.W.ksFn d.name d.qual d.params body d.scope .none kV doc pm ad (.ref cda) ct cc) ⟨[u, v], []⟩ = pure [(("self" : Str), u), (an, v)])
    (hev : ∃ pl : Sem Bool, ∀ env : Env, eval (.Call (.Attribute (.Call (.Name "super" p0) [] [] p1) "__init__" p2) [.Constant (.str msg) j p3] [] p4) env = (do
      let ov ← attributeBase (.Call (.Name "super" p0) [] [] p1) "__init__" env (eval (.Call (.Name "super" p0) [] [] p1) env)
      standAt p2.atName
      let (g, first) ← holding [ov] (getMethod ov "__init__" pl)
      callWith p4 g first (backTo p4 (starEach [.Constant (.str msg) j p3] env)) [])) : ∃ fI, VX.XC prog K (He.ga K d.x) fI d.f := by
  unfold XD.ok at c
  obtain ⟨c1, c⟩ := and2 c
  obtain ⟨c2, c⟩ := and2 c
  obtain ⟨c3, c⟩ := and2 c
  obtain ⟨c4, c⟩ := and2 c
  obtain ⟨c5, c⟩ := and2 c
  obtain ⟨c6, c⟩ := and2 c
  obtain ⟨c7, c⟩ := and2 c
  obtain ⟨c8, c⟩ := and2 c
  obtain ⟨c9, c⟩ := and2 c
  obtain ⟨c10, c⟩ := and2 c
  obtain ⟨c11, c⟩ := and2 c
  obtain ⟨c12, c13⟩ := and2 c
  obtain ⟨cls, cd, hcls, halong⟩ := xcB_ok c1
  obtain ⟨kV, doc, pm, ct, oc, ad, od, osl, cda, cc, vs, fl, tf, ccl, cl, cdd, cld, ccs, csl, g1, g2, g3, g4, g5, g6⟩ := (xfB2_ok e c2).ex
  rw [hb] at g1
  exact ⟨xiAt K d.x, ⟨cls, of_decide_eq_true c3, of_decide_eq_true c4, of_decide_eq_true c5, c6⟩, of_decide_eq_true c7, of_decide_eq_true c8, of_decide_eq_true c9,
    ⟨msg, an, j, p0, p1, p2, p3, p4, p5, q0, q1, q2, q3, d.name, d.qual, d.params, d.scope, .none, kV, doc, pm, ct, oc, ad, od, osl, cda, cc, vs, fl, tf, ccl, cl, cdd, cld, ccs, csl, ar, cd, g1, g2, g3, g4, g5, g6, har, har2, h1, h2, h3, h4, h5, h6, h7, h8, h9, h10, fun u v => hbind _ _ _ _ _ _ _ _ _ _, hev, hcls, halong⟩,
    of_decide_eq_true c10, noM, of_decide_eq_true c11, of_decide_eq_true c12, of_decide_eq_true c13⟩
/-! ### tables of answers -/
def kvK (cn : Nat → Str) (K : Fr) : Kd → Value
  | .ty n => .type n
  | .own c => .ref (He.ga K (cn c))
def clB (K : Fr) (C : Addr) : Bool := PySem.W.plainGet K C Str.empty && (PySem.W.hasDictIn K C && (PySem.W.plainOver K C && He.eqO (PySem.W.findIn K (.ref C) "__setattr__") (some (some (.builtin "object.__setattr__")))))
theorem clB_ok {K : Fr} {C : Addr} (c : clB K C = true) : Cls K C := by
  obtain ⟨c1, c⟩ := and2 c
  obtain ⟨c2, c⟩ := and2 c
  obtain ⟨c3, c4⟩ := and2 c
  exact ⟨c1, c2, c3, He.eqO_ok c4⟩
def icB (K : Fr) (C : Addr) : Bool := clB K C && (decide (PySem.W.findIn K (.ref C) "__class__" = some (some (.builtin "object.__class__"))) && (decide (PySem.W.specialIn K (.builtin "object.__class__") "__get__" = some (some (.builtin "getset_descriptor.__get__"))) && (decide (PySem.W.takesIn K (.builtin "object.__class__") = some true) && decide (PySem.W.mroIn K C (.type "object") = some true))))
theorem icB_ok {K : Fr} {C : Addr} (c : icB K C = true) : IsiC K C := by
  obtain ⟨c1, c⟩ := and2 c
  obtain ⟨c2, c⟩ := and2 c
  obtain ⟨c3, c⟩ := and2 c
  obtain ⟨c4, c5⟩ := and2 c
  exact ⟨clB_ok c1, of_decide_eq_true c2, of_decide_eq_true c3, of_decide_eq_true c4, of_decide_eq_true c5⟩
def hxB (K : Fr) (C : Addr) : Bool := (PySem.W.clsIn K C).isSome && (xfB K C && (decide (PySem.W.findIn K (.ref C) "__class__" = some (some (.builtin "object.__class__"))) && (decide (PySem.W.specialIn K (.builtin "object.__class__") "__get__" = some (some (.builtin "getset_descriptor.__get__"))) && (decide (PySem.W.takesIn K (.builtin "object.__class__") = some true) && decide (PySem.W.mroIn K C (.type "object") = some true)))))
theorem hxB_ok {K : Fr} {C : Addr} (c : hxB K C = true) : XcC K C := by
  obtain ⟨c1, c⟩ := and2 c
  obtain ⟨c0, c⟩ := and2 c
  obtain ⟨c2, c⟩ := and2 c
  obtain ⟨c3, c⟩ := and2 c
  obtain ⟨c4, c5⟩ := and2 c
  have x := xfB_ok c0
  exact ⟨c1, x.ga, x.gg, x.exC, x.hdC, of_decide_eq_true c2, of_decide_eq_true c3, of_decide_eq_true c4, of_decide_eq_true c5⟩
theorem lk_mem {α β : Type} [BEq α] [LawfulBEq α] {a : α} {b : β} : ∀ {l : List (α × β)}, l.lookup a = some b → (a, b) ∈ l
  | [], h => nomatch (show (none : Option β) = some b from h)
  | (x, y) :: r, h => by
    rw [List.lookup_cons] at h
    cases q : (a == x) with
    | true =>
      rw [q] at h
      have e : y = b := Option.some.inj h
      rw [eq_of_beq q, e]
      exact List.mem_cons_self
    | false =>
      rw [q] at h
      exact List.mem_cons_of_mem _ (lk_mem h)
def isB (cn : Nat → Str) (T : IsiT) (u : Fr → Value) (K : Fr) : Bool := T.all fun p => decide (PySem.W.kitOne K (kvK cn K p.1) (u K) = some p.2) && (match p.1 with
  | .own c => icB K (He.ga K (cn c))
  | _ => true)
theorem isB_ok {cn : Nat → Str} {T : IsiT} {u : Fr → Value} {K : Fr} {g : Option (Addr × Nat × Option Addr)} (c : isB cn T u K = true) : IsiOk K ⟨K, fun c => He.ga K (cn c), g⟩ (u K) T := by
  intro kd t h
  obtain ⟨h1, h2⟩ := and2 (List.all_eq_true.mp c _ (lk_mem h))
  refine ⟨?_, fun c e => ?_⟩
  · have := of_decide_eq_true h1
    cases kd <;> exact this
  · subst e
    exact icB_ok h2
def xiB (cn : Nat → Str) (T : XIsT) (u : Fr → Value) (K : Fr) : Bool := T.all fun p => decide (PySem.W.kitOne K (.ref (He.ga K (cn p.1))) (u K) = some p.2) && hxB K (He.ga K (cn p.1))
theorem xiB_ok {cn : Nat → Str} {T : XIsT} {u : Fr → Value} {K : Fr} {g : Option (Addr × Nat × Option Addr)} (c : xiB cn T u K = true) : XIsOk K ⟨K, fun c => He.ga K (cn c), g⟩ (u K) T := by
  intro kd t h
  obtain ⟨h1, h2⟩ := and2 (List.all_eq_true.mp c _ (lk_mem h))
  exact ⟨of_decide_eq_true h1, hxB_ok h2⟩
def flB (cn : Nat → Str) (T : Flds) (K : Fr) : Bool := T.all fun p => clB K (He.ga K (cn p.1)) && decide (PySem.W.findIn K (.ref (He.ga K (cn p.1))) p.2 = some none)
theorem flB_ok {cn : Nat → Str} {T : Flds} {K : Fr} {g : Option (Addr × Nat × Option Addr)} (c : flB cn T K = true) : FldsOk K ⟨K, fun c => He.ga K (cn c), g⟩ T := by
  intro p hp
  obtain ⟨h1, h2⟩ := and2 (List.all_eq_true.mp c _ hp)
  have h3 := of_decide_eq_true h2
  exact ⟨clB_ok h1, h3⟩
def xflB (cn : Nat → Str) (T : XFlds) (K : Fr) : Bool := T.all fun p => xfB K (He.ga K (cn p.1)) && decide (PySem.W.findIn K (.ref (He.ga K (cn p.1))) p.2 = some none)
theorem xflB_ok {cn : Nat → Str} {T : XFlds} {K : Fr} {g : Option (Addr × Nat × Option Addr)} (c : xflB cn T K = true) : XFldsOk K ⟨K, fun c => He.ga K (cn c), g⟩ T := by
  intro p hp
  obtain ⟨h1, h2⟩ := and2 (List.all_eq_true.mp c _ hp)
  exact ⟨xfB_ok h1, of_decide_eq_true h2⟩
def caB (cn : Nat → Str) (T : Catch) (x : Str) (K : Fr) : Bool := T.all fun p => decide (PySem.W.exmOne K (.ref (He.ga K (cn p.1))) (.ref (He.ga K x)) = some p.2)
theorem caB_ok {cn : Nat → Str} {T : Catch} {x : Str} {K : Fr} (h : caB cn T x K = true) : ∀ c t, T.lookup c = some t → PySem.W.exmOne K (.ref (He.ga K (cn c))) (.ref (He.ga K x)) = some t := fun c t e =>
  of_decide_eq_true (List.all_eq_true.mp h _ (lk_mem e))
/-! ### the Hook -/
abbrev AlV : Type := He.AlD × (Bool × List XW)
def obsV (fa : List He.Fa) (fn : List He.DefD) (ex : List (Fr → Bool)) (xs : List XD) (file : Str) (K : Fr) : AlV := (He.obsD fa fn K, (ex.all fun c => c K) && (xs.all fun d => d.ok K file), xs.map fun d => xW K d.x)
def valV (fn : List He.DefD) (xs : List XD) : AlV := (He.valD fn, true, xs.map XD.val)
def SaysV (fa : List He.Fa) (fn : List He.DefD) (ex : List (Fr → Bool)) (xs : List XD) (file : Str) (K : Fr) : Prop := obsV fa fn ex xs file K = valV fn xs
def obsVG (n : Nat) (fa : List He.Fa) (fn : List He.DefD) (ex : List (Fr → Bool)) (xs : List XD) (file : Str) (g : Addr → Option Obj) : AlV := obsV fa fn ex xs file (He.frG g (cStatics :: He.asD g n))
def hookV (n : Nat) (fa : List He.Fa) (fn : List He.DefD) (ex : List (Fr → Bool)) (xs : List XD) (file : Str) : PySem.W.Hook where
  α := AlV
  obs := fun s => obsVG n fa fn ex xs file s.heap.get?
  val := fun _ => valV fn xs
  says := fun _ h => ∃ K : Fr, K.In h ∧ SaysV fa fn ex xs file K
  of := fun _ _ e => ⟨_, He.frG_in, e⟩
  keeps := fun _ _ _ ⟨K, hK, c⟩ k => ⟨K, PySem.W.Frag.In.keeps hK k, c⟩
section
variable {n : Nat} {fa : List He.Fa} {fn : List He.DefD} {ex : List (Fr → Bool)} {xs : List XD} {file : Str} {K : Fr}
theorem obsVG_eq {g : Addr → Option Obj} {s : Shared} (h : ∀ a, g a = s.heap.get? a) : obsVG n fa fn ex xs file g = (hookV n fa fn ex xs file).obs s := by
  have e : g = s.heap.get? := funext h
  rw [e] <;> rfl
theorem SaysV.d (c : SaysV fa fn ex xs file K) : He.SaysD fa fn K := congrArg (fun z : AlV => z.1) c
theorem SaysV.ex_ (c : SaysV fa fn ex xs file K) (i : Nat) {f : Fr → Bool} (h : ex[i]? = some f) : f K = true := by
  have c1 := (and2 (show ((ex.all fun c => c K) && (xs.all fun d => d.ok K file)) = true from congrArg (fun z : AlV => z.2.1) c)).1
  exact List.all_eq_true.mp c1 f (List.mem_of_getElem? h)
theorem SaysV.xd (c : SaysV fa fn ex xs file K) (i : Nat) {d : XD} (h : xs[i]? = some d) : xW K d.x = d.val ∧ d.ok K file = true := by
  have c1 := (and2 (show ((ex.all fun c => c K) && (xs.all fun d => d.ok K file)) = true from congrArg (fun z : AlV => z.2.1) c)).2
  have e : xs.map (fun d => xW K d.x) = xs.map XD.val := congrArg (fun z : AlV => z.2.2) c
  have e2 : (xs.map fun d => xW K d.x)[i]? = (xs.map XD.val)[i]? := by rw [e]
  rw [List.getElem?_map, List.getElem?_map, h] at e2
  exact ⟨Option.some.inj e2, List.all_eq_true.mp c1 d (List.mem_of_getElem? h)⟩
end
/-! ### the ends -/
/-- what a def keeps at a level -/
structure AD (P : Program) (w : World) (K : Fr) (mg : Str → Option Value) (base : Heap) (cls : Nat → Addr) (k : Nat) (x : Str) (ps : List Str) (run : List Arg → DR) : Prop where
  ex : ∃ f fd, FnOk P w K mg base (L2N.CX P w) k f fd ps (spG ⟨K, cls, none⟩ ps.length run) ∧ mg x = some (.ref f) ∧ PySem.W.keepIn K (.ref f) = true ∧ Binds K fd ps []
structure AX (P : Program) (w : World) (K : Fr) (mg : Str → Option Value) (base : Heap) (cls : Nat → Addr) (k : Nat) (x : Str) (ps : List Str) (run : List Arg → DR) : Prop where
  ex : ∀ h, ∃ f fd, FnX P w K mg base ⟨K, cls, h⟩ k f fd ps (spG ⟨K, cls, h⟩ ps.length run) ∧ mg x = some (.ref f) ∧ PySem.W.keepIn K (.ref f) = true ∧ Binds K fd ps []
section
variable {P : Program} {w : World} {K : Fr} {mg : Str → Option Value} {base : Heap} {cls : Nat → Addr} {k : Nat} {x : Str} {ps : List Str} {run : List Arg → DR}
theorem AD.uf (h : AD P w K mg base cls k x ps run) : UF P w K mg base ⟨K, cls, none⟩ k x ps.length [] run := by
  obtain ⟨f, fd, h1, h2, h3, h4⟩ := h.ex
  exact ⟨f, fd, ps, [], [], h1, h2, h3, h4, .nil, fun F => reps_nil.mpr rfl⟩
theorem AX.ux (h : AX P w K mg base cls k x ps run) (a : Addr) (c : Nat) (d : Option Addr) : UX P w K mg base (Gx.heat ⟨K, cls, none⟩ a c d) k x ps.length [] run := by
  obtain ⟨f, fd, h1, h2, h3, h4⟩ := h.ex (some (a, c, d))
  exact ⟨f, fd, ps, [], [], h1, h2, h3, h4, .nil, fun F => reps_nil.mpr rfl⟩
theorem sp_bad {G : Gx} {n : Nat} {vs : List V} {H : Hp} {Q : VK} {E : XK} (h : spG G n (fun _ => .bad) vs H Q E) : False := by
  obtain ⟨_, F, me, as, _, _, z⟩ := h
  exact z
theorem AD.bad {f : Addr} {fd : FuncData} (h1 : mg x = some (.ref f)) (h2 : PySem.W.keepIn K (.ref f) = true) (h3 : Binds K fd ps []) (hr : run = fun _ => .bad) : AD P w K mg base cls k x ps run := by
  subst hr
  exact ⟨f, fd, ⟨fun _ _ _ _ h => (sp_bad h).elim, fun _ _ _ _ _ _ _ _ _ _ _ _ _ h => (sp_bad h).elim⟩, h1, h2, h3⟩
theorem AX.bad {f : Addr} {fd : FuncData} (h1 : mg x = some (.ref f)) (h2 : PySem.W.keepIn K (.ref f) = true) (h3 : Binds K fd ps []) (hr : run = fun _ => .bad) : AX P w K mg base cls k x ps run := by
  subst hr
  exact ⟨fun h => ⟨f, fd, ⟨fun _ _ _ _ h => (sp_bad h).elim, fun _ _ _ _ _ _ _ _ _ _ _ _ _ _ _ _ _ _ _ _ _ _ h => (sp_bad h).elim⟩, h1, h2, h3⟩⟩
/-- what the law's caller asks -/
theorem law_sp {G : Gx} {H : Hp} {a : Addr} {ns : List Int} {f : List Arg → DR} (hS : SqL G.K H a (ns.map V.int)) (hm : f [(.sh, .scr ns)] = .ok (.sh (.bl true)) none) : spG G 1 f [.ref a] H (fun v _ => v = .bl true) fun _ _ _ => False := by
  refine ⟨rfl, H, none, [(.sh, .scr ns)], by rw [les_none]; exact Sub.rfl', ⟨rfl, fun i p e => ?_, fun a e => nomatch e⟩, ?_⟩
  · match i, e with
    | 0, e =>
      injection e with e
      subst e
      exact ⟨_, rfl, by show Rep G H (.scr ns) _; unfold Rep; exact ⟨a, rfl, hS⟩⟩
  · unfold PostD
    rw [hm]
    exact fun v F' H' _ (hr : Rep G F' (.bl true) v) _ => rep_bl.mp hr
theorem no_air {P : Program} {w : World} {H : Hp} {s : Shared} {e : Value} {s' : Shared} (h : L2N.CX P w [] H s (fun _ _ _ => False) e s') : False := by
  obtain ⟨_, _, _, _, _, _, _, _, _, _, _, _, z⟩ := h
  exact z
end
end VL

set_option maxHeartbeats 200000
/-! The value layer: evaluation. -/
namespace VL
open PySem PySem.Spec L2
/-! ### sequences -/
def Res.thn {α : Type} (r : Res α) (k : α → SM) : SR := match r with
  | .ok a ρ => k a ρ
  | .exc x ρ => .exc x ρ
  | .bad => .bad
def SR.seq (r : SR) (b : SM) : SR := match r with
  | .nx ρ => b ρ
  | r => r
section
variable {α β : Type} {ρ ρ1 : VEnv} {i : Nat} {d a b : D} {m : M α} {x : Xd}
@[simp] theorem bind_e {k : α → M β} : M.bind m k ρ = (m ρ).bind k := id rfl
@[simp] theorem pure_e {a : α} : (M.pure a : M α) ρ = .ok a ρ := id rfl
@[simp] theorem ok_b {a : α} {k : α → M β} : (Res.ok a ρ).bind k = k a ρ := id rfl
@[simp] theorem exc_b {k : α → M β} : (Res.exc x ρ : Res α).bind k = .exc x ρ := id rfl
@[simp] theorem ok_t {a : α} {k : α → SM} : (Res.ok a ρ).thn k = k a ρ := id rfl
@[simp] theorem exc_t {k : α → SM} : (Res.exc x ρ : Res α).thn k = .exc x ρ := id rfl
@[simp] theorem then_e {k : α → SM} : thenS m k ρ = (m ρ).thn k := id rfl
@[simp] theorem seq_e {p q : SM} : sSeq p q ρ = (p ρ).seq q := by
  unfold sSeq SR.seq
  cases p ρ <;> rfl
@[simp] theorem nx_s {q : SM} : (SR.nx ρ).seq q = q ρ := id rfl
@[simp] theorem rt_s {q : SM} {r : Rv} : (SR.rt r ρ).seq q = .rt r ρ := id rfl
@[simp] theorem exc_s {q : SM} : (SR.exc x ρ).seq q = .exc x ρ := id rfl
@[simp] theorem ct_s {q : SM} : (SR.ct ρ).seq q = .ct ρ := id rfl
@[simp] theorem bk_s {q : SM} : (SR.bk ρ).seq q = .bk ρ := id rfl
@[simp] theorem next_e : sNext ρ = .nx ρ := id rfl
@[simp] theorem set_e {m : M Rv} : sSet i m ρ = (m ρ).thn (setRv i) := id rfl
@[simp] theorem setsh_e : setRv i (.sh d) ρ = .nx (ρ.set i (some (.sh, d))) := id rfl
@[simp] theorem settm_e : setRv i (.tm d) ρ = .nx (ρ.set i (some (.ow, d))) := id rfl
@[simp] theorem ret_e {m : M Rv} : sRet m ρ = (m ρ).thn fun r ρ => .rt r ρ := id rfl
@[simp] theorem drop_e : sDrop m ρ = (m ρ).thn fun _ ρ => .nx ρ := id rfl
def sel {β : Type} (c : Bool) (p q : β) : β := match c with
  | true => p
  | false => q
@[simp] theorem sel_t {β : Type} {p q : β} : sel true p q = p := id rfl
@[simp] theorem sel_f {β : Type} {p q : β} : sel false p q = q := id rfl
@[simp] theorem if_e {t : M Bool} {p q : SM} : sIf t p q ρ = (t ρ).thn fun c => sel c p q := by
  show thenS t _ ρ = _
  unfold thenS Res.thn
  cases t ρ with
  | ok c ρ2 => cases c <;> rfl
  | _ => rfl
@[simp] theorem for_e {mi : M (List D)} {f : D → VEnv → Option VEnv} {p : SM} : sFor mi f p ρ = (mi ρ).thn fun ds => forS f p ds := id rfl
/-! ### expressions -/
@[simp] theorem cst_e : mCst d ρ = .ok (.sh d) ρ := id rfl
def varR (i : Nat) (s : Option Slot) (ρ : VEnv) : Res Rv := match s with
  | some (some (.sh, d)) => .ok (.sh d) ρ
  | some (some _) => .ok (.pk i) ρ
  | _ => .bad
@[simp] theorem var_e : mVar i ρ = varR i ρ[i]? ρ := id rfl
@[simp] theorem varR_sh : varR i (some (some (.sh, d))) ρ = .ok (.sh d) ρ := id rfl
@[simp] theorem varR_ro : varR i (some (some (.ro, d))) ρ = .ok (.pk i) ρ := id rfl
@[simp] theorem varR_ow : varR i (some (some (.ow, d))) ρ = .ok (.pk i) ρ := id rfl
def frzR (i : Nat) (s : Option Slot) (ρ : VEnv) : Res Rv := match s with
  | some (some (.sh, d)) => .ok (.sh d) ρ
  | some (some (.ow, d)) => .ok (.sh d) (ρ.set i (some (.sh, d)))
  | some (some (.ro, _)) => .ok (.pk i) ρ
  | _ => .bad
@[simp] theorem frz_e : mFrz i ρ = frzR i ρ[i]? ρ := id rfl
@[simp] theorem frzR_sh : frzR i (some (some (.sh, d))) ρ = .ok (.sh d) ρ := id rfl
@[simp] theorem frzR_ro : frzR i (some (some (.ro, d))) ρ = .ok (.pk i) ρ := id rfl
@[simp] theorem frzR_ow : frzR i (some (some (.ow, d))) ρ = .ok (.sh d) (ρ.set i (some (.sh, d))) := id rfl
@[simp] theorem rd_sh : rdR (.sh d) ρ = some d := id rfl
@[simp] theorem rd_tm : rdR (.tm d) ρ = some d := id rfl
def rdS (s : Option Slot) : Option D := match s with
  | some (some (_, d)) => some d
  | _ => none
@[simp] theorem rd_pk : rdR (.pk i) ρ = rdS ρ[i]? := id rfl
@[simp] theorem rdS_e {m : Md} : rdS (some (some (m, d))) = some d := id rfl
def opO (o : Option Rv) (ρ : VEnv) : Res Rv := match o with
  | some r => .ok r ρ
  | none => .bad
@[simp] theorem opO_e {r : Rv} : opO (some r) ρ = .ok r ρ := id rfl
def op2 (f2 : D → D → Option Rv) (x y : Option D) (ρ : VEnv) : Res Rv := match x, y with
  | some a, some b => opO (f2 a b) ρ
  | _, _ => .bad
@[simp] theorem op2_e {f2 : D → D → Option Rv} : op2 f2 (some a) (some b) ρ = opO (f2 a b) ρ := id rfl
@[simp] theorem mop2_e {f2 : D → D → Option Rv} {ra rb : Rv} : mOp2 f2 ra rb ρ = op2 f2 (rdR ra ρ) (rdR rb ρ) ρ := by
  unfold mOp2 op2 opO
  cases rdR ra ρ <;> cases rdR rb ρ <;> rfl
@[simp] theorem bin_e {f2 : D → D → Option Rv} {ma mb : M Rv} : mBin f2 ma mb ρ = (ma ρ).bind fun ra => mb.bind fun rb => mOp2 f2 ra rb := id rfl
@[simp] theorem asB_e {c : Bool} : asB (.sh (.bl c)) ρ = .ok c ρ := id rfl
@[simp] theorem shR_sh : shR (.sh d) ρ = .ok d ρ := id rfl
@[simp] theorem shR_tm : shR (.tm d) ρ = .ok d ρ := id rfl
@[simp] theorem cons_e {ma : M Rv} {ms : M (List Rv)} : mCons ma ms ρ = (ma ρ).bind fun r => ms.bind fun rs => M.pure (r :: rs) := id rfl
@[simp] theorem consD_e {ma : M D} {ms : M (List D)} : mConsD ma ms ρ = (ma ρ).bind fun r => ms.bind fun rs => M.pure (r :: rs) := id rfl
def callO (g : List D → Option Rv) (o : Option (List D)) (ρ : VEnv) : Res Rv := match o with
  | some ds => opO (g ds) ρ
  | none => .bad
@[simp] theorem callO_e {g : List D → Option Rv} {ds : List D} : callO g (some ds) ρ = opO (g ds) ρ := id rfl
@[simp] theorem callE_e {g : List D → Option Rv} {rs : List Rv} : mCallE g rs ρ = callO g (rdRs rs ρ) ρ := by
  unfold mCallE callO opO
  cases rdRs rs ρ <;> rfl
@[simp] theorem call_e {g : List D → Option Rv} {ms : M (List Rv)} : mCall g ms ρ = (ms ρ).bind (mCallE g) := id rfl
@[simp] theorem rdRs_nil : rdRs [] ρ = some [] := id rfl
def rdC (x : Option D) (y : Option (List D)) : Option (List D) := match x, y with
  | some a, some b => some (a :: b)
  | _, _ => none
@[simp] theorem rdC_e {ds : List D} : rdC (some d) (some ds) = some (d :: ds) := id rfl
@[simp] theorem rdRs_cons {r : Rv} {rs : List Rv} : rdRs (r :: rs) ρ = rdC (rdR r ρ) (rdRs rs ρ) := by
  unfold rdC
  conv => lhs; unfold rdRs
  all_goals (cases rdR r ρ <;> cases rdRs rs ρ <;> rfl)
@[simp] theorem not_e {t : M Bool} : mNot t ρ = (t ρ).bind fun c => M.pure (!c) := id rfl
@[simp] theorem and_e {s t : M Bool} : mAnd s t ρ = (s ρ).bind fun c => sel c t (M.pure false) := by
  show (s ρ).bind _ = _
  cases s ρ with
  | ok c ρ2 => cases c <;> rfl
  | _ => rfl
@[simp] theorem or_e {s t : M Bool} : mOr s t ρ = (s ρ).bind fun c => sel c (M.pure true) t := by
  show (s ρ).bind _ = _
  cases s ρ with
  | ok c ρ2 => cases c <;> rfl
  | _ => rfl
@[simp] theorem andV_e {s t : M Rv} : mAndV s t ρ = ((s ρ).bind asB).bind fun c => sel c t (mCst (.bl false)) := by
  show ((s ρ).bind asB).bind _ = _
  cases (s ρ).bind asB with
  | ok c ρ2 => cases c <;> rfl
  | _ => rfl
@[simp] theorem orV_e {s t : M Rv} : mOrV s t ρ = ((s ρ).bind asB).bind fun c => sel c (mCst (.bl true)) t := by
  show ((s ρ).bind asB).bind _ = _
  cases (s ρ).bind asB with
  | ok c ρ2 => cases c <;> rfl
  | _ => rfl
@[simp] theorem mif_e {t : M Bool} {p q : M β} : mIf t p q ρ = (t ρ).bind fun c => sel c p q := by
  show (t ρ).bind _ = _
  cases t ρ with
  | ok c ρ2 => cases c <;> rfl
  | _ => rfl
@[simp] theorem chain_e {f g : D → D → Option Rv} {ma mb mc : M Rv} : mChain f g ma mb mc ρ = (ma ρ).bind fun ra => mb.bind fun rb => (mOp2 f ra rb).bind fun r => (asB r).bind fun k => sel k (mc.bind fun rc => (mOp2 g rb rc).bind asB) (M.pure false) := id rfl
def truR (o : Option D) (ρ : VEnv) : Res Bool := match o with
  | some d => (match truthD d with
    | some b => .ok b ρ
    | none => .bad)
  | none => .bad
@[simp] theorem truth_bl {c : Bool} : mTruth (.sh (.bl c)) ρ = .ok c ρ := id rfl
@[simp] theorem mtup_e {ms : M (List D)} : mTup ms ρ = (ms ρ).bind fun ds => if ds.length ≤ lim then M.pure (.sh (.tup ds)) else bad := id rfl
@[simp] theorem mlst_e {ms : M (List D)} : mLst ms ρ = (ms ρ).bind fun ds => if ds.length ≤ lim then M.pure (.tm (.lst ds)) else bad := id rfl
/-! ### what is gone over -/
@[simp] theorem src_sh : srcM (.sh d) ρ = ofO (itemsD d) ρ := id rfl
@[simp] theorem src_tm : srcM (.tm d) ρ = ofO (itemsD d) ρ := id rfl
@[simp] theorem src_pk : srcM (.pk i) ρ = ofO ((roD ρ[i]?).bind itemsD) ρ := id rfl
@[simp] theorem ro_e : roD (some (some (.ro, d))) = some d := id rfl
@[simp] theorem ofO_e {a : α} : ofO (some a) ρ = .ok a ρ := id rfl
/-! ### calls -/
def useO (n : Nat) (run : List Arg → DR) (dd : List D) (o : Option (List Arg)) (ρ : VEnv) : Res Rv := match o with
  | some as => if (as ++ dArgs dd).length = n then (match run (as ++ dArgs dd) with
      | .ok r _ => .ok r ρ
      | .exc x => .exc x ρ
      | .bad => .bad)
    else .bad
  | none => .bad
@[simp] theorem user_e {n : Nat} {run : List Arg → DR} {dd : List D} {ms : M (List Rv)} : mUser run n dd ms ρ = (ms ρ).bind fun rs ρ => useO n run dd (argsD none rs ρ) ρ := id rfl
def rvD : DR → VEnv → Res Rv
  | .ok r _, ρ => .ok r ρ
  | .exc x, ρ => .exc x ρ
  | .bad, _ => .bad
@[simp] theorem use_e {n : Nat} {run : List Arg → DR} {as : List Arg} : useO n run [] (some as) ρ = if as.length = n then rvD (run as) ρ else .bad := by
  unfold useO dArgs
  simp only [List.map_nil, List.append_nil]
  split
  · cases run as <;> rfl
  · rfl
@[simp] theorem rvD_ok {r : Rv} {o : Option D} : rvD (.ok r o) ρ = .ok r ρ := id rfl
@[simp] theorem rvD_exc : rvD (.exc x) ρ = .exc x ρ := id rfl
@[simp] theorem args_nil : argsD none [] ρ = some [] := id rfl
def argS (s : Option Slot) : Option Arg := match s with
  | some (some (m, d)) => some (if m = .sh then .sh else .ro, d)
  | _ => none
@[simp] theorem argS_sh : argS (some (some (.sh, d))) = some (.sh, d) := id rfl
@[simp] theorem argS_ro : argS (some (some (.ro, d))) = some (.ro, d) := id rfl
@[simp] theorem argS_ow : argS (some (some (.ow, d))) = some (.ro, d) := id rfl
def argC (x : Option Arg) (y : Option (List Arg)) : Option (List Arg) := match x, y with
  | some a, some b => some (a :: b)
  | _, _ => none
@[simp] theorem argC_e {p : Arg} {ps : List Arg} : argC (some p) (some ps) = some (p :: ps) := id rfl
@[simp] theorem args_sh {rs : List Rv} : argsD none (.sh d :: rs) ρ = argC (some (.sh, d)) (argsD none rs ρ) := by
  conv => lhs; unfold argsD argD
  unfold argC
  cases argsD none rs ρ <;> rfl
@[simp] theorem args_tm {rs : List Rv} : argsD none (.tm d :: rs) ρ = argC (some (.sh, d)) (argsD none rs ρ) := by
  conv => lhs; unfold argsD argD
  unfold argC
  cases argsD none rs ρ <;> rfl
@[simp] theorem args_pk {rs : List Rv} : argsD none (.pk i :: rs) ρ = argC (argS ρ[i]?) (argsD none rs ρ) := by
  conv => lhs; unfold argsD argD
  unfold argC argS
  simp only [reduceCtorEq, if_false]
  all_goals (
    cases h : ρ[i]? with
    | none => cases argsD none rs ρ <;> rfl
    | some s => cases s with
      | none => cases argsD none rs ρ <;> rfl
      | some p => obtain ⟨m, d⟩ := p; cases argsD none rs ρ <;> rfl)
/-! ### lists -/
@[simp] theorem tgName_e : tgName i d ρ = some (ρ.set i (some (.sh, d))) := id rfl
@[simp] theorem tgTup_e {n : Nat} {g : List D → VEnv → Option VEnv} {ds : List D} : tgTup n g (.tup ds) ρ = if ds.length = n then g ds ρ else none := id rfl
@[simp] theorem tgCons_e {f : D → VEnv → Option VEnv} {g : List D → VEnv → Option VEnv} {ds : List D} : tgCons f g (d :: ds) ρ = (f d ρ).bind fun ρ' => g ds ρ' := id rfl
@[simp] theorem tgNil_e : tgNil [] ρ = some ρ := id rfl
theorem lcg {f : D → VEnv → Option VEnv} {tt : M Bool} {te : M D} {vs : List Nat} {p : D → Bool} {g : D → D} : ∀ (ds acc : List D), (∀ d ∈ ds, ∃ ρ1, f d (wipeE ρ vs) = some ρ1 ∧ ∃ ρ2, tt ρ1 = .ok (p d) ρ2 ∧ if p d = true then (∃ ρ3, te ρ2 = .ok (g d) ρ3 ∧ backE ρ ρ3 vs = ρ) else backE ρ ρ2 vs = ρ) → acc.length + ds.length ≤ lim →
    lcGo f tt te vs ds acc ρ = .ok (acc ++ (ds.filter p).map g) ρ
  | [], acc, _, _ => by simp [lcGo]
  | d :: ds, acc, h, hl => by
    obtain ⟨ρ1, h1, ρ2, h2, h3⟩ := h d List.mem_cons_self
    have ih := fun a hl => lcg ds a (fun d hd => h d (List.mem_cons_of_mem _ hd)) hl
    rw [List.length_cons] at hl
    unfold lcGo
    rw [h1]
    simp only [h2]
    cases hp : p d with
    | true =>
      rw [hp, if_pos rfl] at h3
      obtain ⟨ρ3, h4, h5⟩ := h3
      simp only [h4]
      rw [if_pos (by omega), h5, ih _ (by simp; omega)]
      simp [List.filter_cons, hp]
    | false =>
      rw [hp, if_neg (by simp)] at h3
      simp only [h3]
      rw [ih _ (by omega)]
      simp [List.filter_cons, hp]
theorem lc_all {mi : M (List D)} {f : D → VEnv → Option VEnv} {tt : M Bool} {te : M D} {vs : List Nat} (ds : List D) (p : D → Bool) (g : D → D) (hi : mi ρ1 = .ok ds ρ) (h : ∀ d ∈ ds, ∃ ρ1, f d (wipeE ρ vs) = some ρ1 ∧ ∃ ρ2, tt ρ1 = .ok (p d) ρ2 ∧ if p d = true then (∃ ρ3, te ρ2 = .ok (g d) ρ3 ∧ backE ρ ρ3 vs = ρ) else backE ρ ρ2 vs = ρ) (hl : ds.length ≤ lim) :
    lcM mi f tt te vs ρ1 = .ok (.tm (.lst ((ds.filter p).map g))) ρ := by
  unfold lcM
  simp only [bind_e, hi, ok_b]
  rw [lcg ds [] h (by simpa using hl)]
  rfl
/-! ### loops -/
theorem for_seq {f : D → VEnv → Option VEnv} {b rest : SM} {R : SR → Prop} (I : List D → VEnv → Prop) (hend : ∀ ρ, I [] ρ → R (rest ρ)) :
    ∀ (ds : List D) (ρ : VEnv), I ds ρ → (∀ d ds ρ, I (d :: ds) ρ → ∃ ρ1, f d ρ = some ρ1 ∧ ((∃ ρ2, b ρ1 = .nx ρ2 ∧ I ds ρ2) ∨ (∃ r ρ2, b ρ1 = .rt r ρ2 ∧ R (.rt r ρ2)) ∨ (∃ x ρ2, b ρ1 = .exc x ρ2 ∧ R (.exc x ρ2)))) → R ((forS f b ds ρ).seq rest)
  | [], ρ, h, _ => hend ρ h
  | d :: ds, ρ, h, hs => by
    obtain ⟨ρ1, e1, e⟩ := hs d ds ρ h
    have ih := fun ρ h => for_seq I hend ds ρ h hs
    unfold forS
    rw [e1]
    rcases e with ⟨ρ2, e2, h2⟩ | ⟨r, ρ2, e2, h2⟩ | ⟨x, ρ2, e2, h2⟩
    · simp only [e2]
      exact ih ρ2 h2
    · simp only [e2]
      exact h2
    · simp only [e2]
      exact h2
/-! ### ends -/
theorem run_ok {n : Nat} {m : SM} {as : List Arg} {r : Rv} {ρ : VEnv} (h : m (slots n as) = .rt r ρ) (hr : ∀ i, r ≠ .pk i) (ha : ∀ d, as[0]? ≠ some (.me, d)) : runB n m as = .ok r none := by
  unfold runB
  rw [h]
  unfold endR
  cases r with
  | pk i => exact absurd rfl (hr i)
  | sh d =>
    show (match as[0]? with
      | some (Md.me, _) => _
      | _ => DR.ok (.sh d) none) = _
    split
    · rename_i d0 e
      exact absurd e (ha _)
    · rfl
  | tm d =>
    show (match as[0]? with
      | some (Md.me, _) => _
      | _ => DR.ok (.tm d) none) = _
    split
    · rename_i d0 e
      exact absurd e (ha _)
    · rfl
theorem run_rt {n : Nat} {m : SM} {as : List Arg} {r : Rv} (h : ∃ ρ, m (slots n as) = .rt r ρ) (hr : ∀ i, r ≠ .pk i) (ha : ∀ d, as[0]? ≠ some (.me, d)) : runB n m as = .ok r none := by
  obtain ⟨ρ, h⟩ := h
  exact run_ok h hr ha
theorem run_nx {n : Nat} {m : SM} {as : List Arg} {ρ : VEnv} (h : m (slots n as) = .nx ρ) (ha : ∀ d, as[0]? ≠ some (.me, d)) : runB n m as = .ok (.sh .non) none := by
  unfold runB
  rw [h]
  unfold endR
  show (match as[0]? with
      | some (Md.me, _) => _
      | _ => DR.ok (.sh .non) none) = _
  split
  · rename_i d0 e
    exact absurd e (ha _)
  · rfl
theorem run_exc {n : Nat} {m : SM} {as : List Arg} {x : Xd} {ρ : VEnv} (h : m (slots n as) = .exc x ρ) : runB n m as = .exc x := by
  unfold runB
  rw [h]
end
/-! ### operators at plain data -/
section
variable {i j : Int} {b c : Bool}
@[simp] theorem add_i : addD (.int i) (.int j) = some (.sh (.int (i + j))) := id rfl
@[simp] theorem sub_i : subD (.int i) (.int j) = some (.sh (.int (i - j))) := id rfl
theorem mul_i (h : i.natAbs.log2 + j.natAbs.log2 < 1000000) : mulD (.int i) (.int j) = some (.sh (.int (i * j))) := if_pos (.inr (.inr h))
theorem mod_i (h : 0 < j) : modD (.int i) (.int j) = some (.sh (.int (i % j))) := if_pos h
theorem fdiv_i (h : 0 < j) (h2 : j.natAbs.log2 < 9000) : fdivD (.int i) (.int j) = some (.sh (.int (i / j))) := if_pos ⟨h, h2⟩
@[simp] theorem int_i : intD [.int i] = some (.sh (.int i)) := id rfl
@[simp] theorem abs_i : absD [.int i] = some (.sh (.int i.natAbs)) := by
  show some (Rv.sh (D.int (if i < 0 then -i else i))) = _
  congr 3
  split <;> omega
@[simp] theorem lt_i : ltD (.int i) (.int j) = some (.sh (.bl (decide (i < j)))) := by
  unfold ltD cmpB
  simp [toPy, PySem.W.alike, PyData.depth, isNonP, PySem.W.dataLt_int]
@[simp] theorem gt_i : gtD (.int i) (.int j) = some (.sh (.bl (decide (j < i)))) := by
  unfold gtD cmpB
  simp [toPy, PySem.W.alike, PyData.depth, isNonP, PySem.W.dataLt_int]
@[simp] theorem le_i : leD (.int i) (.int j) = some (.sh (.bl (decide (i ≤ j)))) := by
  unfold leD cmpB
  simp [toPy, PySem.W.alike, PyData.depth, isNonP, PySem.W.dataLt_int]
  rw [Bool.eq_iff_iff]
  simp
@[simp] theorem ge_i : geD (.int i) (.int j) = some (.sh (.bl (decide (j ≤ i)))) := by
  unfold geD cmpB
  simp [toPy, PySem.W.alike, PyData.depth, isNonP, PySem.W.dataLt_int]
  rw [Bool.eq_iff_iff]
  simp
@[simp] theorem eq_i : eqD (.int i) (.int j) = some (.sh (.bl (decide (i = j)))) := by
  unfold eqD eqB
  simp [toPy, SeqAt.shaped, PyData.canLay0, PyData.depth, PyData.eqv]
  rw [Bool.eq_iff_iff]
  simp
@[simp] theorem ne_i : neD (.int i) (.int j) = some (.sh (.bl (!decide (i = j)))) := by
  unfold neD eqB
  simp [toPy, SeqAt.shaped, PyData.canLay0, PyData.depth, PyData.eqv]
  rw [Bool.eq_iff_iff]
  simp
/-- a row of numbers, read -/
def vecL (r : List Int) : D := .lst (r.map .int)
def vecT (r : List Int) : D := .tup (r.map .int)
theorem toPys_int (r : List Int) : toPys (r.map .int) = some (r.map PyData.int) := by
  induction r with
  | nil => rfl
  | cons x r ih => simp [toPys, toPy, ih]
theorem eqv_ints (r s : List Int) : PyData.eqvAll (r.map PyData.int) (s.map PyData.int) = decide (r = s) := by
  induction r generalizing s with
  | nil => cases s <;> simp [PyData.eqvAll]
  | cons x r ih => cases s with
    | nil => simp [PyData.eqvAll]
    | cons y s => simp [PyData.eqvAll, PyData.eqv, ih]; rw [Bool.eq_iff_iff]; simp
theorem ix_l {xs : List D} {k : Nat} {d : D} (h : xs[k]? = some d) : ixD (.lst xs) (.int k) = some (.sh d) := by
  have hk := (List.getElem?_eq_some_iff.mp h).1
  show (atI xs (k : Int)).map Rv.sh = _
  unfold atI ixN
  rw [if_pos (by omega)]
  have e := (List.getElem?_eq_some_iff.mp h).2
  simp [hk, e]
theorem ix_t {xs : List D} {k : Nat} {d : D} (h : xs[k]? = some d) : ixD (.tup xs) (.int k) = some (.sh d) := by
  have hk := (List.getElem?_eq_some_iff.mp h).1
  show (atI xs (k : Int)).map Rv.sh = _
  unfold atI ixN
  rw [if_pos (by omega)]
  have e := (List.getElem?_eq_some_iff.mp h).2
  simp [hk, e]
@[simp] theorem len_l {xs : List D} : lenD [.lst xs] = some (.sh (.int xs.length)) := id rfl
@[simp] theorem len_t {xs : List D} : lenD [.tup xs] = some (.sh (.int xs.length)) := id rfl
@[simp] theorem tupleD_l {xs : List D} : tupleD [.lst xs] = some (.sh (.tup xs)) := id rfl
@[simp] theorem tupleD_t {xs : List D} : tupleD [.tup xs] = some (.sh (.tup xs)) := id rfl
@[simp] theorem listD_l {xs : List D} : listD [.lst xs] = some (.tm (.lst xs)) := id rfl
@[simp] theorem listD_t {xs : List D} : listD [.tup xs] = some (.tm (.lst xs)) := id rfl
theorem lc_same {ρ : VEnv} {mi : M (List D)} {f : D → VEnv → Option VEnv} {tt : M Bool} {te : M D} {vs : List Nat} (ds : List D) (p : D → Bool) (g : D → D) (hi : mi ρ = .ok ds ρ) (h : ∀ d ∈ ds, ∃ ρ1, f d (wipeE ρ vs) = some ρ1 ∧ ∃ ρ2, tt ρ1 = .ok (p d) ρ2 ∧ if p d = true then (∃ ρ3, te ρ2 = .ok (g d) ρ3 ∧ backE ρ ρ3 vs = ρ) else backE ρ ρ2 vs = ρ) (hl : ds.length ≤ lim) :
    lcM mi f tt te vs ρ = .ok (.tm (.lst ((ds.filter p).map g))) ρ := lc_all ds p g hi h hl
/-- over the image of a list -/
theorem lc_map {α : Type} {ρ : VEnv} {mi : M (List D)} {f : D → VEnv → Option VEnv} {tt : M Bool} {te : M D} {vs : List Nat} (xs : List α) (e : α → D) (p : α → Bool) (g : α → D) (hi : mi ρ = .ok (xs.map e) ρ) (hl : xs.length ≤ lim)
    (h : ∀ x ∈ xs, ∃ ρ1, f (e x) (wipeE ρ vs) = some ρ1 ∧ ∃ ρ2, tt ρ1 = .ok (p x) ρ2 ∧ if p x = true then (∃ ρ3, te ρ2 = .ok (g x) ρ3 ∧ backE ρ ρ3 vs = ρ) else backE ρ ρ2 vs = ρ) :
    lcM mi f tt te vs ρ = .ok (.tm (.lst ((xs.filter p).map g))) ρ := by
  have go : ∀ (xs : List α) (acc : List D), (∀ x ∈ xs, ∃ ρ1, f (e x) (wipeE ρ vs) = some ρ1 ∧ ∃ ρ2, tt ρ1 = .ok (p x) ρ2 ∧ if p x = true then (∃ ρ3, te ρ2 = .ok (g x) ρ3 ∧ backE ρ ρ3 vs = ρ) else backE ρ ρ2 vs = ρ) → acc.length + xs.length ≤ lim →
      lcGo f tt te vs (xs.map e) acc ρ = .ok (acc ++ (xs.filter p).map g) ρ := by
    intro xs
    induction xs with
    | nil => intro acc _ _; simp [lcGo]
    | cons x xs ih =>
      intro acc h hl
      obtain ⟨ρ1, h1, ρ2, h2, h3⟩ := h x List.mem_cons_self
      have ih := fun a hl => ih a (fun d hd => h d (List.mem_cons_of_mem _ hd)) hl
      rw [List.length_cons] at hl
      rw [List.map_cons]
      unfold lcGo
      rw [h1]
      simp only [h2]
      cases hp : p x with
      | true =>
        rw [hp, if_pos rfl] at h3
        obtain ⟨ρ3, h4, h5⟩ := h3
        simp only [h4]
        rw [if_pos (by omega), h5, ih _ (by simp; omega)]
        simp [List.filter_cons, hp]
      | false =>
        rw [hp, if_neg (by simp)] at h3
        simp only [h3]
        rw [ih _ (by omega)]
        simp [List.filter_cons, hp]
  unfold lcM
  simp only [bind_e, hi, ok_b]
  rw [go xs [] h (by simpa using hl)]
  rfl
theorem ixz_l {xs : List D} {i : Int} (h0 : 0 ≤ i) (h : i < xs.length) : ixD (.lst xs) (.int i) = some (.sh (xs.getD i.toNat .non)) := by
  obtain ⟨k, rfl⟩ : ∃ k : Nat, i = k := ⟨i.toNat, by omega⟩
  have hk : k < xs.length := by omega
  rw [ix_l (d := xs[k]) (by simp [hk])]
  simp [hk]
theorem ixz_t {xs : List D} {i : Int} (h0 : 0 ≤ i) (h : i < xs.length) : ixD (.tup xs) (.int i) = some (.sh (xs.getD i.toNat .non)) := by
  obtain ⟨k, rfl⟩ : ∃ k : Nat, i = k := ⟨i.toNat, by omega⟩
  have hk : k < xs.length := by omega
  rw [ix_t (d := xs[k]) (by simp [hk])]
  simp [hk]
def gi (r : List Int) (i : Int) : Int := r.getD i.toNat 0
def gr (t : List (List Int)) (i : Int) : List Int := t.getD i.toNat []
theorem getD_map {α : Type} {f : α → D} {xs : List α} {k : Nat} {a0 : α} {d0 : D} (h : k < xs.length) : (xs.map f).getD k d0 = f (xs.getD k a0) := by
  simp [h]
theorem ix_vl {r : List Int} {i : Int} (h0 : 0 ≤ i) (h : i < r.length) : ixD (vecL r) (.int i) = some (.sh (.int (gi r i))) := by
  unfold vecL gi
  rw [ixz_l h0 (by simpa using h), getD_map (a0 := 0) (by omega)]
theorem ix_vt {r : List Int} {i : Int} (h0 : 0 ≤ i) (h : i < r.length) : ixD (vecT r) (.int i) = some (.sh (.int (gi r i))) := by
  unfold vecT gi
  rw [ixz_t h0 (by simpa using h), getD_map (a0 := 0) (by omega)]
def tabL (t : List (List Int)) : D := .lst (t.map vecL)
def tabT (t : List (List Int)) : D := .tup (t.map vecT)
theorem ix_tl {t : List (List Int)} {i : Int} (h0 : 0 ≤ i) (h : i < t.length) : ixD (tabL t) (.int i) = some (.sh (vecL (gr t i))) := by
  unfold tabL gr
  rw [ixz_l h0 (by simpa using h), getD_map (a0 := []) (by omega)]
theorem ix_tt {t : List (List Int)} {i : Int} (h0 : 0 ≤ i) (h : i < t.length) : ixD (tabT t) (.int i) = some (.sh (vecT (gr t i))) := by
  unfold tabT gr
  rw [ixz_t h0 (by simpa using h), getD_map (a0 := []) (by omega)]
@[simp] theorem len_vl {r : List Int} : lenD [vecL r] = some (.sh (.int r.length)) := by simp [vecL]
@[simp] theorem len_vt {r : List Int} : lenD [vecT r] = some (.sh (.int r.length)) := by simp [vecT]
@[simp] theorem len_tl {t : List (List Int)} : lenD [tabL t] = some (.sh (.int t.length)) := by simp [tabL]
@[simp] theorem len_tt {t : List (List Int)} : lenD [tabT t] = some (.sh (.int t.length)) := by simp [tabT]
@[simp] theorem it_l {xs : List D} : itemsD (.lst xs) = some xs := id rfl
@[simp] theorem it_t {xs : List D} : itemsD (.tup xs) = some xs := id rfl
@[simp] theorem it_vl {r : List Int} : itemsD (vecL r) = some (r.map .int) := id rfl
@[simp] theorem it_vt {r : List Int} : itemsD (vecT r) = some (r.map .int) := id rfl
@[simp] theorem it_tl {t : List (List Int)} : itemsD (tabL t) = some (t.map vecL) := id rfl
@[simp] theorem it_tt {t : List (List Int)} : itemsD (tabT t) = some (t.map vecT) := id rfl
@[simp] theorem ints_of (r : List Int) : intsOf (r.map D.int) = some r := by
  induction r with
  | nil => rfl
  | cons x r ih => simp [intsOf, ih]
@[simp] theorem sum_l (r : List Int) : sumD [.lst (r.map D.int)] = some (.sh (.int r.sum)) := by simp [sumD]
@[simp] theorem bls_of (r : List Bool) : blsOf (r.map D.bl) = some r := by
  induction r with
  | nil => rfl
  | cons x r ih => simp [blsOf, ih]
@[simp] theorem any_l (r : List Bool) : anyD [.lst (r.map D.bl)] = some (.sh (.bl (r.any id))) := by simp [anyD]
@[simp] theorem all_l (r : List Bool) : allD [.lst (r.map D.bl)] = some (.sh (.bl (r.all id))) := by simp [allD]
/-- a loop that leaves with False where p fails -/
theorem for_chk {α : Type} {f : D → VEnv → Option VEnv} {b rest : SM} {c : Bool} (xs : List α) (e : α → D) (p : α → Bool) (Inv : VEnv → Prop)
    (hs : ∀ x ∈ xs, ∀ ρ, Inv ρ → ∃ ρ1, f (e x) ρ = some ρ1 ∧ if p x = true then ∃ ρ2, b ρ1 = .nx ρ2 ∧ Inv ρ2 else ∃ ρ2, b ρ1 = .rt (.sh (.bl false)) ρ2) (hend : ∀ ρ, Inv ρ → ∃ ρ2, rest ρ = .rt (.sh (.bl c)) ρ2) :
    ∀ ρ, Inv ρ → ∃ ρ2, (forS f b (xs.map e) ρ).seq rest = .rt (.sh (.bl (xs.all p && c))) ρ2 := by
  induction xs with
  | nil => intro ρ h; simpa [forS] using hend ρ h
  | cons x xs ih =>
    intro ρ h
    obtain ⟨ρ1, h1, h2⟩ := hs x List.mem_cons_self ρ h
    have ih := ih fun y hy => hs y (List.mem_cons_of_mem _ hy)
    rw [List.map_cons]
    unfold forS
    rw [h1]
    cases hp : p x with
    | true =>
      rw [hp, if_pos rfl] at h2
      obtain ⟨ρ2, h3, h4⟩ := h2
      simp only [h3]
      rw [List.all_cons, hp, Bool.true_and]
      exact ih ρ2 h4
    | false =>
      rw [hp, if_neg (by simp)] at h2
      obtain ⟨ρ2, h3⟩ := h2
      simp only [h3]
      rw [List.all_cons, hp, Bool.false_and, Bool.false_and]
      exact ⟨ρ2, rfl⟩
theorem for_chkT {α : Type} {f : D → VEnv → Option VEnv} {b rest : SM} (xs : List α) (e : α → D) (p : α → Bool) (Inv : VEnv → Prop)
    (hs : ∀ x ∈ xs, ∀ ρ, Inv ρ → ∃ ρ1, f (e x) ρ = some ρ1 ∧ if p x = true then ∃ ρ2, b ρ1 = .nx ρ2 ∧ Inv ρ2 else ∃ ρ2, b ρ1 = .rt (.sh (.bl false)) ρ2) (hend : ∀ ρ, Inv ρ → ∃ ρ2, rest ρ = .rt (.sh (.bl true)) ρ2)
    (ρ : VEnv) (h : Inv ρ) : ∃ ρ2, (forS f b (xs.map e) ρ).seq rest = .rt (.sh (.bl (xs.all p))) ρ2 := by
  have q := for_chk xs e p Inv hs hend ρ h
  rwa [Bool.and_true] at q
/-- a loop that only goes on -/
theorem for_all {α : Type} {f : D → VEnv → Option VEnv} {b : SM} (xs : List α) (e : α → D) (st : Nat → VEnv → Prop)
    (hs : ∀ j x, xs[j]? = some x → ∀ ρ, st j ρ → ∃ ρ1, f (e x) ρ = some ρ1 ∧ ∃ ρ2, b ρ1 = .nx ρ2 ∧ st (j + 1) ρ2) {ρ : VEnv} (h0 : st 0 ρ) :
    ∃ ρ2, forS f b (xs.map e) ρ = .nx ρ2 ∧ st xs.length ρ2 := by
  have go : ∀ (ys : List α) (j : Nat), (∀ i x, ys[i]? = some x → xs[j + i]? = some x) → ∀ ρ, st j ρ → ∃ ρ2, forS f b (ys.map e) ρ = .nx ρ2 ∧ st (j + ys.length) ρ2 := by
    intro ys
    induction ys with
    | nil => intro j _ ρ h; exact ⟨ρ, rfl, h⟩
    | cons y ys ih =>
      intro j hy ρ h
      obtain ⟨ρ1, h1, ρ2, h2, h3⟩ := hs j y (hy 0 y rfl) ρ h
      obtain ⟨ρ3, h4, h5⟩ := ih (j + 1) (fun i x hx => by
        have := hy (i + 1) x hx
        rw [← this]
        congr 1
        omega) ρ2 h3
      refine ⟨ρ3, ?_, ?_⟩
      · rw [List.map_cons]
        unfold forS
        rw [h1]
        simp only [h2]
        exact h4
      · rw [List.length_cons]
        have : j + (ys.length + 1) = j + 1 + ys.length := by omega
        rw [this]
        exact h5
  have := go xs 0 (fun i x hx => by rw [Nat.zero_add]; exact hx) ρ h0
  rwa [Nat.zero_add] at this
/-- the first place where p fails -/
def fst0 {α : Type} (p : α → Bool) : List α → Option Nat
  | [] => none
  | x :: xs => if p x = true then (fst0 p xs).map (· + 1) else some 0
theorem fst0_cons {α : Type} {p : α → Bool} {x : α} {xs : List α} : fst0 p (x :: xs) = if p x = true then (fst0 p xs).map (· + 1) else some 0 := rfl
theorem fst0_none {α : Type} {p : α → Bool} {xs : List α} : fst0 p xs = none ↔ ∀ x ∈ xs, p x = true := by
  induction xs with
  | nil => simp [fst0]
  | cons x xs ih =>
    unfold fst0
    by_cases h : p x = true
    · rw [if_pos h, Option.map_eq_none_iff, ih]; simp [h]
    · rw [if_neg h]; simp [h]
theorem fst0_some {α : Type} {p : α → Bool} {xs : List α} {j : Nat} (h : fst0 p xs = some j) : ∃ x, xs[j]? = some x ∧ p x = false := by
  induction xs generalizing j with
  | nil => cases h
  | cons x xs ih =>
    unfold fst0 at h
    by_cases hp : p x = true
    · rw [if_pos hp] at h
      cases q : fst0 p xs with
      | none => rw [q] at h; cases h
      | some i =>
        rw [q] at h
        obtain rfl : i + 1 = j := Option.some.inj h
        exact ih q
    · rw [if_neg hp] at h
      obtain rfl : 0 = j := Option.some.inj h
      exact ⟨x, rfl, by simpa using hp⟩
def Out (s : SR) : Prop := (∃ r ρ, s = .rt r ρ) ∨ ∃ x ρ, s = .exc x ρ
/-- a loop that is left where p fails -/
theorem for_fst {α : Type} {f : D → VEnv → Option VEnv} {b rest : SM} {R : SR → Prop} (xs : List α) (e : Nat → α → D) (p : α → Bool) (Inv : VEnv → Prop)
    (hs : ∀ j x, xs[j]? = some x → ∀ ρ, Inv ρ → ∃ ρ1, f (e j x) ρ = some ρ1 ∧ if p x = true then ∃ ρ2, b ρ1 = .nx ρ2 ∧ Inv ρ2 else Out (b ρ1) ∧ (fst0 p xs = some j → R (b ρ1))) (hend : ∀ ρ, Inv ρ → fst0 p xs = none → R (rest ρ))
    (ρ : VEnv) (h : Inv ρ) : R ((forS f b (xs.zipIdx.map fun q => e q.2 q.1) ρ).seq rest) := by
  have go : ∀ (ys : List α) (j : Nat), (∀ i x, ys[i]? = some x → xs[j + i]? = some x) → (fst0 p xs = (fst0 p ys).map (j + ·)) → ∀ ρ, Inv ρ → R ((forS f b ((ys.zipIdx j).map fun q => e q.2 q.1) ρ).seq rest) := by
    intro ys
    induction ys with
    | nil => intro j _ hf ρ h; exact hend ρ h hf
    | cons y ys ih =>
      intro j hy hf ρ h
      obtain ⟨ρ1, h1, h2⟩ := hs j y (hy 0 y rfl) ρ h
      rw [List.zipIdx_cons, List.map_cons]
      unfold forS
      simp only [h1]
      rw [fst0_cons] at hf
      cases hp : p y with
      | true =>
        rw [hp, if_pos rfl] at h2
        obtain ⟨ρ2, h3, h4⟩ := h2
        simp only [h3]
        refine ih (j + 1) (fun i x hx => ?_) ?_ ρ2 h4
        · have := hy (i + 1) x hx
          rw [← this]
          congr 1
          omega
        · rw [hf, hp, if_pos rfl, Option.map_map]
          congr 1
          funext z
          show j + (z + 1) = j + 1 + z
          omega
      | false =>
        rw [hp, if_neg (by simp)] at h2
        obtain ⟨ho, hr⟩ := h2
        have hr := hr (by rw [hf, hp, if_neg (by simp)]; rfl)
        rcases ho with ⟨r, ρ2, h3⟩ | ⟨x, ρ2, h3⟩
        · rw [h3] at hr ⊢
          exact hr
        · rw [h3] at hr ⊢
          exact hr
  exact go xs 0 (fun i x hx => by rw [Nat.zero_add]; exact hx) (by cases fst0 p xs <;> simp) ρ h
theorem enum_map {α : Type} (e : α → D) (xs : List α) : enumL 0 (xs.map e) = xs.zipIdx.map fun q => .tup [.int (q.2 : Nat), e q.1] := by
  have go : ∀ (xs : List α) (j : Nat), enumL j (xs.map e) = (xs.zipIdx j).map fun q => .tup [.int (q.2 : Nat), e q.1] := by
    intro xs
    induction xs with
    | nil => intro j; rfl
    | cons x xs ih =>
      intro j
      rw [List.map_cons, List.zipIdx_cons, List.map_cons]
      unfold enumL
      rw [← ih (j + 1)]
      rfl
  exact go xs 0
theorem up_map {α : Type} (xs : List α) : upFrom 0 xs.length = xs.zipIdx.map fun q => .int (q.2 : Nat) := by
  unfold upFrom
  rw [List.range_eq_range', ← List.zipIdx_map_snd 0 xs, List.map_map]
  congr 1
  funext q
  simp
def sq (q : Bool) (xs : List D) : D := if q = true then .tup xs else .lst xs
@[simp] theorem it_sq {q : Bool} {xs : List D} : itemsD (sq q xs) = some xs := by cases q <;> rfl
@[simp] theorem len_sq {q : Bool} {xs : List D} : lenD [sq q xs] = some (.sh (.int xs.length)) := by cases q <;> rfl
@[simp] theorem tup_sq {q : Bool} {xs : List D} : tupleD [sq q xs] = some (.sh (.tup xs)) := by cases q <;> rfl
theorem ix_sq {q : Bool} {xs : List D} {i : Int} (h0 : 0 ≤ i) (h : i < xs.length) : ixD (sq q xs) (.int i) = some (.sh (xs.getD i.toNat .non)) := by
  cases q
  · exact ixz_l h0 h
  · exact ixz_t h0 h
def Rm (m : Md) : Prop := m = .sh ∨ m = .ro
/-- a run ends as the body says -/
def Ends (b : SR) (d : DR) : Prop := (∃ r ρ, b = .rt (.sh r) ρ ∧ d = .ok (.sh r) none) ∨ (∃ r ρ, b = .rt (.tm r) ρ ∧ d = .ok (.tm r) none) ∨ (∃ x ρ, b = .exc x ρ ∧ d = .exc x) ∨ ∃ ρ, b = .nx ρ ∧ d = .ok (.sh .non) none
theorem of_ends {n : Nat} {m : SM} {as : List VL.Arg} {d : DR} (h : Ends (m (slots n as)) d) (ha : ∀ d, as[0]? ≠ some (Md.me, d)) : runB n m as = d := by
  rcases h with ⟨r, ρ, h, rfl⟩ | ⟨r, ρ, h, rfl⟩ | ⟨x, ρ, h, rfl⟩ | ⟨ρ, h, rfl⟩
  · exact run_ok h (by simp) ha
  · exact run_ok h (by simp) ha
  · exact run_exc h
  · exact run_nx h ha
@[simp] theorem ends_sh {r : D} {ρ : VEnv} {d : DR} : Ends (.rt (.sh r) ρ) d ↔ d = .ok (.sh r) none := by simp [Ends]
@[simp] theorem ends_tm {r : D} {ρ : VEnv} {d : DR} : Ends (.rt (.tm r) ρ) d ↔ d = .ok (.tm r) none := by simp [Ends]
@[simp] theorem ends_x {x : Xd} {ρ : VEnv} {d : DR} : Ends (.exc x ρ) d ↔ d = .exc x := by simp [Ends]
@[simp] theorem ends_nx {ρ : VEnv} {d : DR} : Ends (.nx ρ) d ↔ d = .ok (.sh .non) none := by simp [Ends]
@[simp] theorem raise_e {c : Nat} {f : Str} {m : M D} {ρ : VEnv} : sRaise1 c f m ρ = (m ρ).thn fun d ρ => .exc ⟨c, [f], [d]⟩ ρ := id rfl
/-! ### rows and tables as data -/
theorem lay_ints (r : List Int) : PyData.canLayAll0 (r.map PyData.int) = true := by
  induction r with
  | nil => rfl
  | cons x r ih => simp [PyData.canLayAll0, PyData.canLay0, ih]
theorem dep_ints (r : List Int) : PyData.depthAll (r.map PyData.int) ≤ 1 := by
  induction r with
  | nil => simp [PyData.depthAll]
  | cons x r ih => simp [PyData.depthAll, PyData.depth]; omega
theorem sh_vl (r : List Int) : SeqAt.shaped (.list (r.map PyData.int)) = true := by
  have := dep_ints r
  simp [SeqAt.shaped, PyData.canLay0, lay_ints, PyData.depth]
  omega
theorem sh_vt (r : List Int) : SeqAt.shaped (.tuple (r.map PyData.int)) = true := by
  have := dep_ints r
  simp [SeqAt.shaped, PyData.canLay0, lay_ints, PyData.depth]
  omega
theorem lay_tab (f : List PyData → PyData) (hf : f = .list ∨ f = .tuple) (t : List (List Int)) : PyData.canLayAll0 (t.map fun r => f (r.map PyData.int)) = true := by
  induction t with
  | nil => rfl
  | cons x r ih => rcases hf with rfl | rfl <;> simpa [PyData.canLayAll0, PyData.canLay0, lay_ints] using ih
theorem dep_tab (f : List PyData → PyData) (hf : f = .list ∨ f = .tuple) (t : List (List Int)) : PyData.depthAll (t.map fun r => f (r.map PyData.int)) ≤ 2 := by
  induction t with
  | nil => simp [PyData.depthAll]
  | cons x r ih =>
    have := dep_ints x
    rcases hf with rfl | rfl <;> (simp only [List.map_cons, PyData.depthAll, PyData.depth] at ih ⊢; omega)
theorem toPys_vl (t : List (List Int)) : toPys (t.map vecL) = some (t.map fun r => PyData.list (r.map PyData.int)) := by
  induction t with
  | nil => rfl
  | cons x r ih => simp [toPys, vecL, toPy, toPys_int] at ih ⊢; rw [ih]
theorem toPys_vt (t : List (List Int)) : toPys (t.map vecT) = some (t.map fun r => PyData.tuple (r.map PyData.int)) := by
  induction t with
  | nil => rfl
  | cons x r ih => simp [toPys, vecT, toPy, toPys_int] at ih ⊢; rw [ih]
theorem toPy_vl (r : List Int) : toPy (vecL r) = some (.list (r.map PyData.int)) := by simp [vecL, toPy, toPys_int]
theorem toPy_vt (r : List Int) : toPy (vecT r) = some (.tuple (r.map PyData.int)) := by simp [vecT, toPy, toPys_int]
theorem toPy_tl (t : List (List Int)) : toPy (tabL t) = some (.list (t.map fun r => PyData.list (r.map PyData.int))) := by simp [tabL, toPy, toPys_vl]
theorem sh_tl (t : List (List Int)) : SeqAt.shaped (.list (t.map fun r => PyData.list (r.map PyData.int))) = true := by
  have := dep_tab .list (.inl rfl) t
  have h2 := lay_tab .list (.inl rfl) t
  simp [SeqAt.shaped, PyData.canLay0, PyData.depth, h2]
  omega
theorem sh_lt (t : List (List Int)) : SeqAt.shaped (.list (t.map fun r => PyData.tuple (r.map PyData.int))) = true := by
  have := dep_tab .tuple (.inr rfl) t
  have h2 := lay_tab .tuple (.inr rfl) t
  simp [SeqAt.shaped, PyData.canLay0, PyData.depth, h2]
  omega
theorem eqB_vl (r s : List Int) : eqB (vecL r) (vecL s) = some (decide (r = s)) := by
  unfold eqB
  simp [toPy_vl, sh_vl, PyData.eqv, eqv_ints]
theorem eqB_vt (r s : List Int) : eqB (vecT r) (vecT s) = some (decide (r = s)) := by
  unfold eqB
  simp [toPy_vt, sh_vt, PyData.eqv, eqv_ints]
theorem eqv_tab (t u : List (List Int)) : PyData.eqvAll (t.map fun r => PyData.list (r.map PyData.int)) (u.map fun r => PyData.list (r.map PyData.int)) = decide (t = u) := by
  induction t generalizing u with
  | nil => cases u <;> simp [PyData.eqvAll]
  | cons x r ih => cases u with
    | nil => simp [PyData.eqvAll]
    | cons y s => simp [PyData.eqvAll, PyData.eqv, eqv_ints, ih]
theorem eqB_tl (t u : List (List Int)) : eqB (tabL t) (tabL u) = some (decide (t = u)) := by
  unfold eqB
  simp [toPy_tl, sh_tl, PyData.eqv, eqv_tab]
@[simp] theorem eq_vl {r s : List Int} : eqD (vecL r) (vecL s) = some (.sh (.bl (decide (r = s)))) := by simp [eqD, eqB_vl]
@[simp] theorem ne_vl {r s : List Int} : neD (vecL r) (vecL s) = some (.sh (.bl (!decide (r = s)))) := by simp [neD, eqB_vl]
@[simp] theorem eq_vt {r s : List Int} : eqD (vecT r) (vecT s) = some (.sh (.bl (decide (r = s)))) := by simp [eqD, eqB_vt]
@[simp] theorem ne_vt {r s : List Int} : neD (vecT r) (vecT s) = some (.sh (.bl (!decide (r = s)))) := by simp [neD, eqB_vt]
@[simp] theorem eq_tl {t u : List (List Int)} : eqD (tabL t) (tabL u) = some (.sh (.bl (decide (t = u)))) := by simp [eqD, eqB_tl]
@[simp] theorem ne_tl {t u : List (List Int)} : neD (tabL t) (tabL u) = some (.sh (.bl (!decide (t = u)))) := by simp [neD, eqB_tl]
theorem in_vt {r : List Int} {t : List (List Int)} : inD (vecT r) (.lst (t.map vecT)) = some (.sh (.bl (decide (r ∈ t)))) := by
  have h1 : toV (vecT r) = none := rfl
  unfold inD
  have e : inB (vecT r) (.lst (t.map vecT)) = some (decide (r ∈ t)) := by
    show (match toV (vecT r), toVs (t.map vecT) with
      | some v, some vs => some (inV v vs)
      | _, _ => (match toPy (vecT r), toPys (t.map vecT) with
        | some x, some ys => if SeqAt.shaped x = true ∧ SeqAt.shaped (.list ys) = true then some (ys.any fun z => PyData.eqv z x) else none
        | _, _ => none)) = _
    rw [h1, toPy_vt, toPys_vt]
    simp only [sh_vt, sh_lt, and_self, if_true, Option.some.injEq]
    rw [Bool.eq_iff_iff]
    simp [PyData.eqv, eqv_ints]
  rw [e]
  rfl
theorem zip_map {α β : Type} (e : α → D) (g : β → D) : ∀ (xs : List α) (ys : List β), zipL (xs.map e) (ys.map g) = (xs.zip ys).map fun q => .tup [e q.1, g q.2]
  | [], ys => by cases ys <;> rfl
  | x :: xs, [] => rfl
  | x :: xs, y :: ys => by
    simp only [List.map_cons, List.zip_cons_cons]
    unfold zipL
    rw [zip_map e g xs ys]
theorem sum_f {α : Type} (f : α → Int) (xs : List α) : sumD [.lst (xs.map fun q => .int (f q))] = some (.sh (.int ((xs.map f).sum))) := by
  have e : xs.map (fun q => D.int (f q)) = (xs.map f).map D.int := by simp [Function.comp_def]
  rw [e, sum_l]
theorem ends_chk {α : Type} {f : D → VEnv → Option VEnv} {b rest : SM} (xs : List α) (e : α → D) (p : α → Bool) (Inv : VEnv → Prop)
    (hs : ∀ x ∈ xs, ∀ ρ, Inv ρ → ∃ ρ1, f (e x) ρ = some ρ1 ∧ if p x = true then ∃ ρ2, b ρ1 = .nx ρ2 ∧ Inv ρ2 else ∃ ρ2, b ρ1 = .rt (.sh (.bl false)) ρ2) (hend : ∀ ρ, Inv ρ → ∃ ρ2, rest ρ = .rt (.sh (.bl true)) ρ2)
    (ρ : VEnv) (h : Inv ρ) : Ends ((forS f b (xs.map e) ρ).seq rest) (.ok (.sh (.bl (xs.all p))) none) := by
  obtain ⟨ρ2, e2⟩ := for_chkT xs e p Inv hs hend ρ h
  rw [e2]
  exact ends_sh.mpr rfl
end
end VL

set_option maxHeartbeats 200000
/-! The value layer: more evaluation. -/
namespace VL
open PySem PySem.Spec L2
section
variable {α β : Type} {ρ ρ1 : VEnv} {i : Nat} {d a b : D} {x : Xd} {T : Ty} {g : D → List D → Option (D × D)} {ds : List D}
def retS (i : Nat) (s : Option Slot) (ρ : VEnv) : SR := match s with
  | some (some (.sh, d)) => .rt (.sh d) ρ
  | some (some (.ow, d)) => .rt (.tm d) (ρ.set i none)
  | _ => .bad
@[simp] theorem retv_e : sRetV i ρ = retS i ρ[i]? ρ := id rfl
@[simp] theorem retS_sh : retS i (some (some (.sh, d))) ρ = .rt (.sh d) ρ := id rfl
@[simp] theorem retS_ow : retS i (some (some (.ow, d))) ρ = .rt (.tm d) (ρ.set i none) := id rfl
def tyS (T : Ty) (o : Option D) (r : Res α) : Res α := match o with
  | some d => sel (tyD T d) r .bad
  | none => .bad
theorem tyM_e {r : Rv} {k : M α} : tyM T r k ρ = tyS T (rdR r ρ) (k ρ) := by
  unfold tyM tyS
  cases rdR r ρ with
  | none => rfl
  | some d => cases h : tyD T d <;> simp [h]
@[simp] theorem tyS_l {xs : List D} {r : Res α} : tyS .list (some (.lst xs)) r = r := id rfl
@[simp] theorem tyS_vl {xs : List Int} {r : Res α} : tyS .list (some (vecL xs)) r = r := id rfl
@[simp] theorem tyS_tl {xs : List (List Int)} {r : Res α} : tyS .list (some (tabL xs)) r = r := id rfl
@[simp] theorem wr_e {ms : M (List D)} : mWr T i g ms ρ = tyS T (rdS ρ[i]?) ((ms ρ).bind (wrD g i)) := tyM_e
def wrO (i : Nat) (m : Md) (o : Option (D × D)) (ρ : VEnv) : Res Rv := match o with
  | some (d', r) => .ok (.sh r) (ρ.set i (some (m, d')))
  | none => .bad
@[simp] theorem wrO_e {m : Md} : wrO i m (some (a, b)) ρ = .ok (.sh b) (ρ.set i (some (m, a))) := id rfl
def wrS (g : D → List D → Option (D × D)) (i : Nat) (ds : List D) (s : Option Slot) (ρ : VEnv) : Res Rv := match s with
  | some (some (.ow, d)) => wrO i .ow (g d ds) ρ
  | some (some (.me, d)) => wrO i .me (g d ds) ρ
  | _ => .bad
@[simp] theorem wrD_e : wrD g i ds ρ = wrS g i ds ρ[i]? ρ := by
  unfold wrD wrS wrO
  cases ρ[i]? with
  | none => rfl
  | some s => cases s with
    | none => rfl
    | some p =>
      obtain ⟨m, d⟩ := p
      cases m <;> rfl
@[simp] theorem wrS_ow : wrS g i ds (some (some (.ow, d))) ρ = wrO i .ow (g d ds) ρ := id rfl
@[simp] theorem wrS_me : wrS g i ds (some (some (.me, d))) ρ = wrO i .me (g d ds) ρ := id rfl
theorem app_l {xs : List D} (h : xs.length < lim) : appendW (.lst xs) [d] = some (.lst (xs ++ [d]), .non) := if_pos h
theorem app_vl {xs : List Int} {n : Int} (h : xs.length < lim) : appendW (vecL xs) [.int n] = some (vecL (xs ++ [n]), .non) := by
  unfold vecL
  rw [app_l (by simpa using h), List.map_append]
  rfl
theorem app_tl {xs : List (List Int)} {n : List Int} (h : xs.length < lim) : appendW (tabL xs) [vecL n] = some (tabL (xs ++ [n]), .non) := by
  unfold tabL
  rw [app_l (by simpa using h), List.map_append]
  rfl
def stoS (g : D → D → D → Option D) (i : Nat) (mk : M Rv) (vd : D) (s : Option Slot) (ρ : VEnv) : SR := match s with
  | some (some _) => thenS mk (storeE g i vd) ρ
  | _ => .bad
@[simp] theorem store_e {g : D → D → D → Option D} {md : M D} {mk : M Rv} : sStore g i md mk ρ = (md ρ).thn fun vd ρ => stoS g i mk vd ρ[i]? ρ := by
  unfold sStore
  rw [then_e]
  rfl
@[simp] theorem stoS_e {g : D → D → D → Option D} {vd : D} {mk : M Rv} {p : Md × D} : stoS g i mk vd (some (some p)) ρ = (mk ρ).thn (storeE g i vd) := id rfl
def putO (i : Nat) (m : Md) (o : Option D) (ρ : VEnv) : SR := match o with
  | some d => .nx (ρ.set i (some (m, d)))
  | none => .bad
@[simp] theorem putO_e {m : Md} : putO i m (some d) ρ = .nx (ρ.set i (some (m, d))) := id rfl
def putS (g : D → D → D → Option D) (i : Nat) (vd : D) (s : Option Slot) (k : Option D) (ρ : VEnv) : SR := match s, k with
  | some (some (.ow, d)), some kd => putO i .ow (g d kd vd) ρ
  | some (some (.me, d)), some kd => putO i .me (g d kd vd) ρ
  | _, _ => .bad
@[simp] theorem storeE_e {g : D → D → D → Option D} {vd : D} {r : Rv} : storeE g i vd r ρ = putS g i vd ρ[i]? (rdR r ρ) ρ := by
  unfold storeE putS putO
  cases ρ[i]? with
  | none => rfl
  | some s => cases s with
    | none => rfl
    | some p =>
      obtain ⟨m, d⟩ := p
      cases rdR r ρ <;> cases m <;> rfl
@[simp] theorem putS_ow {g : D → D → D → Option D} {vd kd : D} : putS g i vd (some (some (.ow, d))) (some kd) ρ = putO i .ow (g d kd vd) ρ := id rfl
@[simp] theorem putS_me {g : D → D → D → Option D} {vd kd : D} : putS g i vd (some (some (.me, d))) (some kd) ρ = putO i .me (g d kd vd) ρ := id rfl
theorem ixN_in {n : Nat} {k : Int} (h0 : 0 ≤ k) (h1 : k < n) : ixN n k = some k.toNat := by
  unfold ixN
  rw [if_pos h0, if_pos h1]
theorem set_vl {r : List Int} {k x : Int} (h0 : 0 ≤ k) (h1 : k < r.length) : setLD (vecL r) (.int k) (.int x) = some (vecL (r.set k.toNat x)) := by
  show (ixN (r.map D.int).length k).map _ = _
  rw [ixN_in h0 (by simpa using h1)]
  simp [vecL, List.map_set]
theorem set_tl {t : List (List Int)} {k : Int} {x : List Int} (h0 : 0 ≤ k) (h1 : k < t.length) : setLD (tabL t) (.int k) (vecL x) = some (tabL (t.set k.toNat x)) := by
  show (ixN (t.map vecL).length k).map _ = _
  rw [ixN_in h0 (by simpa using h1)]
  simp [tabL, List.map_set]
@[simp] theorem asInt_e {n : Int} : asInt (.sh (.int n)) ρ = .ok (some n) ρ := id rfl
def slO (o : Option Rv) (ρ : VEnv) : Res Rv := opO o ρ
@[simp] theorem slice_e {ma : M Rv} {ml mh : M (Option Int)} : mSlice ma ml mh ρ = (ma ρ).bind fun r => ml.bind fun lo => mh.bind fun hi => fun ρ => callO (fun ds => match ds with
    | [d] => sliceD d lo hi
    | _ => none) (rdC (rdR r ρ) (some [])) ρ := by
  unfold mSlice
  rw [bind_e]
  congr 1
  funext r
  congr 1
  funext lo
  congr 1
  funext hi ρ
  cases rdR r ρ with
  | none => rfl
  | some d => show (match sliceD d lo hi with
      | some rv => Res.ok rv ρ
      | none => Res.bad) = opO (sliceD d lo hi) ρ
              unfold opO
              rfl
theorem cut_map {f : α → β} {xs : List α} {lo hi : Option Int} : cutL (xs.map f) lo hi = (cutL xs lo hi).map f := by
  unfold cutL
  rw [List.length_map, List.map_take, List.map_drop]
@[simp] theorem slice_l {xs : List D} {lo hi : Option Int} : sliceD (.lst xs) lo hi = some (.tm (.lst (cutL xs lo hi))) := id rfl
@[simp] theorem slice_vl {xs : List Int} {lo hi : Option Int} : sliceD (vecL xs) lo hi = some (.tm (vecL (cutL xs lo hi))) := by
  unfold vecL
  rw [slice_l, cut_map]
@[simp] theorem slice_tl {xs : List (List Int)} {lo hi : Option Int} : sliceD (tabL xs) lo hi = some (.tm (tabL (cutL xs lo hi))) := by
  unfold tabL
  rw [slice_l, cut_map]
theorem cut_lo {xs : List α} {k : Int} (h : 0 ≤ k) : cutL xs none (some k) = xs.take k.toNat := by
  obtain ⟨n, rfl⟩ : ∃ n : Nat, k = n := ⟨k.toNat, by omega⟩
  unfold cutL
  rw [HT.sIx_none, HT.sIx_nat, List.drop_zero, Nat.sub_zero, Int.toNat_natCast]
  rw [List.take_eq_take_iff]
  omega
theorem cut_hi {xs : List α} {k : Int} (h : 0 ≤ k) : cutL xs (some k) none = xs.drop k.toNat := by
  obtain ⟨n, rfl⟩ : ∃ n : Nat, k = n := ⟨k.toNat, by omega⟩
  unfold cutL
  rw [HT.sIx_none, HT.sIx_nat, Int.toNat_natCast]
  by_cases hn : n ≤ xs.length
  · rw [Nat.min_eq_left hn, List.take_of_length_le (by simp)]
  · rw [Nat.min_eq_right (by omega), List.drop_eq_nil_of_le (Nat.le_refl _), List.drop_eq_nil_of_le (by omega)]
    simp
theorem cut_sub {xs : List α} {lo hi : Option Int} {y : α} (h : y ∈ cutL xs lo hi) : y ∈ xs := List.mem_of_mem_drop (List.mem_of_mem_take h)
theorem cut_len {xs : List α} {lo hi : Option Int} : (cutL xs lo hi).length ≤ xs.length := by
  unfold cutL
  simp
  omega
/-- the list with a place set, by slices -/
theorem cut_set {xs : List α} {k : Int} {x : α} (h0 : 0 ≤ k) (h1 : k < xs.length) : cutL xs none (some k) ++ [x] ++ cutL xs (some (k + 1)) none = xs.set k.toNat x := by
  rw [cut_lo h0, cut_hi (by omega), List.append_assoc, List.singleton_append]
  rw [List.set_eq_take_append_cons_drop, if_pos (by omega)]
  congr 3
  omega
theorem add_vl {r s : List Int} (h : r.length + s.length ≤ lim) : addD (vecL r) (vecL s) = some (.tm (vecL (r ++ s))) := by
  unfold vecL
  rw [List.map_append]
  exact if_pos (by simpa using h)
theorem add_tl {r s : List (List Int)} (h : r.length + s.length ≤ lim) : addD (tabL r) (tabL s) = some (.tm (tabL (r ++ s))) := by
  unfold tabL
  rw [List.map_append]
  exact if_pos (by simpa using h)
theorem add_l {r s : List D} (h : r.length + s.length ≤ lim) : addD (.lst r) (.lst s) = some (.tm (.lst (r ++ s))) := if_pos h
theorem one_vl {n : Int} : D.lst [.int n] = vecL [n] := rfl
theorem one_tl {r : List Int} : D.lst [vecL r] = tabL [r] := rfl
theorem nil_vl : D.lst [] = vecL [] := rfl
theorem nil_tl : D.lst [] = tabL [] := rfl
@[simp] theorem min_i {m n : Int} : minD [.int m, .int n] = some (.sh (.int (if n < m then n else m))) := id rfl
@[simp] theorem neg_i {n : Int} : negE (.sh (.int n)) ρ = .ok (.sh (.int (-n))) ρ := id rfl
theorem pow_i {m n : Int} (h0 : 0 ≤ n) (h1 : n ≤ 1000) (h2 : m.natAbs < two64) : powD (.int m) (.int n) = some (.sh (.int (m ^ n.toNat))) := if_pos ⟨h0, h1, h2⟩
theorem mul_r {m n : Int} (h : n.natAbs < two64) : mulD (.int m) (.int n) = some (.sh (.int (m * n))) := if_pos (.inr (.inl h))
theorem mul_l {m n : Int} (h : m.natAbs < two64) : mulD (.int m) (.int n) = some (.sh (.int (m * n))) := if_pos (.inl h)
@[simp] theorem notv_e {ma : M Rv} : mNotV ma ρ = ((ma ρ).bind asB).bind fun c => M.pure (.sh (.bl (!c))) := id rfl
@[simp] theorem it_scr {ns : List Int} : itemsD (.scr ns) = some (ns.map .int) := id rfl
@[simp] theorem sum_vl {r : List Int} : sumD [vecL r] = some (.sh (.int r.sum)) := sum_l r
@[simp] theorem list_vl {r : List Int} : listD [vecL r] = some (.tm (vecL r)) := id rfl
@[simp] theorem tup_vl {r : List Int} : tupleD [vecL r] = some (.sh (vecT r)) := id rfl
@[simp] theorem tup_tl {r : List (List Int)} : tupleD [tabL r] = some (.sh (.tup (r.map vecL))) := id rfl
@[simp] theorem isN_non : isNotD .non .non = some (.sh (.bl false)) := id rfl
@[simp] theorem isN_int {n : Int} : isNotD (.int n) .non = some (.sh (.bl true)) := id rfl
theorem eqV_int {m n : Int} : eqV (.int m) (.int n) = decide (m = n) := by
  unfold eqV
  rw [Bool.eq_iff_iff]
  simp
theorem flats_int {r : List Int} : flatsD (r.map D.int) = some (r.map V.int) := by
  induction r with
  | nil => rfl
  | cons x r ih => simp [flatsD, flatD, ih]
theorem first_int {x : Int} : ∀ {r : List Int} {n : Nat}, x ∈ r → ∃ j : Nat, firstV (.int x) (r.map V.int) n = some (n + j) ∧ j < r.length
  | [], n, h => by cases h
  | y :: r, n, h => by
    rw [List.map_cons, firstV, eqV_int]
    by_cases e : y = x
    · exact ⟨0, by simp [e], by simp⟩
    · rw [if_neg (by simpa using e)]
      obtain ⟨j, h1, h2⟩ := first_int (r := r) (n := n + 1) ((List.mem_cons.mp h).resolve_left (Ne.symm e))
      exact ⟨j + 1, by rw [h1]; congr 1; omega, by simp; omega⟩
theorem minI_in {r : List Int} {m : Int} : minI m r ∈ m :: r := by
  rcases minI_mem r m with h | h
  · rw [h]; simp
  · exact List.mem_cons_of_mem _ h
/-- the place of the least -/
theorem least_at {r : List Int} (h : r ≠ []) : ∃ (m : Int) (j : Nat), minD [vecL r] = some (.sh (.int m)) ∧ lindexD (vecL r) [.int m] = some (.sh (.int (j : Nat))) ∧ j < r.length := by
  cases r with
  | nil => exact absurd rfl h
  | cons x r =>
    obtain ⟨j, h1, h2⟩ := first_int (x := minI x r) (r := x :: r) (n := 0) minI_in
    refine ⟨minI x r, j, ?_, ?_, h2⟩
    · show (match intsOf ((x :: r).map D.int) with
        | some (n :: ns) => some (Rv.sh (D.int (minI n ns)))
        | _ => none) = _
      rw [ints_of]
    · show (match flatsD ((x :: r).map D.int), flatD (.int (minI x r)) with
        | some vs, some v => (firstV v vs 0).map fun j => Rv.sh (D.int (j : Nat))
        | _, _ => none) = _
      rw [flats_int]
      show (firstV (V.int (minI x r)) ((x :: r).map V.int) 0).map _ = _
      rw [h1, Nat.zero_add]
      rfl
@[simp] theorem mtE_e {g : D → List D → Option Rv} {r : Rv} {rs : List Rv} : mMtE g r rs ρ = callO (fun ds => match ds with
    | d :: ds => g d ds
    | _ => none) (rdC (rdR r ρ) (rdRs rs ρ)) ρ := by
  unfold mMtE
  cases rdR r ρ with
  | none => rfl
  | some d => cases rdRs rs ρ with
    | none => rfl
    | some ds => show (match g d ds with
        | some rv => Res.ok rv ρ
        | none => Res.bad) = opO (g d ds) ρ
                 unfold opO
                 rfl
@[simp] theorem mt_e {g : D → List D → Option Rv} {ma : M Rv} {ms : M (List Rv)} : mMt T g ma ms ρ = (ma ρ).bind fun r ρ => tyS T (rdR r ρ) ((ms ρ).bind (mMtE g r)) := by
  unfold mMt
  rw [bind_e]
  congr 1
  funext r ρ
  exact tyM_e
theorem rng_nat {n : Nat} (h : n ≤ 100000) : rng1D [.int (n : Nat)] = some (upFrom 0 n) := by
  have e : in62 (n : Int) = true := by
    unfold in62
    have : (2 : Int) ^ 62 = 4611686018427387904 := by decide
    simp
    omega
  show (if in62 (n : Int) then some (upFrom 0 (n : Int).toNat) else none) = _
  rw [if_pos e]
  rfl
def ups (n : Nat) : List D := (List.range n).map fun j => .int (j : Nat)
theorem up_rng {n : Nat} : upFrom 0 n = ups n := by
  unfold upFrom ups
  congr 1
  funext k
  rw [Int.zero_add]
theorem rng_ups {n : Nat} (h : n ≤ 100000) : rng1D [.int (n : Nat)] = some (ups n) := by rw [rng_nat h, up_rng]
theorem rng_i {n : Int} (h0 : 0 ≤ n) (h : n ≤ 100000) : rng1D [.int n] = some (ups n.toNat) := by
  obtain ⟨k, rfl⟩ : ∃ k : Nat, n = k := ⟨n.toNat, by omega⟩
  rw [rng_ups (by omega)]
  rfl
theorem ends_and {α : Type} {f : D → VEnv → Option VEnv} {b rest : SM} {c : Bool} (xs : List α) (e : α → D) (p : α → Bool) (Inv : VEnv → Prop)
    (hs : ∀ x ∈ xs, ∀ ρ, Inv ρ → ∃ ρ1, f (e x) ρ = some ρ1 ∧ if p x = true then ∃ ρ2, b ρ1 = .nx ρ2 ∧ Inv ρ2 else ∃ ρ2, b ρ1 = .rt (.sh (.bl false)) ρ2) (hend : ∀ ρ, Inv ρ → Ends (rest ρ) (.ok (.sh (.bl c)) none)) :
    ∀ ρ, Inv ρ → Ends ((forS f b (xs.map e) ρ).seq rest) (.ok (.sh (.bl (xs.all p && c))) none) := by
  induction xs with
  | nil => intro ρ h; simpa [forS] using hend ρ h
  | cons x xs ih =>
    intro ρ h
    obtain ⟨ρ1, h1, h2⟩ := hs x List.mem_cons_self ρ h
    have ih := ih fun y hy => hs y (List.mem_cons_of_mem _ hy)
    rw [List.map_cons]
    unfold forS
    rw [h1]
    cases hp : p x with
    | true =>
      rw [hp, if_pos rfl] at h2
      obtain ⟨ρ2, h3, h4⟩ := h2
      simp only [h3]
      rw [List.all_cons, hp, Bool.true_and]
      exact ih ρ2 h4
    | false =>
      rw [hp, if_neg (by simp)] at h2
      obtain ⟨ρ2, h3⟩ := h2
      simp only [h3]
      rw [List.all_cons, hp, Bool.false_and, Bool.false_and]
      exact ends_sh.mpr rfl
/-- the same, where the source is put into the frozen part -/
theorem lc_mapF {α : Type} {ρ ρ1 : VEnv} {mi : M (List D)} {f : D → VEnv → Option VEnv} {tt : M Bool} {te : M D} {vs : List Nat} (xs : List α) (e : α → D) (p : α → Bool) (g : α → D) (hi : mi ρ1 = .ok (xs.map e) ρ) (hl : xs.length ≤ lim)
    (h : ∀ x ∈ xs, ∃ ρ1, f (e x) (wipeE ρ vs) = some ρ1 ∧ ∃ ρ2, tt ρ1 = .ok (p x) ρ2 ∧ if p x = true then (∃ ρ3, te ρ2 = .ok (g x) ρ3 ∧ backE ρ ρ3 vs = ρ) else backE ρ ρ2 vs = ρ) :
    lcM mi f tt te vs ρ1 = .ok (.tm (.lst ((xs.filter p).map g))) ρ := by
  have q := lc_map (mi := M.pure (xs.map e)) xs e p g rfl hl h
  rw [← q]
  unfold lcM
  simp only [bind_e, hi, pure_e]
theorem gi_nat {r : List Int} {j : Nat} {x : Int} (h : r[j]? = some x) : gi r (j : Nat) = x := by
  unfold gi
  simp [h]
end
end VL

set_option maxHeartbeats 200000
/-! The value layer: the law's end. -/
namespace VL
open PySem PySem.Spec PyProof.Rows L2
/-- the hand layer's end of a law, where what the contexts say may lean on the world -/
theorem walk_w {l : PySem.W.OpenLaw} {k : Nat} {q : Program} {lo : List PySem.Str} {XP : (PySem.Str → Option Value) → Heap → Prop} {YP : World → Heap → Prop} {d : DefRec} {C : World → CXT}
    (most : l.most = some 63) (df : d.params.defaults = []) (room : Room k callerA)
    (F : ∀ (w : World) (mg : PySem.Str → Option Value) (fa : Addr) (h : Heap), YP w h → h.Ns mainGlobals mg → mg d.name = some (.ref fa) →
      ∃ (K : PySem.W.Frag) (fd : FuncData) (sp : Sp), K.In h ∧ (∀ (s : Shared) (u : Value), BindsTo s fd ⟨[u], []⟩ [("script", u)]) ∧
        (∀ (H : Hp) (a : Addr) (ns : List Int), ns.length ≤ 63 → Only H → SqL K H a (ns.map V.int) → sp [.ref a] H (fun v _ => v = .bl true) fun _ _ _ => False) ∧
        ∀ base : Heap, K.In base → base.Ns mainGlobals mg → FnOk l.prog w K mg base (C w) k fa fd ["script"] sp)
    (air : ∀ (w : World) (H : Hp) (s : Shared) (e : Value) (s' : Shared), C w [] H s (fun _ _ _ => False) e s' → False) :
    PySem.W.WalkO q lo XP YP l.row.toRowW d [] (fun f vs => PySem.call f vs) := by
  apply Att.attach_call most df
  intro w _ s mg _ fa _ _ _ _ a _ ns gr y _ _ _ name obj hin len gens
  have ⟨K, fd, sp, inn, binds, says, ok⟩ := F w mg fa _ y gr.T.g name
  refine law_call inn gr.T.g gr.T.b gr.T.builtins gr.T.nolimit gens obj hin (Nat.le_trans len ?_) room ok binds (fun H o z => says H a ns len o z) fun H e s' => air w H s e s'
  decide
end VL

set_option maxHeartbeats 200000
/-! The value layer: list(range(n)); classes that are made. -/
namespace VL
open PySem PySem.Spec L2
section
variable {X : Cx} {G : Gx} {W : WX} {a : Expr} {ma : M Rv} {p p2 pos pos2 : Pos}
def lstRg : Rv → M Rv
  | .sh (.int n) => fun ρ => if 0 ≤ n ∧ n ≤ 1000000 then .ok (.tm (.lst (upFrom 0 n.toNat))) ρ else .bad
  | _ => bad
theorem ve_listRg (hc : X.calm = true) (hg : Gl X "list") (hm : X.mg "list" = none) (hg2 : Gl X "range") (hm2 : X.mg "range" = none) (ha : VE X G W a ma)
    (na : starEach [.Call (.Name "range" p2) [a] [] pos2] X.env = (false, eval (.Call (.Name "range" p2) [a] [] pos2) X.env) :: starEach [] X.env := by rfl) (na2 : starEach [a] X.env = (false, eval a X.env) :: starEach [] X.env := by rfl) :
    VE X G W (.Call (.Name "list" p) [.Call (.Name "range" p2) [a] [] pos2] [] pos) (ma.bind lstRg) := by
  refine ⟨fun B => pe_imp (L2.pe_listRg hc hg hm (L2.prg_1 hg2 hm2 (ha.run B) na2) na) fun σ H Q ⟨F, own, ρ, R, P⟩ => ?_⟩
  refine step (k := lstRg) Grow.rfl' R P fun r ρ2 v H2 F2 own2 _ g _ R2 q P2 => ?_
  cases r with
  | sh d =>
    cases d with
    | int n =>
      have hv : v = .int n := rep_int.mp (show Rep G F2 (.int n) v from q)
      unfold lstRg at P2
      dsimp only at P2
      split at P2
      · rename_i hn
        refine ⟨n, hv, RgOk.of_le (by omega) (by omega) (by omega) (by omega), fun p hp => ?_⟩
        refine Fin.tm (fun w H' F' g' R' k' => P2 w H' F' own2 (g.tr g') R' ((okRv G B σ).mono g.back k')) R2 hp ⟨rgV 0 n, rfl, ?_⟩
        have e : upFrom 0 n.toNat = ((List.range n.toNat).map fun k : Nat => (0 + (k : Int))).map D.int := by
          unfold upFrom
          rw [List.map_map]
          rfl
        rw [e, Reps.ints]
        unfold rgV
        rw [List.map_map, Int.sub_zero]
        rfl
      · exact P2.elim
    | _ => exact P2.elim
  | _ => exact P2.elim
end
/-- what a class's __init__ keeps at a level -/
structure AK (P : Program) (w : World) (K : Fr) (mg : Str → Option Value) (base : Heap) (cls : Nat → Addr) (k : Nat) (c : Nat) (x : Str) (ps : List Str) (run : List Arg → DR) : Prop where
  ex : ∃ f fd, FnOk P w K mg base (L2N.CX P w) k f fd ps (spG ⟨K, cls, none⟩ ps.length run) ∧ Mk K (cls c) f ∧ mg x = some (.ref (cls c)) ∧ Binds K fd ps []
section
variable {P : Program} {w : World} {K : Fr} {mg : Str → Option Value} {base : Heap} {cls : Nat → Addr} {k c : Nat} {x : Str} {ps : List Str} {run : List Arg → DR}
theorem AK.uk (h : AK P w K mg base cls k c x ps run) : UK P w K mg base ⟨K, cls, none⟩ k c x ps.length [] run := by
  obtain ⟨f, fd, h1, h2, h3, h4⟩ := h.ex
  exact ⟨f, fd, ps, [], [], h1, h2, h3, h4, .nil, fun F => reps_nil.mpr rfl⟩
theorem AK.bad {f : Addr} {fd : FuncData} (h1 : Mk K (cls c) f) (h2 : mg x = some (.ref (cls c))) (h3 : Binds K fd ps []) (hr : run = fun _ => .bad) : AK P w K mg base cls k c x ps run := by
  subst hr
  exact ⟨f, fd, ⟨fun _ _ _ _ h => (sp_bad h).elim, fun _ _ _ _ _ _ _ _ _ _ _ _ _ h => (sp_bad h).elim⟩, h1, h2, h3⟩
end
end VL

set_option maxHeartbeats 200000
/-! The value layer: list(text); texts, evaluated. -/
namespace VL
open PySem PySem.Spec L2 PyProof.Rows
section
variable {X : Cx} {G : Gx}
def sgV (x : Str) : List V := x.cps.toList.map fun c => V.str ⟨#[c]⟩
theorem list_text (hc : X.calm = true) : CallR X (.type "list") (fun xs H Q => ∃ x : Str, xs = [V.str x] ∧ x.cps.size ≤ 1000000 ∧ ∀ p, H p = none → Q (.ref p) (upd H p (.lst (sgV x)))) := by
  intro pins s σ H xs us Q I r ⟨x, ex, hx, q⟩
  subst ex
  obtain ⟨u, eu, rx⟩ := vals1 r
  subst eu
  obtain ⟨t, rfl⟩ := rx
  have hz : x.cps.size ≤ sizeLine := by rw [sizeLine_eq]; omega
  refine call_list_str (I.ok.hd hc) x t (hn := hz) fun h' tk acc' c' hk hS hacc => ?_
  refine ⟨.ref s.heap.objs.size, upd H s.heap.objs.size (.lst (sgV x)), I.laid (t' := tk) hk (Nat.le_refl _) (show ObjOk X.prog X.w _ _ _ (.lst (sgV x)) from ⟨?_, acc'.toList, c', ?_, ?_⟩), rfl, q _ (I.hok.fresh (Nat.le_refl _))⟩
  · unfold sgV
    rw [List.length_map, Array.length_toList]
    exact hz
  · refine vals_of_at ?_ fun j y w h1 h2 => ?_
    · unfold sgV
      rw [List.length_map, Array.length_toList, Array.length_toList, hacc.1]
    · have h3 := hacc.2 j w (by rw [← Array.getElem?_toList]; exact h2)
      unfold sgV at h1
      rw [List.getElem?_map] at h1
      obtain ⟨c, tk2, e1, e2⟩ := h3
      rw [Array.getElem?_toList] at h1
      rw [e1] at h1
      injection h1 with h1
      subst h1
      exact ⟨tk2, e2⟩
  · rw [Array.toArray_toList]
    exact hS
def listSD (ds : List D) : Option Rv := match ds with
  | [.str s] => if s.length ≤ lim then some (.tm (.lst (signs s))) else none
  | ds => listD ds
theorem listS_ok (hc : X.calm = true) (hK : G.K = X.K) : CallN X G (.type "list") listSD := by
  intro B F own σ H ρ vs ds rv Q R h e f
  unfold listSD at e
  split at e
  · rename_i s
    split at e
    · rename_i hl
      injection e with e
      subst e
      obtain ⟨v, rfl, r⟩ := reds1 h
      refine ⟨_, list_text hc, toS s, by rw [red_str r], by unfold lim at hl; simpa using hl, fun l hl => f.tm R hl ⟨sgV (toS s), rfl, ?_⟩⟩
      have e2 : sgV (toS s) = s.map fun c => V.str ⟨#[c]⟩ := by simp [sgV]
      rw [e2]
      have key : ∀ (F' : Hp) (s : List Nat), Reps G F' (signs s) (s.map fun c => V.str ⟨#[c]⟩) := by
        intro F' s
        induction s with
        | nil => exact reps_nil.mpr rfl
        | cons c s ih => exact reps_cons.mpr ⟨rep_str.mpr rfl, ih⟩
      exact key _ s
    · cases e
  · exact list_ok hK R h e f
end
/-! ### texts -/
section
variable {s t : List Nat} {c : Nat} {ρ : VEnv}
@[simp] theorem it_str : itemsD (.str s) = some (s.map fun c => .str [c]) := id rfl
theorem lenS (h : s.length ≤ lim) : lenD [.str s] = some (.sh (.int s.length)) := if_pos h
theorem ixS {i : Int} {k : Nat} (h : s.length ≤ lim) (hi : i = (k : Nat)) (hc : s[k]? = some c) : ixD (.str s) (.int i) = some (.sh (.str [c])) := by
  have hk := (List.getElem?_eq_some_iff.mp hc).1
  subst hi
  show (if s.length ≤ lim then (atI s (k : Int)).map fun c => Rv.sh (.str [c]) else none) = _
  rw [if_pos h]
  unfold atI
  rw [ixN_in (by omega) (by omega)]
  simp [hc]
@[simp] theorem in_s : inD (.str [c]) (.str t) = some (.sh (.bl (decide (c ∈ t)))) := id rfl
@[simp] theorem notin_s : notInD (.str [c]) (.str t) = some (.sh (.bl (!decide (c ∈ t)))) := id rfl
theorem addS (h : s.length + t.length ≤ lim) : addD (.str s) (.str t) = some (.sh (.str (s ++ t))) := if_pos h
theorem sliceS (h : s.length ≤ lim) {lo hi : Option Int} : sliceD (.str s) lo hi = some (.sh (.str (cutL s lo hi))) := if_pos h
/-- the signs are small -/
def sok (s : List Nat) : Bool := s.all fun c => decide (c < 1000)
@[simp] theorem sok_nil : sok [] = true := id rfl
@[simp] theorem sok_cons : sok (c :: s) = (decide (c < 1000) && sok s) := id rfl
@[simp] theorem sok_app : sok (s ++ t) = (sok s && sok t) := by unfold sok; rw [List.all_append]
theorem shS (h : sok s = true) : SeqAt.shaped (.str (toS s)) = true := by
  have : PyData.strOk (toS s) = true := by
    unfold PyData.strOk sok at *
    rw [List.all_eq_true] at h
    rw [Array.all_eq_true]
    intro i hi
    have hm : s[i]'(by simpa using hi) ∈ s := List.getElem_mem _
    have := of_decide_eq_true (h _ hm)
    simp at this ⊢
    omega
  simp [SeqAt.shaped, PyData.canLay0, PyData.depth, this]
theorem toS_inj : toS s = toS t ↔ s = t := by
  constructor
  · intro h
    have := congrArg (fun z : Str => z.cps.toList) h
    simpa using this
  · rintro rfl
    rfl
@[simp] theorem eq_s (hs : sok s = true) (ht : sok t = true) : eqD (.str s) (.str t) = some (.sh (.bl (decide (s = t)))) := by
  unfold eqD eqB
  simp only [toPy, shS hs, shS ht, and_self, if_true, PyData.eqv, Option.map_some]
  congr 4
  rw [Bool.eq_iff_iff]
  simp [toS_inj]
@[simp] theorem ne_s (hs : sok s = true) (ht : sok t = true) : neD (.str s) (.str t) = some (.sh (.bl (!decide (s = t)))) := by
  unfold neD eqB
  simp only [toPy, shS hs, shS ht, and_self, if_true, PyData.eqv, Option.map_some]
  congr 5
  rw [Bool.eq_iff_iff]
  simp [toS_inj]
@[simp] theorem strs_of (ps : List (List Nat)) : strsOf (ps.map D.str) = some ps := by
  induction ps with
  | nil => rfl
  | cons x r ih => simp [strsOf, ih]
theorem joinN (cs : List Nat) (h : cs.length ≤ lim) : joinD (.str []) [.lst (cs.map fun c => .str [c])] = some (.sh (.str cs)) := by
  have e : cs.map (fun c => D.str [c]) = (cs.map fun c => [c]).map D.str := by simp [Function.comp_def]
  show (strsOf (cs.map fun c => D.str [c])).bind _ = _
  rw [e, strs_of]
  have e2 : ∀ cs : List Nat, joinS [] (cs.map fun c => [c]) = cs := by
    intro cs
    induction cs with
    | nil => rfl
    | cons c r ih => cases r with
      | nil => rfl
      | cons d r =>
        show [c] ++ [] ++ joinS [] ((d :: r).map fun c => [c]) = _
        rw [ih]
        rfl
  have e3 : ((cs.map fun c => [c]).map List.length).sum + (cs.map fun c => [c]).length * ([] : List Nat).length ≤ lim := by
    have : ∀ cs : List Nat, ((cs.map fun c => [c]).map List.length).sum = cs.length := by
      intro cs
      induction cs with
      | nil => rfl
      | cons c r ih => simp at ih ⊢; omega
    rw [this]
    simpa using h
  show (if _ then some (Rv.sh (.str (joinS [] (cs.map fun c => [c])))) else none) = _
  rw [if_pos e3, e2]
@[simp] theorem listS_s (h : s.length ≤ lim) : listSD [.str s] = some (.tm (.lst (s.map fun c => .str [c]))) := if_pos h
@[simp] theorem listS_l {xs : List D} : listSD [.lst xs] = some (.tm (.lst xs)) := id rfl
@[simp] theorem listS_t {xs : List D} : listSD [.tup xs] = some (.tm (.lst xs)) := id rfl
@[simp] theorem listRg_e {n : Int} (h0 : 0 ≤ n) (h1 : n ≤ 1000000) : lstRg (.sh (.int n)) ρ = .ok (.tm (.lst (ups n.toNat))) ρ := by
  show (if 0 ≤ n ∧ n ≤ 1000000 then Res.ok (Rv.tm (.lst (upFrom 0 n.toNat))) ρ else .bad) = _
  rw [if_pos ⟨h0, h1⟩, up_rng]
end
end VL

set_option maxHeartbeats 200000
/-! The value layer: an own thing that is walked by what its __iter__ gives: iter(self.f), f a tuple. -/
namespace VL
open PySem PySem.Spec L2 PyProof.Rows
/-! ### a heap with room at its end -/
def offO : Obj := { cls := .none, data := .freed }
def padH (h : Heap) (n : Nat) : Heap := ⟨h.objs ++ Array.replicate (n - h.objs.size) offO, h.life⟩
theorem pad_get {h : Heap} {n : Nat} {b : Addr} : (padH h n).get? b = h.get? b := by
  by_cases hb : b < h.objs.size
  · unfold Heap.get? padH
    rw [Array.getElem?_append_left hb]
  · have hb := Nat.not_lt.mp hb
    have e1 : h.objs[b]? = none := Array.getElem?_eq_none hb
    have e0 : h.get? b = none := by unfold Heap.get?; rw [e1]
    have e2 : (padH h n).objs[b]? = none ∨ (padH h n).objs[b]? = some offO := by
      show (h.objs ++ Array.replicate (n - h.objs.size) offO)[b]? = none ∨ _
      rw [Array.getElem?_append_right hb, Array.getElem?_replicate]
      split
      · exact .inr (by show (h.objs ++ Array.replicate (n - h.objs.size) offO)[b]? = _; rw [Array.getElem?_append_right hb, Array.getElem?_replicate, if_pos (by assumption)])
      · exact .inl rfl
    rw [e0]
    unfold Heap.get?
    rcases e2 with e2 | e2 <;> rw [e2] <;> rfl
theorem pad_size {h : Heap} {n : Nat} (hn : h.objs.size ≤ n) : (padH h n).objs.size = n := by
  show (h.objs ++ Array.replicate (n - h.objs.size) offO).size = n
  rw [Array.size_append, Array.size_replicate]
  omega
theorem pad_in {K : PySem.W.Frag} {h : Heap} {n : Nat} (k : K.In h) : K.In (padH h n) := fun a o e => by rw [pad_get]; exact k a o e
theorem pad_ns {h : Heap} {n : Nat} {a : Addr} {m : Str → Option Value} (k : h.Ns a m) : (padH h n).Ns a m := by
  obtain ⟨o, es, ep, e, r⟩ := k
  exact ⟨o, es, ep, by rw [pad_get]; exact e, r⟩
theorem pad_funs {h base : Heap} {n : Nat} : ∀ {l : List Env}, h.FunFrames base l → h.FunFrames (padH base n) l
  | [], _ => trivial
  | env :: r, ⟨hk, ⟨L, o, hf, hn, ho⟩, hr⟩ => ⟨hk, ⟨L, o, hf, by rw [pad_get]; exact hn, ho⟩, pad_funs hr⟩
theorem pad_env {P : Program} {w : World} {K : PySem.W.Frag} {mg : Str → Option Value} {base : Heap} {A : Around} {outer : List Env} {s : Shared} {H : Hp} (e : Env0 P w K mg base A outer s H) : Env0 P w K mg (padH base s.heap.objs.size) A outer s H where
  frames := e.frames
  mod := by
    obtain ⟨k1, k2, ⟨mb, k3, k4⟩, k5⟩ := e.mod
    obtain ⟨mc, k6, k7⟩ := k5
    exact ⟨pad_in k1, pad_ns k2, ⟨mb, pad_ns k3, k4⟩, ⟨mc, pad_ns k6, k7⟩⟩
  bs := fun b o q => e.bs b o (by rw [pad_get] at q; exact q)
  bsz := Nat.le_of_eq (pad_size e.bsz)
  funs := pad_funs e.funs
  frf := e.frf
  hok := e.hok
  bare := e.bare
/-! ### iter(t), t a tuple -/
abbrev itTO (t : Addr) : Obj := { cls := .type "tuple_iterator", data := .fields #[.ref t, .int 0 0] }
/-- at it an iterator over the tuple at t, at its start -/
def ItT (t it : Addr) : HO := .ext fun h => h.IsTupleIter it t 0
theorem itT_ok {P : Program} {w : World} {H : Hp} {h : Heap} {t it : Addr} (e : h.IsTupleIter it t 0) : ObjOk P w H h it (ItT t it) := by
  refine ⟨e, ?_, fun h1 h2 q k => ?_⟩
  · obtain ⟨o, e1, _⟩ := e
    exact ⟨o, e1⟩
  · obtain ⟨o, e1, e2⟩ := q
    exact ⟨o, k _ e1, e2⟩
theorem iter_tup {prog : Program} {w : World} {A : Around} {E : Value → Shared → Prop} {s : Shared} {t : Addr} {items : Array Value} {Q : Value → Shared → Prop} (hl : s.heap.IsTuple t items) (h : Q (.ref s.heap.objs.size) { s with heap := s.heap.push (itTO t) }) : wpAny (model prog w) A (call (.builtin "iter") [.ref t]) Q E s := by
  refine Calls.call_function_entry (by decide +kernel) (by decide +kernel) PySem.W.kdk_entry_iter (PySem.W.kdk_args_iter _) ?_
  unfold Builtin.«iter»
  refine wpAny_bind (m := someArgs "iter" 1 2 _) (wpAny_of_eq (a := [Value.ref t]) (by first | rfl | kernel_rfl!) ?_)
  show wpAny _ _ (pyIter (.ref t) >>= _) _ _ _
  refine wpAny_bind (wpAny_pyIter_tuple hl ?_)
  exact wpAny_pure ⟨_, rfl, h⟩
def rItT (K : PySem.W.Frag) (n : Nat) : List V → Hp → VK → Prop := fun xs H Q => ∃ (t : Addr) (zs : List V), xs = [.ref t] ∧ SqT K H t zs ∧ ∀ it, H it = none → n ≤ it → Q (.ref it) (upd H it (ItT t it))
theorem call_itT {X : Cx} : CallR X (.builtin "iter") (rItT X.K X.base.objs.size) := by
  intro pins s σ H xs us Q I r ⟨t, zs, ex, hq, q⟩
  subst ex
  obtain ⟨u, eu, ru⟩ := vals1 r
  subst eu
  cases ru
  obtain ⟨its, rv, pl, hz⟩ := I.tuple hq
  refine iter_tup (show s.heap.IsTuple t its.toArray from pl) ?_
  exact ⟨.ref s.heap.objs.size, _, I.laid (t' := s.toks) (fun b u e => Heap.get?_push_of_some _ e) (Nat.le_refl _) (itT_ok ⟨_, Heap.get?_push_size _ rfl, rfl, rfl⟩), rfl, q _ (I.hok.fresh (Nat.le_refl _)) (Nat.le_trans I.ok.bsz I.sz)⟩
/-- what such an __iter__ promises -/
def spIt (K : PySem.W.Frag) (n : Nat) (f : Str) : Sp := fun vs H Q _ => ∃ (a C dx : Addr) (fs : List (Str × V)) (t : Addr) (zs : List V), vs = [.ref a] ∧ H a = some (.ins C dx fs) ∧ Cls K C ∧ NoAttr K C f ∧ fs.lookup f = some (.ref t) ∧ SqT K H t zs ∧ ∀ it, H it = none → n ≤ it → Q (.ref it) (upd H it (ItT t it))
theorem fn_it {P : Program} {w : World} {K : PySem.W.Frag} {mg : Str → Option Value} {base : Heap} {CX : CXT} {x qual f : Str} {params : Arguments} {p0 p1 p2 p3 p4 : Pos} {body : List Stmt} {scope : Scope} {dvs : List V} {kws : List (Str × V)} {fi : Addr} {fd : FuncData} {k : Nat}
    (F : FunD K x qual params body scope dvs kws fi fd) (hb : body = [.Return (some (.Call (.Name "iter" p0) [.Attribute (.Name "self" p1) f p2] [] p3)) p4]) (S : FnScope ["self"] ["self"] scope) (hs1 : scope.names.lookup ("iter" : Str) = some .globalImplicit) (hs2 : scope.names.lookup ("self" : Str) = some .local) (hm : mg "iter" = none) : FnOk P w K mg base CX (k + 1) fi fd ["self"] (spIt K base.objs.size f) := by
  subst hb
  refine F.ok S (fun vs H Q E h => ?_) fun cdv A outer s H vs Q E hr h => ?_
  · obtain ⟨a, C, dx, fs, t, zs, rfl, _⟩ := h
    rfl
  · obtain ⟨a, C, dx, fs, t, zs, rfl, ha, hc, hn, hl, ht, q⟩ := h
    have hg : Gl (cxOf CX P w K mg base ["self"] qual scope fi cdv A outer s H E) "iter" := hs1
    have hb : bootBuiltins ("iter" : Str) = some (.builtin "iter") := by decide +kernel
    exact ⟨_, pss_one (ps_ret (pe_callB call_itT hg hm hb (pa_cons (pe_fld (pe_var (i := 0) rfl (.inl hs2)) rfl) pa_nil))), .ref a, rfl, a, C, dx, fs, .ref t, rfl, ha, hc, hn, hl, t, zs, rfl, ht, q⟩
/-! ### the walk -/
theorem no_cx {P : Program} {w : World} {st : List Env} {H : Hp} {s : Shared} {e : Value} {s' : Shared} (h : L2N.CX P w st H s (fun _ _ _ => False) e s') : False := by
  obtain ⟨_, _, _, _, _, _, _, _, _, _, _, _, z⟩ := h
  exact z
section
variable {X : Cx} {G : Gx} {W : WX} {B : Bx} {tg e : Expr} {ma : M Rv} {k : Nat} {C fi : Addr} {fd : FuncData} {f : Str}
/-- what is known of a class's __iter__ -/
structure ItK (P : Program) (w : World) (K : PySem.W.Frag) (mg : Str → Option Value) (k : Nat) (C fi : Addr) (fd : FuncData) (f : Str) : Prop where
  ok : ∀ base : Heap, K.In base → base.Ns mainGlobals mg → FnOk P w K mg base (L2N.CX P w) k fi fd ["self"] (spIt K base.objs.size f)
  binds : Binds K fd ["self"] []
  at_ : PySem.W.findIn K (.ref C) "__iter__" = some (some (.ref fi))
  fn : PySem.W.isFn K (.ref fi) = true
  cls : Cls K C
  noat : NoAttr K C f
theorem own_iter {pins : List (Addr × Obj)} {s : Shared} {σ : L2.St} {H : Hp} {R : It → Hp → Prop} {a dx t : Addr} {fs : List (Str × V)} {zs : List V} (D : ItK X.prog X.w X.K X.mg k C fi fd f) (hr : Room k X.A) (I : Inv X pins σ H s) (ha : H a = some (.ins C dx fs)) (hl : fs.lookup f = some (.ref t)) (ht : SqT X.K H t zs) (q : R (Itt X.K t) H) :
    wpAny (model X.prog X.w) X.A (pyIter (.ref a)) (PIE X pins σ tg R) X.xe s := by
  obtain ⟨mA, J, _⟩ := ins_get I.hok ha
  obtain ⟨od, J, _⟩ := J.look
  obtain ⟨m0, hF⟩ := I.fr
  refine PySem.W.owit_iter hF I.ok.mod.kin J D.at_ D.fn ?_
  have e0 := pad_env I.env0
  have hsz : (padH X.base s.heap.objs.size).objs.size = s.heap.objs.size := pad_size I.env0.bsz
  have hsp : spIt X.K (padH X.base s.heap.objs.size).objs.size f [.ref a] H (fun v H' => ∃ u, v = .ref u ∧ H u = none ∧ s.heap.objs.size ≤ u ∧ H' = upd H u (ItT t u)) (fun _ _ _ => False) :=
    ⟨a, C, dx, fs, t, zs, rfl, ha, D.cls, D.noat, hl, ht, fun it h1 h2 => ⟨it, rfl, h1, by rw [hsz] at h2; exact h2, rfl⟩⟩
  have r2 : Vals [V.ref a] [Value.ref a] := .cons rfl .nil
  refine wpAny_call (codeAny_mono ((D.ok _ e0.mod.kin e0.mod.glob).run X.A X.stack s H ⟨[.ref a], []⟩ [.ref a] [.ref a] _ _ hr e0 (by
    have := D.binds s [.ref a] I.kIn rfl
    simpa using this) r2 hsp) fun r s' hq => ?_)
  cases r with
  | error er => exact (no_cx hq).elim
  | ok fl =>
    cases fl with
    | next => exact False.elim hq
    | brk => exact False.elim hq
    | cont => exact False.elim hq
    | ret u =>
      obtain ⟨v, H', I', rv, u0, ev, hu, hs, eH⟩ := I.after hq
      subst ev eH
      cases rv
      have st : s'.heap.IsTupleIter u0 t 0 := (I'.hok u0 _ upd_same).1
      refine wpAny_specialOf st.typeIs F.slot_tuple_iterator_next.lookup ?_
      refine ⟨u0, [u0], _, Itt X.K t, ItX.dropH (upd H u0 (ItT t u0)) u0, rfl, ItX.inv_drop I' upd_same, turn_tuple t u0, st, fun b hb => ?_, by rw [ItX.dropH_upd hu]; exact q⟩
      have eb : b = u0 := by simpa using hb
      rw [eb]
      exact ItX.inv_fp I' upd_same (Nat.le_trans I.sz hs)
theorem src_at {pins : List (Addr × Obj)} {s1 : Shared} {σ : L2.St} {H1 : Hp} {R : It → Hp → Prop} {v : Value} {k : Sk} {vs : List V} (I1 : Inv X pins σ H1 s1) (r1 : RelV (Sk.v k) v) (ok : sOk X.K H1 k vs) (q1 : R (itPlain X.K k) H1) : wpAny (model X.prog X.w) X.A (pyIter v) (PIE X pins σ tg R) X.xe s1 := by
  have h := (pi_src (X := X) (tg := tg) (e := .Constant .none 0 default) (te := tC (.non)) pe_non)
  cases k with
  | l p =>
    have ok : SqL X.K H1 p vs := ok
    obtain rfl : v = .ref p := r1
    obtain ⟨its, rv, pl, hz⟩ := I1.list ok
    refine wpAny_pyIter_list pl.isList ?_
    refine ⟨s1.heap.objs.size, [s1.heap.objs.size], _, _, H1, rfl, I1.kept (t' := s1.toks) fun b o e => Heap.get?_push_of_some _ e, turn_list p _, ⟨_, Heap.get?_push_size _ rfl, rfl, rfl⟩, fun b hb => ?_, q1⟩
    obtain rfl : b = s1.heap.objs.size := by simpa using hb
    exact I1.fpOk (Nat.le_refl _) (I1.hok.fresh (Nat.le_refl _))
  | t p =>
    have ok : SqT X.K H1 p vs := ok
    obtain rfl : v = .ref p := r1
    obtain ⟨its, rv, pl, hz⟩ := I1.tuple ok
    refine wpAny_pyIter_tuple (show s1.heap.IsTuple p its.toArray from pl) ?_
    refine ⟨s1.heap.objs.size, [s1.heap.objs.size], _, _, H1, rfl, I1.kept (t' := s1.toks) fun b o e => Heap.get?_push_of_some _ e, turn_tuple p _, ⟨_, Heap.get?_push_size _ rfl, rfl, rfl⟩, fun b hb => ?_, q1⟩
    obtain rfl : b = s1.heap.objs.size := by simpa using hb
    exact I1.fpOk (Nat.le_refl _) (I1.hok.fresh (Nat.le_refl _))
  | s z =>
    obtain ⟨t, rfl⟩ := r1
    refine wpAny_pyIter_strU ?_
    refine ⟨s1.heap.objs.size, [s1.heap.objs.size], _, _, H1, rfl, I1.kept (t' := s1.toks) fun b o e => Heap.get?_push_of_some _ e, turn_str (tg := tg) s1.heap.objs.size z t (strIterType z) ?_, ⟨_, Heap.get?_push_size _ rfl, rfl, rfl⟩, fun b hb => ?_, q1⟩
    · unfold strIterType
      split
      · exact .inl rfl
      · exact .inr rfl
    · obtain rfl : b = s1.heap.objs.size := by simpa using hb
      exact I1.fpOk (Nat.le_refl _) (I1.hok.fresh (Nat.le_refl _))
def iSrcB (K : PySem.W.Frag) (C : Addr) (f : Str) (te : TE) : TI := fun σ H R => te σ H fun x H1 => (∃ k vs, x = Sk.v k ∧ sOk K H1 k vs ∧ R (itPlain K k) H1) ∨ ∃ (a dx t : Addr) (fs : List (Str × V)) (zs : List V), x = .ref a ∧ H1 a = some (.ins C dx fs) ∧ fs.lookup f = some (.ref t) ∧ SqT K H1 t zs ∧ R (Itt K t) H1
theorem pi_srcB {te : TE} (D : ItK X.prog X.w X.K X.mg k C fi fd f) (hr : Room k X.A) (he : PE X e te) : PI X tg e (iSrcB X.K C f te) := by
  refine ⟨fun pins s σ H R I q => ?_⟩
  refine thn (he.run pins s σ H _ I q) fun v s1 ⟨x, H1, I1, r1, q1⟩ => ?_
  rcases q1 with ⟨k, vs, ex, ok, q1⟩ | ⟨a, dx, t, fs, zs, ex, ha, hl, ht, q1⟩
  · subst ex
    exact src_at I1 r1 ok q1
  · subst ex
    obtain rfl : v = .ref a := r1
    exact own_iter D hr I1 ha hl ht q1
def srcB (c : Nat) (f : Str) : Rv → M (List D)
  | .sh (.ins c' ns ws) => fun ρ => if c' = c then (match getF f ns ws with
      | some (.tup ds) => .ok ds ρ
      | _ => .bad) else .bad
  | r => srcM r
theorem vi_srcB {c : Nat} (hK : G.K = X.K) (D : ItK X.prog X.w X.K X.mg k (G.cls c) fi fd f) (hr : Room k X.A) (ha : VE X G W e ma) : VI X G W tg e (ma.bind (srcB c f)) := by
  refine ⟨fun B => pi_imp (pi_srcB (tg := tg) D hr (ha.run B)) fun σ H Q ⟨F, own, ρ, R, P⟩ => ?_⟩
  refine step (k := srcB c f) Grow.rfl' R P fun r ρ1 v H1 F1 own1 _ g1 _ R1 k1 P1 => ?_
  have plain : srcB c f r = srcM r → (∃ k vs, v = Sk.v k ∧ sOk X.K H1 k vs ∧ Q (itPlain X.K k) H1) := by
    intro e1
    rw [e1] at P1
    have P1 : Post G B W σ (okW G B) own F H ((srcM r ρ1).bind M.pure) Q := by
      have e : (srcM r ρ1).bind M.pure = srcM r ρ1 := by
        unfold Res.bind
        cases srcM r ρ1 <;> rfl
      rw [e]
      exact P1
    obtain ⟨ds, sk, vs, F2, _, ev, st, g2, R2, f12, P2⟩ := src_go hK g1 R1 k1 P1
    exact ⟨sk, vs, ev, st.ok Sub.rfl' R2.fsub R2.same, P2 _ H1 F2 own1 g2 R2 (wk_src st)⟩
  cases r with
  | tm d => exact .inl (plain rfl)
  | pk i => exact .inl (plain rfl)
  | sh d =>
    cases d with
    | ins c' ns ws =>
      unfold srcB at P1
      dsimp only at P1
      split at P1
      · rename_i hc
        subst hc
        split at P1
        · rename_i ds eg
          have k1 : Rep G F1 (.ins c' ns ws) v := k1
          unfold Rep at k1
          obtain ⟨a, dx, us, ev, ea, hl, rr⟩ := k1
          obtain ⟨u, hu, ru⟩ := getF_ok rr eg
          obtain ⟨t, zs, rfl, hq, rz⟩ := rep_tup.mp ru
          have st : Still G B X.K (.t t) zs ds F1 := ⟨fun f1 f2 _ => hK ▸ f2.sqT (f1.sqT hq), rz⟩
          exact .inr ⟨a, dx, t, ns.zip us, zs, ev, R1.fsub _ _ ea, hu, hK ▸ R1.fsub.sqT hq, P1 _ H1 F1 own1 g1 R1 (wk_src st)⟩
        · exact P1.elim
      · exact P1.elim
    | _ => exact .inl (plain rfl)
@[simp] theorem srcB_l {c : Nat} {f : Str} {xs : List D} {ρ : VEnv} : srcB c f (.sh (.lst xs)) ρ = .ok xs ρ := id rfl
@[simp] theorem srcB_tm {c : Nat} {f : Str} {d : D} {ρ : VEnv} : srcB c f (.tm d) ρ = srcM (.tm d) ρ := id rfl
@[simp] theorem srcB_pk {c : Nat} {f : Str} {i : Nat} {ρ : VEnv} : srcB c f (.pk i) ρ = srcM (.pk i) ρ := id rfl
theorem srcB_ins {c : Nat} {f : Str} {ns : List Str} {ws ds : List D} {ρ : VEnv} (h : getF f ns ws = some (.tup ds)) : srcB c f (.sh (.ins c ns ws)) ρ = .ok ds ρ := by
  unfold srcB
  simp [h]
end
end VL

set_option maxHeartbeats 200000
set_option maxHeartbeats 0
namespace LW
open PySem PySem.Spec L2 VL
open PyProof.Rows (envOfC)
/-! ### the text, its defs -/
def top (i : Nat) : Stmt := PySem.Challenge.pw_rankedtongues_k16_first_ranking_that_fit.main.body.getD i (.Pass ⟨0, 0, 0, 0⟩)
/-! ### tables: 0 TongueError, 1 TooMany, 2 BadLetters, 3 BadPlace, 4 BadRow, 5 NotFitting, 6 AtOdds, 7 RowBook -/
def flds : Flds := [(7, "m"), (7, "rows")]
def is_AtOdds : IsiT := [(.own 7, false)]
def is_BadLetters : IsiT := [(.own 7, false)]
def is_BadPlace : IsiT := [(.own 7, false)]
def is_BadRow : IsiT := [(.own 7, false)]
def is_NotFitting : IsiT := [(.own 7, false)]
def is_RowBook : IsiT := [(.own 7, true)]
def is_TooMany : IsiT := [(.own 7, false)]
def is_ValueError : IsiT := [(.ty "bool", false), (.ty "int", false), (.ty "str", false), (.ty "tuple", false), (.ty "list", false), (.ty "NoneType", false), (.ty "dict", false)]
def is_bool : IsiT := [(.ty "bool", true), (.ty "int", false), (.ty "str", false), (.ty "tuple", false), (.ty "list", false), (.ty "NoneType", false), (.ty "dict", false)]
def is_int : IsiT := [(.ty "bool", true), (.ty "int", true), (.ty "str", false), (.ty "tuple", false), (.ty "list", false), (.ty "NoneType", false), (.ty "dict", false)]
def is_str : IsiT := [(.ty "bool", false), (.ty "int", false), (.ty "str", true), (.ty "tuple", false), (.ty "list", false), (.ty "NoneType", false), (.ty "dict", false)]
def is_tuple : IsiT := [(.ty "bool", false), (.ty "int", false), (.ty "str", false), (.ty "tuple", true), (.ty "list", false), (.ty "NoneType", false), (.ty "dict", false)]
def xi_AtOdds : XIsT := [(0, false), (1, false), (2, false), (3, false), (4, false), (5, false), (6, true)]
def xi_BadLetters : XIsT := [(0, false), (1, false), (2, true), (3, false), (4, false), (5, false), (6, false)]
def xi_BadPlace : XIsT := [(0, false), (1, false), (2, false), (3, true), (4, false), (5, false), (6, false)]
def xi_BadRow : XIsT := [(0, false), (1, false), (2, false), (3, false), (4, true), (5, false), (6, false)]
def xi_NotFitting : XIsT := [(0, false), (1, false), (2, false), (3, false), (4, false), (5, true), (6, false)]
def xi_TooMany : XIsT := [(0, false), (1, true), (2, false), (3, false), (4, false), (5, false), (6, false)]
def xi_ValueError : XIsT := [(0, true), (1, true), (2, true), (3, true), (4, true), (5, true), (6, true)]
def xflds : XFlds := [(1, "limit"), (3, "count"), (4, "place"), (5, "place"), (6, "lot")]
def ca_TongueError : Catch := [(0, true), (1, true), (2, true), (3, true), (4, true), (5, true), (6, true)]
/-! ### what each def means -/
/-- goods(row): slots 0 row 1 letter 2 mark -/
noncomputable def m_3 (R R2 : RunF) : SM :=
  sSeq (sRet ((mMt .str joinD (mCst (.str [])) (mCons ((lcM ((((mCst (.str [65, 66, 67, 68, 69, 70])).bind srcM).bind fun xs => (((mFrz 0)).bind srcM).bind fun ys => M.pure (zipL xs ys))) (tgTup 2 (tgCons (tgName 1) (tgCons (tgName 2) tgNil))) (((mBin eqD ((mVar 2)) (mCst (.str [43]))).bind asB)) (((mFrz 1)).bind shR) [1, 2])) (M.pure [])))))
  (sNext)
/-- bads(row): slots 0 row 1 letter 2 mark -/
noncomputable def m_4 (R R2 : RunF) : SM :=
  sSeq (sRet ((mMt .str joinD (mCst (.str [])) (mCons ((lcM ((((mCst (.str [65, 66, 67, 68, 69, 70])).bind srcM).bind fun xs => (((mFrz 0)).bind srcM).bind fun ys => M.pure (zipL xs ys))) (tgTup 2 (tgCons (tgName 1) (tgCons (tgName 2) tgNil))) (((mBin eqD ((mVar 2)) (mCst (.str [45]))).bind asB)) (((mFrz 1)).bind shR) [1, 2])) (M.pure [])))))
  (sNext)
/-- mask_of(letters): slots 0 letters 1 mask 2 letter -/
noncomputable def m_6 (R R2 : RunF) : SM :=
  sSeq (sSet 1 (mCst (.int 0)))
  (sSeq (sFor (((mFrz 0)).bind srcM) (tgName 2) (sSeq (sSet 1 ((mBin borD ((mVar 1)) ((mBin shlD (mCst (.int 1)) ((mMt .str sindexD (mCst (.str [65, 66, 67, 68, 69, 70])) (mCons ((mVar 2)) (M.pure [])))))))))
  (sNext)))
  (sSeq (sRetV 1)
  (sNext)))
/-- row_masks(rows): slots 0 rows 1 row -/
noncomputable def m_7 (R R2 : RunF) : SM :=
  sSeq (sRet ((lcM ((((mFrz 0)).bind (srcB 7 "rows"))) (tgName 1) (M.pure true) (((mTup (mConsD (((mUser (R 6) 1 [] (mCons ((mUser (R 3) 1 [] (mCons ((mVar 1)) (M.pure [])))) (M.pure [])))).bind shR) (mConsD (((mUser (R 6) 1 [] (mCons ((mUser (R 4) 1 [] (mCons ((mVar 1)) (M.pure [])))) (M.pure [])))).bind shR) (M.pure []))))).bind shR) [1])))
  (sNext)
/-- is_row(m, row): slots 0 m 1 row 2 mark -/
noncomputable def m_8 (R R2 : RunF) : SM :=
  sSeq (sIf (((mBin neD ((mCall lenD (mCons ((mVar 1)) (M.pure [])))) ((mVar 0))).bind asB)) (sSeq (sRet (mCst (.bl false)))
  (sNext)) (sNext))
  (sSeq (sFor (((mFrz 1)).bind srcM) (tgName 2) (sSeq (sIf (((mBin notInD ((mVar 2)) (mCst (.str [43, 45, 46]))).bind asB)) (sSeq (sRet (mCst (.bl false)))
  (sNext)) (sNext))
  (sNext)))
  (sSeq (sRet (mCst (.bl true)))
  (sNext)))
/-- RowBook.__init__(self, m, rows): slots 0 self 1 m 2 rows 3 kept 4 place 5 row -/
noncomputable def m_9 (R R2 : RunF) : SM :=
  sSeq (sIf ((mNot ((mChain leD leD (mCst (.int 1)) ((mVar 1)) (mCst (.int 6)))))) (sSeq (sRaise1 4 "place" ((mCst .non).bind shR))
  (sNext)) (sNext))
  (sSeq (sSet 3 ((mCall tupleD (mCons ((mVar 2)) (M.pure [])))))
  (sSeq (sIf (((mBin gtD ((mCall lenD (mCons ((mVar 3)) (M.pure [])))) (mCst (.int 60))).bind asB)) (sSeq (sRaise1 1 "limit" ((mCst (.int 60)).bind shR))
  (sNext)) (sNext))
  (sSeq (sFor ((((mFrz 3)).bind srcM).bind fun ds => M.pure (enumL 0 ds)) (tgTup 2 (tgCons (tgName 4) (tgCons (tgName 5) tgNil))) (sSeq (sIf ((mNot ((((mUser (R 8) 2 [] (mCons ((mVar 1)) (mCons ((mVar 5)) (M.pure []))))).bind mTruth)))) (sSeq (sRaise1 4 "place" (((mFrz 4)).bind shR))
  (sNext)) (sNext))
  (sNext)))
  (sSeq (sFldSet flds 0 "m" (((mFrz 1)).bind shR))
  (sSeq (sFldSet flds 0 "rows" (((mFrz 3)).bind shR))
  (sNext))))))
/-- strata_of(rules, masks): slots 0 rules 1 masks 2 strata 3 left 4 stratum 5 place -/
noncomputable def m_16 (R R2 : RunF) : SM :=
  sSeq (sSet 2 ((mLst (M.pure []))))
  (sSeq (sSet 3 ((((mCall lenD (mCons ((mVar 1)) (M.pure [])))).bind lstRg)))
  (sSeq (sWhile (((mBin neD ((mVar 0)) (mCst (.int 0))).bind asB)) (sSeq (sSet 4 ((mFrz 0)))
  (sSeq (sFor (((mFrz 3)).bind srcM) (tgName 5) (sSeq (sSet 4 ((mBin subD ((mVar 4)) ((mBin bandD ((mVar 4)) ((mBin ixD ((mBin ixD ((mVar 1)) ((mVar 5)))) (mCst (.int 1)))))))))
  (sNext)))
  (sSeq (sIf (((mBin eqD ((mVar 4)) (mCst (.int 0))).bind asB)) (sSeq (fun ρ => .bk ρ)
  (sNext)) (sNext))
  (sSeq (sDrop ((mWr .list 2 appendW (mConsD (((mFrz 4)).bind shR) (M.pure [])))))
  (sSeq (sSet 0 ((mBin subD ((mVar 0)) ((mVar 4)))))
  (sSeq (sSet 3 (lcM ((((mFrz 3)).bind srcM)) (tgName 5) (((mBin eqD ((mBin bandD ((mBin ixD ((mBin ixD ((mVar 1)) ((mVar 5)))) (mCst (.int 0)))) ((mVar 4)))) (mCst (.int 0))).bind asB)) (((mFrz 5)).bind shR) [5]))
  (sNext))))))))
  (sSeq (sRet ((mTup (mConsD (((mFrz 2)).bind shR) (mConsD (((mFrz 3)).bind shR) (M.pure []))))))
  (sNext))))
/-- masks_consistent(masks): slots 0 masks 1 strata 2 _ -/
noncomputable def m_17 (R R2 : RunF) : SM :=
  sSeq (sAsg (tgTup 2 (tgCons (tgName 1) (tgCons (tgName 2) tgNil))) (((mUser (R 16) 2 [] (mCons (mCst (.int 63)) (mCons ((mVar 0)) (M.pure []))))).bind shR))
  (sSeq (sRet ((mBin eqD ((mCall sumD (mCons ((mVar 1)) (M.pure [])))) (mCst (.int 63)))))
  (sNext))
/-- least_lot(masks): slots 0 masks 1 strata 2 left 3 stuck 4 lot 5 place 6 found 7 fewer 8 other -/
noncomputable def m_18 (R R2 : RunF) : SM :=
  sSeq (sAsg (tgTup 2 (tgCons (tgName 1) (tgCons (tgName 2) tgNil))) (((mUser (R 16) 2 [] (mCons (mCst (.int 63)) (mCons ((mVar 0)) (M.pure []))))).bind shR))
  (sSeq (sSet 3 ((mBin subD (mCst (.int 63)) ((mCall sumD (mCons ((mVar 1)) (M.pure [])))))))
  (sSeq (sSet 4 ((mLst (M.pure []))))
  (sSeq (sFor (((mFrz 2)).bind srcM) (tgName 5) (sSeq (sSet 6 ((mBin bandD ((mBin ixD ((mBin ixD ((mVar 0)) ((mVar 5)))) (mCst (.int 1)))) ((mVar 3)))))
  (sSeq (sIf (((mBin neD ((mVar 6)) (mCst (.int 0))).bind asB)) (sSeq (sDrop ((mWr .list 4 appendW (mConsD (((mFrz 5)).bind shR) (M.pure [])))))
  (sSeq (sSet 3 ((mBin subD ((mVar 3)) ((mVar 6)))))
  (sNext))) (sNext))
  (sNext))))
  (sSeq (sFor (((mCall listSD (mCons ((mVar 4)) (M.pure [])))).bind srcM) (tgName 5) (sSeq (sSet 7 (lcM ((((mFrz 4)).bind srcM)) (tgName 8) (((mBin neD ((mVar 8)) ((mVar 5))).bind asB)) (((mFrz 8)).bind shR) [8]))
  (sSeq (sIf ((mNot ((((mUser (R 17) 1 [] (mCons ((lcM ((((mFrz 7)).bind srcM)) (tgName 8) (M.pure true) (((mBin ixD ((mVar 0)) ((mVar 8)))).bind shR) [8])) (M.pure [])))).bind mTruth)))) (sSeq (sSet 4 ((mFrz 7)))
  (sNext)) (sNext))
  (sNext))))
  (sSeq (sRet ((mCall tupleD (mCons ((mVar 4)) (M.pure [])))))
  (sNext))))))
/-- check_consistent(masks): slots 0 masks 1 lot -/
noncomputable def m_19 (R R2 : RunF) : SM :=
  sSeq (sSet 1 ((mUser (R 18) 1 [] (mCons ((mVar 0)) (M.pure [])))))
  (sSeq (sIf (((mBin gtD ((mCall lenD (mCons ((mVar 1)) (M.pure [])))) (mCst (.int 0))).bind asB)) (sSeq (sRaise1 6 "lot" (((mFrz 1)).bind shR))
  (sNext)) (sNext))
  (sNext))
/-- needs_of(m, masks): slots 0 m 1 masks 2 place 3 good 4 bad -/
noncomputable def m_20 (R R2 : RunF) : SM :=
  sSeq (sRet ((lcM (((mConsD (((mFrz 0)).bind shR) (M.pure [])).bind fun ds => ofO (rng1D ds))) (tgName 2) (M.pure true) (((lcM ((((mFrz 1)).bind srcM)) (tgTup 2 (tgCons (tgName 3) (tgCons (tgName 4) tgNil))) ((((mBin bandD ((mBin shrD ((mVar 4)) ((mVar 2)))) (mCst (.int 1)))).bind mTruth)) (((mFrz 3)).bind shR) [3, 4])).bind shR) [2])))
  (sNext)
/-- may_come(needs, above, place): slots 0 needs 1 above 2 place 3 good -/
noncomputable def m_21 (R R2 : RunF) : SM :=
  sSeq (sIf ((((mBin bandD ((mBin shrD ((mVar 1)) ((mVar 2)))) (mCst (.int 1)))).bind mTruth)) (sSeq (sRet (mCst (.bl false)))
  (sNext)) (sNext))
  (sSeq (sFor (((mBin ixD ((mVar 0)) ((mVar 2)))).bind srcM) (tgName 3) (sSeq (sIf (((mBin eqD ((mBin bandD ((mVar 3)) ((mVar 1)))) (mCst (.int 0))).bind asB)) (sSeq (sRet (mCst (.bl false)))
  (sNext)) (sNext))
  (sNext)))
  (sSeq (sRet (mCst (.bl true)))
  (sNext)))
/-- first_letters(m, masks): slots 0 m 1 masks 2 needs 3 above 4 ranking 5 _ 6 rule 7 place -/
noncomputable def m_22 (R R2 : RunF) : SM :=
  sSeq (sSet 2 ((mUser (R 20) 2 [] (mCons ((mVar 0)) (mCons ((mVar 1)) (M.pure []))))))
  (sSeq (sSet 3 (mCst (.int 0)))
  (sSeq (sSet 4 (mCst (.str [])))
  (sSeq (sFor ((mConsD (((mFrz 0)).bind shR) (M.pure [])).bind fun ds => ofO (rng1D ds)) (tgName 5) (sSeq (sSet 6 ((mCall minD (mCons ((lcM (((mConsD (((mFrz 0)).bind shR) (M.pure [])).bind fun ds => ofO (rng1D ds))) (tgName 7) ((((mUser (R 21) 3 [] (mCons ((mVar 2)) (mCons ((mVar 3)) (mCons ((mVar 7)) (M.pure [])))))).bind mTruth)) (((mFrz 7)).bind shR) [7])) (M.pure [])))))
  (sSeq (sSet 3 ((mBin borD ((mVar 3)) ((mBin shlD (mCst (.int 1)) ((mVar 6)))))))
  (sSeq (sSet 4 ((mBin addD ((mVar 4)) ((mBin ixD (mCst (.str [65, 66, 67, 68, 69, 70])) ((mVar 6)))))))
  (sNext)))))
  (sSeq (sRetV 4)
  (sNext)))))
/-- first_ranking(rows): slots 0 rows 1 masks -/
noncomputable def m_23 (R R2 : RunF) : SM :=
  sSeq (sSet 1 ((mUser (R 7) 1 [] (mCons ((mVar 0)) (M.pure [])))))
  (sSeq (sDrop ((mUser (R 19) 1 [] (mCons ((mVar 1)) (M.pure [])))))
  (sSeq (sRet ((mUser (R 22) 2 [] (mCons ((mFld flds "m" ((mVar 0)))) (mCons ((mVar 1)) (M.pure []))))))
  (sNext)))
/-- _law_mix(cell, k): slots 0 cell 1 k 2 once 3 twice 4 third -/
noncomputable def m_24 (R R2 : RunF) : SM :=
  sSeq (sSet 2 ((mBin modD ((mCall intD (mCons ((mBin addD ((mBin addD ((mBin mulD ((mVar 0)) (mCst (.int 48271)))) ((mBin mulD ((mVar 1)) (mCst (.int 69621)))))) (mCst (.int 11)))) (M.pure [])))) (mCst (.int 2147483647)))))
  (sSeq (sSet 3 ((mBin modD ((mCall intD (mCons ((mBin addD ((mBin addD ((mBin mulD ((mVar 2)) ((mVar 2)))) ((mBin mulD ((mVar 1)) (mCst (.int 16807)))))) (mCst (.int 7)))) (M.pure [])))) (mCst (.int 2147483629)))))
  (sSeq (sSet 4 ((mBin modD ((mCall intD (mCons ((mBin addD ((mBin addD ((mBin mulD ((mVar 3)) ((mVar 3)))) ((mBin mulD ((mVar 2)) (mCst (.int 31)))))) (mCst (.int 3)))) (M.pure [])))) (mCst (.int 2147483587)))))
  (sSeq (sRet ((mBin fdivD ((mVar 4)) (mCst (.int 64)))))
  (sNext))))
/-- _law_draws(script, many): slots 0 script 1 many 2 told 3 cell 4 rest 5 k 6 seed -/
noncomputable def m_25 (R R2 : RunF) : SM :=
  sSeq (sSet 2 ((mLst (M.pure []))))
  (sSeq (sFor (((mFrz 0)).bind srcM) (tgName 3) (sSeq (sSet 4 ((mCall absD (mCons ((mVar 3)) (M.pure [])))))
  (sSeq (sIf (((mBin geD ((mVar 4)) ((mBin powD (mCst (.int 10)) (mCst (.int 18))))).bind asB)) (sSeq (sFor ((mConsD ((mCst (.int 60)).bind shR) (M.pure [])).bind fun ds => ofO (rng1D ds)) (tgName 5) (sSeq (sIf ((mAnd (((mBin gtD ((mVar 4)) (mCst (.int 0))).bind asB)) (((mBin ltD ((mCall lenD (mCons ((mVar 2)) (M.pure [])))) ((mVar 1))).bind asB)))) (sSeq (sDrop ((mWr .list 2 appendW (mConsD (((mBin modD ((mCall intD (mCons ((mVar 4)) (M.pure [])))) (mCst (.int 997)))).bind shR) (M.pure [])))))
  (sSeq (sSet 4 ((mBin fdivD ((mVar 4)) (mCst (.int 997)))))
  (sNext))) (sNext))
  (sNext)))
  (sNext)) (sNext))
  (sNext))))
  (sSeq (sSet 6 (mCst (.int 5)))
  (sSeq (sFor (((mFrz 0)).bind srcM) (tgName 3) (sSeq (sSet 6 ((mBin modD ((mCall intD (mCons ((mBin addD ((mBin mulD ((mVar 6)) (mCst (.int 31)))) ((mCall absD (mCons ((mVar 3)) (M.pure [])))))) (M.pure [])))) (mCst (.int 1000003)))))
  (sNext)))
  (sSeq (sFor ((mConsD (((mFrz 1)).bind shR) (M.pure [])).bind fun ds => ofO (rng1D ds)) (tgName 5) (sSeq (sIf (((mBin ltD ((mCall lenD (mCons ((mVar 2)) (M.pure [])))) ((mVar 1))).bind asB)) (sSeq (sDrop ((mWr .list 2 appendW (mConsD (((mUser (R 24) 2 [] (mCons ((mVar 6)) (mCons ((mVar 5)) (M.pure []))))).bind shR) (M.pure [])))))
  (sNext)) (sNext))
  (sNext)))
  (sSeq (sRetV 2)
  (sNext))))))
/-- _law_pick(draws, k, many): slots 0 draws 1 k 2 many -/
noncomputable def m_26 (R R2 : RunF) : SM :=
  sSeq (sRet ((mBin modD ((mCall intD (mCons ((mBin ixD ((mVar 0)) ((mVar 1)))) (M.pure [])))) ((mVar 2)))))
  (sNext)
/-- _law_same(actual, due): slots 0 actual 1 due 2 k -/
noncomputable def m_27 (R R2 : RunF) : SM :=
  sSeq (sIf (((mBin isD ((mVar 1)) (mCst .non)).bind asB)) (sSeq (sRet ((mBin isD ((mVar 0)) (mCst .non))))
  (sNext)) (sNext))
  (sSeq (sIf ((((((mVar 1)).bind (isiE is_bool))).bind mTruth)) (sSeq (sRet ((mAndV ((((mVar 0)).bind (isiE is_bool))) ((mBin eqD ((mVar 0)) ((mVar 1)))))))
  (sNext)) (sNext))
  (sSeq (sIf ((((((mVar 1)).bind (isiE is_int))).bind mTruth)) (sSeq (sRet ((mAndV ((((mVar 0)).bind (isiE is_int))) ((mAndV ((mNotV ((((mVar 0)).bind (isiE is_bool))))) ((mBin eqD ((mVar 0)) ((mVar 1)))))))))
  (sNext)) (sNext))
  (sSeq (sIf ((((((mVar 1)).bind (isiE is_str))).bind mTruth)) (sSeq (sRet ((mAndV ((((mVar 0)).bind (isiE is_str))) ((mBin eqD ((mVar 0)) ((mVar 1)))))))
  (sNext)) (sNext))
  (sSeq (sIf ((mOr ((mNot ((((((mVar 0)).bind (isiE is_tuple))).bind mTruth)))) (((mBin neD ((mCall lenD (mCons ((mVar 0)) (M.pure [])))) ((mCall lenD (mCons ((mVar 1)) (M.pure []))))).bind asB)))) (sSeq (sRet (mCst (.bl false)))
  (sNext)) (sNext))
  (sSeq (sFor ((mConsD (((mCall lenD (mCons ((mVar 1)) (M.pure [])))).bind shR) (M.pure [])).bind fun ds => ofO (rng1D ds)) (tgName 2) (sSeq (sIf ((mNot ((((mUser (R 27) 2 [] (mCons ((mBin ixD ((mVar 0)) ((mVar 2)))) (mCons ((mBin ixD ((mVar 1)) ((mVar 2)))) (M.pure []))))).bind mTruth)))) (sSeq (sRet (mCst (.bl false)))
  (sNext)) (sNext))
  (sNext)))
  (sSeq (sRet (mCst (.bl true)))
  (sNext)))))))
/-- _law_ranking(count, draw): slots 0 count 1 draw 2 left 3 text 4 k -/
noncomputable def m_28 (R R2 : RunF) : SM :=
  sSeq (sSet 2 ((mCall listSD (mCons ((mSlice (mCst (.str [65, 66, 67, 68, 69, 70])) (M.pure none) (((mVar 0)).bind asInt))) (M.pure [])))))
  (sSeq (sSet 3 (mCst (.str [])))
  (sSeq (sFor ((mConsD (((mFrz 0)).bind shR) (M.pure [])).bind fun ds => ofO (rng1D ds)) (tgName 4) (sSeq (sSet 3 ((mBin addD ((mVar 3)) ((mWr .list 2 popW (mConsD (((mBin modD ((mCall intD (mCons ((mVar 1)) (M.pure [])))) ((mCall lenD (mCons ((mVar 2)) (M.pure [])))))).bind shR) (M.pure [])))))))
  (sSeq (sSet 1 ((mBin fdivD ((mVar 1)) ((mBin subD ((mVar 0)) ((mVar 4)))))))
  (sNext))))
  (sSeq (sRetV 3)
  (sNext))))
/-- _law_orders(count): slots 0 count 1 told 2 k 3 longer 4 text 5 letter -/
noncomputable def m_29 (R R2 : RunF) : SM :=
  sSeq (sSet 1 ((mLst (mConsD ((mCst (.str [])).bind shR) (M.pure [])))))
  (sSeq (sFor ((mConsD (((mFrz 0)).bind shR) (M.pure [])).bind fun ds => ofO (rng1D ds)) (tgName 2) (sSeq (sSet 3 ((mLst (M.pure []))))
  (sSeq (sFor (((mFrz 1)).bind srcM) (tgName 4) (sSeq (sFor (((mSlice (mCst (.str [65, 66, 67, 68, 69, 70])) (M.pure none) (((mVar 0)).bind asInt))).bind srcM) (tgName 5) (sSeq (sIf (((mBin notInD ((mVar 5)) ((mVar 4))).bind asB)) (sSeq (sDrop ((mWr .list 3 appendW (mConsD (((mBin addD ((mVar 4)) ((mVar 5)))).bind shR) (M.pure [])))))
  (sNext)) (sNext))
  (sNext)))
  (sNext)))
  (sSeq (sSet 1 ((mCall listSD (mCons ((mVar 3)) (M.pure [])))))
  (sNext)))))
  (sSeq (sRetV 1)
  (sNext)))
/-- _law_line(count, draw, spare): slots 0 count 1 draw 2 spare 3 text 4 k -/
noncomputable def m_30 (R R2 : RunF) : SM :=
  sSeq (sSet 3 (mCst (.str [])))
  (sSeq (sFor ((mConsD (((mFrz 0)).bind shR) (M.pure [])).bind fun ds => ofO (rng1D ds)) (tgName 4) (sSeq (sSet 3 ((mBin addD ((mVar 3)) ((mIf (((mBin eqD ((mBin modD ((mCall intD (mCons ((mVar 2)) (M.pure [])))) (mCst (.int 2)))) (mCst (.int 0))).bind asB)) ((mBin ixD (mCst (.str [43, 45, 46])) ((mBin modD ((mCall intD (mCons ((mVar 1)) (M.pure [])))) (mCst (.int 3)))))) (mCst (.str [46])))))))
  (sSeq (sSet 1 ((mBin fdivD ((mVar 1)) (mCst (.int 3)))))
  (sSeq (sSet 2 ((mBin fdivD ((mVar 2)) (mCst (.int 2)))))
  (sNext)))))
  (sSeq (sRetV 3)
  (sNext)))
/-- _law_contrary(line): slots 0 line 1 mark -/
noncomputable def m_31 (R R2 : RunF) : SM :=
  sSeq (sRet ((mMt .str joinD (mCst (.str [])) (mCons ((lcM ((((mFrz 0)).bind srcM)) (tgName 1) (M.pure true) (((mIf (((mBin eqD ((mVar 1)) (mCst (.str [43]))).bind asB)) (mCst (.str [45])) ((mIf (((mBin eqD ((mVar 1)) (mCst (.str [45]))).bind asB)) (mCst (.str [43])) (mCst (.str [46])))))).bind shR) [1])) (M.pure [])))))
  (sNext)
/-- _law_fits(order, line): slots 0 order 1 line 2 letter 3 mark -/
noncomputable def m_32 (R R2 : RunF) : SM :=
  sSeq (sFor (((mFrz 0)).bind srcM) (tgName 2) (sSeq (sSet 3 ((mBin ixD ((mVar 1)) ((mMt .str sindexD (mCst (.str [65, 66, 67, 68, 69, 70])) (mCons ((mVar 2)) (M.pure [])))))))
  (sSeq (sIf (((mBin eqD ((mVar 3)) (mCst (.str [43]))).bind asB)) (sSeq (sRet (mCst (.bl true)))
  (sNext)) (sNext))
  (sSeq (sIf (((mBin eqD ((mVar 3)) (mCst (.str [45]))).bind asB)) (sSeq (sRet (mCst (.bl false)))
  (sNext)) (sNext))
  (sNext)))))
  (sSeq (sRet (mCst (.bl true)))
  (sNext))
/-- _law_round(count, order, size): slots 0 count 1 order 2 size 3 lines 4 k 5 marks -/
noncomputable def m_33 (R R2 : RunF) : SM :=
  sSeq (sSet 3 ((mLst (M.pure []))))
  (sSeq (sFor ((mConsD (((mFrz 2)).bind shR) (M.pure [])).bind fun ds => ofO (rng1D ds)) (tgName 4) (sSeq (sSet 5 ((mBin mulD ((mLst (mConsD ((mCst (.str [46])).bind shR) (M.pure [])))) ((mVar 0)))))
  (sSeq (sStore setLD 5 ((mCst (.str [43])).bind shR) ((mMt .str sindexD (mCst (.str [65, 66, 67, 68, 69, 70])) (mCons ((mBin ixD ((mVar 1)) ((mIf (((mBin gtD ((mVar 4)) (mCst (.int 0))).bind asB)) ((mBin subD ((mVar 4)) (mCst (.int 1)))) ((mBin subD ((mVar 2)) (mCst (.int 1)))))))) (M.pure [])))))
  (sSeq (sStore setLD 5 ((mCst (.str [45])).bind shR) ((mMt .str sindexD (mCst (.str [65, 66, 67, 68, 69, 70])) (mCons ((mBin ixD ((mVar 1)) ((mVar 4)))) (M.pure [])))))
  (sSeq (sDrop ((mWr .list 3 appendW (mConsD (((mMt .str joinD (mCst (.str [])) (mCons ((mVar 5)) (M.pure [])))).bind shR) (M.pure [])))))
  (sNext))))))
  (sSeq (sRetV 3)
  (sNext)))
/-- _law_lines(draws, at, count, order, most): slots 0 draws 1 at 2 count 3 order 4 most 5 many 6 kind 7 lines 8 k 9 line 10 place 11 ring -/
noncomputable def m_34 (R R2 : RunF) : SM :=
  sSeq (sSet 5 ((mUser (R 26) 3 [] (mCons ((mVar 0)) (mCons ((mVar 1)) (mCons (mCst (.int 13)) (M.pure [])))))))
  (sSeq (sIf (((mBin eqD ((mUser (R 26) 3 [] (mCons ((mVar 0)) (mCons ((mBin addD ((mVar 1)) (mCst (.int 1)))) (mCons (mCst (.int 8)) (M.pure [])))))) (mCst (.int 3))).bind asB)) (sSeq (sSet 5 ((mBin subD ((mVar 4)) ((mUser (R 26) 3 [] (mCons ((mVar 0)) (mCons ((mVar 1)) (mCons (mCst (.int 4)) (M.pure [])))))))))
  (sNext)) (sNext))
  (sSeq (sSet 6 ((mUser (R 26) 3 [] (mCons ((mVar 0)) (mCons ((mBin addD ((mVar 1)) (mCst (.int 2)))) (mCons (mCst (.int 4)) (M.pure [])))))))
  (sSeq (sSet 7 ((mLst (M.pure []))))
  (sSeq (sFor ((mConsD (((mFrz 5)).bind shR) (M.pure [])).bind fun ds => ofO (rng1D ds)) (tgName 8) (sSeq (sSet 9 ((mUser (R 30) 3 [] (mCons ((mVar 2)) (mCons ((mUser (R 26) 3 [] (mCons ((mVar 0)) (mCons ((mBin addD ((mBin addD ((mVar 1)) (mCst (.int 8)))) ((mBin mulD (mCst (.int 2)) ((mVar 8)))))) (mCons (mCst (.int 729)) (M.pure [])))))) (mCons ((mUser (R 26) 3 [] (mCons ((mVar 0)) (mCons ((mBin addD ((mBin addD ((mVar 1)) (mCst (.int 9)))) ((mBin mulD (mCst (.int 2)) ((mVar 8)))))) (mCons (mCst (.int 64)) (M.pure [])))))) (M.pure [])))))))
  (sSeq (sIf ((mAnd (((mBin gtD ((mVar 6)) (mCst (.int 0))).bind asB)) ((mNot ((((mUser (R 32) 2 [] (mCons ((mVar 3)) (mCons ((mVar 9)) (M.pure []))))).bind mTruth)))))) (sSeq (sSet 9 ((mUser (R 31) 1 [] (mCons ((mVar 9)) (M.pure [])))))
  (sNext)) (sNext))
  (sSeq (sDrop ((mWr .list 7 appendW (mConsD (((mFrz 9)).bind shR) (M.pure [])))))
  (sNext)))))
  (sSeq (sIf ((mAnd (((mBin eqD ((mVar 6)) (mCst (.int 2))).bind asB)) (((mBin gtD ((mVar 5)) (mCst (.int 0))).bind asB)))) (sSeq (sFor ((mConsD (((mBin addD (mCst (.int 1)) ((mUser (R 26) 3 [] (mCons ((mVar 0)) (mCons ((mBin addD ((mVar 1)) (mCst (.int 3)))) (mCons (mCst (.int 3)) (M.pure [])))))))).bind shR) (M.pure [])).bind fun ds => ofO (rng1D ds)) (tgName 8) (sSeq (sSet 10 ((mUser (R 26) 3 [] (mCons ((mVar 0)) (mCons ((mBin addD ((mBin addD ((mVar 1)) (mCst (.int 4)))) ((mVar 8)))) (mCons ((mVar 5)) (M.pure [])))))))
  (sSeq (sStore setLD 7 (((mUser (R 31) 1 [] (mCons ((mBin ixD ((mVar 7)) ((mVar 10)))) (M.pure [])))).bind shR) ((mVar 10)))
  (sNext))))
  (sNext)) (sNext))
  (sSeq (sIf (((mBin eqD ((mVar 6)) (mCst (.int 3))).bind asB)) (sSeq (sSet 10 ((mUser (R 26) 3 [] (mCons ((mVar 0)) (mCons ((mBin addD ((mVar 1)) (mCst (.int 3)))) (mCons ((mBin addD ((mVar 5)) (mCst (.int 1)))) (M.pure [])))))))
  (sSeq (sSet 11 ((mUser (R 33) 3 [] (mCons ((mVar 2)) (mCons ((mVar 3)) (mCons ((mBin addD (mCst (.int 1)) ((mUser (R 26) 3 [] (mCons ((mVar 0)) (mCons ((mBin addD ((mVar 1)) (mCst (.int 4)))) (mCons ((mVar 2)) (M.pure [])))))))) (M.pure [])))))))
  (sSeq (sSet 7 ((mSlice ((mBin addD ((mBin addD ((mSlice ((mVar 7)) (M.pure none) (((mVar 10)).bind asInt))) ((mSlice ((mVar 11)) (((mUser (R 26) 3 [] (mCons ((mVar 0)) (mCons ((mBin addD ((mVar 1)) (mCst (.int 5)))) (mCons (mCst (.int 2)) (M.pure [])))))).bind asInt) (M.pure none))))) ((mSlice ((mVar 7)) (((mVar 10)).bind asInt) (M.pure none))))) (((((mVar 4)).bind negE)).bind asInt) (M.pure none))))
  (sNext)))) (sNext))
  (sSeq (sRetV 7)
  (sNext))))))))
/-- _law_all(order, lines): slots 0 order 1 lines 2 line -/
noncomputable def m_35 (R R2 : RunF) : SM :=
  sSeq (sFor (((mFrz 1)).bind srcM) (tgName 2) (sSeq (sIf ((mNot ((((mUser (R 32) 2 [] (mCons ((mVar 0)) (mCons ((mVar 2)) (M.pure []))))).bind mTruth)))) (sSeq (sRet (mCst (.bl false)))
  (sNext)) (sNext))
  (sNext)))
  (sSeq (sRet (mCst (.bl true)))
  (sNext))
/-- _law_first(orders, lines): slots 0 orders 1 lines 2 order -/
noncomputable def m_36 (R R2 : RunF) : SM :=
  sSeq (sFor (((mFrz 0)).bind srcM) (tgName 2) (sSeq (sIf ((((mUser (R 35) 2 [] (mCons ((mVar 2)) (mCons ((mVar 1)) (M.pure []))))).bind mTruth)) (sSeq (sRetV 2)
  (sNext)) (sNext))
  (sNext)))
  (sSeq (sRet (mCst (.str [])))
  (sNext))
/-- _law_marked(line, letters, mark): slots 0 line 1 letters 2 mark 3 letter -/
noncomputable def m_37 (R R2 : RunF) : SM :=
  sSeq (sFor (((mFrz 1)).bind srcM) (tgName 3) (sSeq (sIf (((mBin eqD ((mBin ixD ((mVar 0)) ((mMt .str sindexD (mCst (.str [65, 66, 67, 68, 69, 70])) (mCons ((mVar 3)) (M.pure [])))))) ((mVar 2))).bind asB)) (sSeq (sRet (mCst (.bl true)))
  (sNext)) (sNext))
  (sNext)))
  (sSeq (sRet (mCst (.bl false)))
  (sNext))
/-- _law_peel(count, lines): slots 0 count 1 lines 2 left 3 waiting 4 strata 5 k 6 free 7 letter 8 line -/
noncomputable def m_38 (R R2 : RunF) : SM :=
  sSeq (sSet 2 ((mCall listSD (mCons ((mVar 1)) (M.pure [])))))
  (sSeq (sSet 3 ((mSlice (mCst (.str [65, 66, 67, 68, 69, 70])) (M.pure none) (((mVar 0)).bind asInt))))
  (sSeq (sSet 4 ((mLst (M.pure []))))
  (sSeq (sFor ((mConsD (((mFrz 0)).bind shR) (M.pure [])).bind fun ds => ofO (rng1D ds)) (tgName 5) (sSeq (sSet 6 (mCst (.str [])))
  (sSeq (sFor (((mFrz 3)).bind srcM) (tgName 7) (sSeq (sIf (((mBin eqD ((lcM ((((mFrz 2)).bind srcM)) (tgName 8) ((((mUser (R 37) 3 [] (mCons ((mVar 8)) (mCons ((mVar 7)) (mCons (mCst (.str [45])) (M.pure [])))))).bind mTruth)) (((mFrz 8)).bind shR) [8])) ((mLst (M.pure [])))).bind asB)) (sSeq (sSet 6 ((mBin addD ((mVar 6)) ((mVar 7)))))
  (sNext)) (sNext))
  (sNext)))
  (sSeq (sIf (((mBin neD ((mVar 6)) (mCst (.str []))).bind asB)) (sSeq (sDrop ((mWr .list 4 appendW (mConsD (((mFrz 6)).bind shR) (M.pure [])))))
  (sNext)) (sNext))
  (sSeq (sSet 3 ((mMt .str joinD (mCst (.str [])) (mCons ((lcM ((((mFrz 3)).bind srcM)) (tgName 7) (((mBin notInD ((mVar 7)) ((mVar 6))).bind asB)) (((mFrz 7)).bind shR) [7])) (M.pure [])))))
  (sSeq (sSet 2 (lcM ((((mFrz 2)).bind srcM)) (tgName 8) ((mNot ((((mUser (R 37) 3 [] (mCons ((mVar 8)) (mCons ((mVar 6)) (mCons (mCst (.str [43])) (M.pure [])))))).bind mTruth)))) (((mFrz 8)).bind shR) [8]))
  (sNext)))))))
  (sSeq (sRet ((mTup (mConsD (((mFrz 4)).bind shR) (mConsD (((mBin eqD ((mVar 3)) (mCst (.str [])))).bind shR) (M.pure []))))))
  (sNext)))))
/-- _law_lot_right(count, lines, lot): slots 0 count 1 lines 2 lot 3 least 4 place 5 other -/
noncomputable def m_39 (R R2 : RunF) : SM :=
  sSeq (sIf ((mOr ((mNot ((((((mVar 2)).bind (isiE is_tuple))).bind mTruth)))) ((mNot ((mChain leD leD (mCst (.int 1)) ((mCall lenD (mCons ((mVar 2)) (M.pure [])))) ((mVar 0)))))))) (sSeq (sRet (mCst (.bl false)))
  (sNext)) (sNext))
  (sSeq (sSet 3 (mCst (.int 0)))
  (sSeq (sFor (((mFrz 2)).bind srcM) (tgName 4) (sSeq (sIf ((mOr ((mNot ((((((mVar 4)).bind (isiE is_int))).bind mTruth)))) ((mOr ((((((mVar 4)).bind (isiE is_bool))).bind mTruth)) ((mNot ((mChain leD ltD ((mVar 3)) ((mVar 4)) ((mCall lenD (mCons ((mVar 1)) (M.pure [])))))))))))) (sSeq (sRet (mCst (.bl false)))
  (sNext)) (sNext))
  (sSeq (sSet 3 ((mBin addD ((mVar 4)) (mCst (.int 1)))))
  (sNext))))
  (sSeq (sIf ((((mBin ixD ((mUser (R 38) 2 [] (mCons ((mVar 0)) (mCons ((lcM ((((mFrz 2)).bind srcM)) (tgName 4) (M.pure true) (((mBin ixD ((mVar 1)) ((mVar 4)))).bind shR) [4])) (M.pure []))))) (mCst (.int 1)))).bind mTruth)) (sSeq (sRet (mCst (.bl false)))
  (sNext)) (sNext))
  (sSeq (sFor (((mFrz 2)).bind srcM) (tgName 4) (sSeq (sIf ((mNot ((((mBin ixD ((mUser (R 38) 2 [] (mCons ((mVar 0)) (mCons ((lcM ((((mFrz 2)).bind srcM)) (tgName 5) (((mBin neD ((mVar 5)) ((mVar 4))).bind asB)) (((mBin ixD ((mVar 1)) ((mVar 5)))).bind shR) [5])) (M.pure []))))) (mCst (.int 1)))).bind mTruth)))) (sSeq (sRet (mCst (.bl false)))
  (sNext)) (sNext))
  (sNext)))
  (sSeq (sRet (mCst (.bl true)))
  (sNext))))))
/-- _law_ask(book): slots 0 book 1 told 2 e -/
noncomputable def m_41 (R R2 : RunF) : SM :=
  sSeq (sTry ca_TongueError 2 (sSeq (sSet 1 ((mUser (R 23) 1 [] (mCons ((mVar 0)) (M.pure [])))))
  (sNext)) (sSeq (sRet ((mUser (R 1040) 1 [] (mCons ((mVar 2)) (M.pure [])))))
  (sNext)))
  (sSeq (sRet ((mTup (mConsD ((mCst (.str [116, 111, 108, 100])).bind shR) (mConsD (((mFrz 1)).bind shR) (M.pure []))))))
  (sNext))
/-- _law_right(orders, lines, book): slots 0 orders 1 lines 2 book 3 due 4 told -/
noncomputable def m_42 (R R2 : RunF) : SM :=
  sSeq (sSet 3 ((mUser (R 36) 2 [] (mCons ((mVar 0)) (mCons ((mVar 1)) (M.pure []))))))
  (sSeq (sSet 4 ((mUser (R 41) 1 [] (mCons ((mVar 2)) (M.pure [])))))
  (sSeq (sIf (((mBin eqD ((mVar 3)) (mCst (.str []))).bind asB)) (sSeq (sRet ((mAndV ((mBin eqD ((mBin ixD ((mVar 4)) (mCst (.int 0)))) (mCst (.str [111, 100, 100, 115])))) ((mUser (R 39) 3 [] (mCons ((mCall lenD (mCons ((mBin ixD ((mVar 0)) (mCst (.int 0)))) (M.pure [])))) (mCons ((mVar 1)) (mCons ((mBin ixD ((mVar 4)) (mCst (.int 1)))) (M.pure [])))))))))
  (sNext)) (sNext))
  (sSeq (sRet ((mAndV ((mBin eqD ((mBin ixD ((mVar 4)) (mCst (.int 0)))) (mCst (.str [116, 111, 108, 100])))) ((mUser (R 27) 2 [] (mCons ((mBin ixD ((mVar 4)) (mCst (.int 1)))) (mCons ((mVar 3)) (M.pure []))))))))
  (sNext))))
/-- _law_closed(draws, at, count, order, lines): slots 0 draws 1 at 2 count 3 order 4 lines 5 ring 6 kept 7 place -/
noncomputable def m_43 (R R2 : RunF) : SM :=
  sSeq (sSet 5 ((mUser (R 33) 3 [] (mCons ((mVar 2)) (mCons ((mVar 3)) (mCons ((mBin addD (mCst (.int 1)) ((mUser (R 26) 3 [] (mCons ((mVar 0)) (mCons ((mVar 1)) (mCons ((mVar 2)) (M.pure [])))))))) (M.pure [])))))))
  (sSeq (sSet 6 ((mSlice ((mVar 4)) (M.pure none) (((mBin subD (mCst (.int 60)) ((mCall lenD (mCons ((mVar 5)) (M.pure [])))))).bind asInt))))
  (sSeq (sSet 7 ((mUser (R 26) 3 [] (mCons ((mVar 0)) (mCons ((mBin addD ((mVar 1)) (mCst (.int 1)))) (mCons ((mBin addD ((mCall lenD (mCons ((mVar 6)) (M.pure [])))) (mCst (.int 1)))) (M.pure [])))))))
  (sSeq (sRet ((mBin addD ((mBin addD ((mSlice ((mVar 6)) (M.pure none) (((mVar 7)).bind asInt))) ((mVar 5)))) ((mSlice ((mVar 6)) (((mVar 7)).bind asInt) (M.pure none))))))
  (sNext))))
/-- law(script): slots 0 script 1 draws 2 count 3 order 4 orders 5 drawn 6 fitted 7 closed 8 texts 9 books 10 lines 11 passed 12 k 13 at 14 line -/
noncomputable def m_44 (R R2 : RunF) : SM :=
  sSeq (sSet 1 ((mUser (R 25) 2 [] (mCons ((mVar 0)) (mCons (mCst (.int 136)) (M.pure []))))))
  (sSeq (sSet 2 ((mBin ixD ((mLst (mConsD ((mCst (.int 3)).bind shR) (mConsD ((mCst (.int 4)).bind shR) (mConsD ((mCst (.int 5)).bind shR) (mConsD ((mCst (.int 3)).bind shR) (mConsD ((mCst (.int 4)).bind shR) (mConsD ((mCst (.int 5)).bind shR) (mConsD ((mCst (.int 6)).bind shR) (mConsD (((mBin addD (mCst (.int 1)) ((mUser (R 26) 3 [] (mCons ((mVar 1)) (mCons (mCst (.int 1)) (mCons (mCst (.int 2)) (M.pure [])))))))).bind shR) (M.pure []))))))))))) ((mUser (R 26) 3 [] (mCons ((mVar 1)) (mCons (mCst (.int 0)) (mCons (mCst (.int 8)) (M.pure [])))))))))
  (sSeq (sSet 3 ((mUser (R 28) 2 [] (mCons ((mVar 2)) (mCons ((mUser (R 26) 3 [] (mCons ((mVar 1)) (mCons (mCst (.int 2)) (mCons (mCst (.int 720)) (M.pure [])))))) (M.pure []))))))
  (sSeq (sSet 4 ((mUser (R 29) 1 [] (mCons ((mVar 2)) (M.pure [])))))
  (sSeq (sSet 5 ((mUser (R 34) 5 [] (mCons ((mVar 1)) (mCons (mCst (.int 8)) (mCons ((mVar 2)) (mCons ((mVar 3)) (mCons (mCst (.int 60)) (M.pure [])))))))))
  (sSeq (sSet 6 (lcM ((((mFrz 5)).bind srcM)) (tgName 14) (M.pure true) (((mIf ((((mUser (R 32) 2 [] (mCons ((mVar 3)) (mCons ((mVar 14)) (M.pure []))))).bind mTruth)) ((mFrz 14)) ((mUser (R 31) 1 [] (mCons ((mVar 14)) (M.pure [])))))).bind shR) [14]))
  (sSeq (sSet 7 ((mUser (R 43) 5 [] (mCons ((mVar 1)) (mCons (mCst (.int 3)) (mCons ((mVar 2)) (mCons ((mVar 3)) (mCons ((mVar 6)) (M.pure [])))))))))
  (sSeq (sSet 8 ((mLst (mConsD (((mFrz 6)).bind shR) (mConsD (((mFrz 7)).bind shR) (mConsD (((mFrz 5)).bind shR) (mConsD (((mSlice ((mBin addD ((mVar 6)) ((mVar 6)))) (M.pure none) ((mCst (.int 60)).bind asInt))).bind shR) (mConsD (((lcM ((((mFrz 5)).bind srcM)) (tgName 14) (((mBin notInD (mCst (.str [45])) ((mVar 14))).bind asB)) (((mFrz 14)).bind shR) [14])).bind shR) (mConsD (((mSlice ((mVar 5)) ((((mCst (.int 1)).bind negE)).bind asInt) (M.pure none))).bind shR) (mConsD (((mLst (M.pure []))).bind shR) (M.pure [])))))))))))
  (sSeq (sSet 9 ((mLst (M.pure []))))
  (sSeq (sFor (((mFrz 8)).bind srcM) (tgName 10) (sSeq (sSet 11 ((mCall listSD (mCons ((mVar 10)) (M.pure [])))))
  (sSeq (sDrop ((mWr .list 9 appendW (mConsD (((mMake 7 (R2 9) 3 [] (mCons ((mFrz 2)) (mCons ((mVar 11)) (M.pure []))))).bind shR) (M.pure [])))))
  (sSeq (sDrop ((mWr .list 11 insertW (mConsD ((mCst (.int 0)).bind shR) (mConsD (((mBin mulD (mCst (.str [45])) ((mVar 2)))).bind shR) (M.pure []))))))
  (sNext)))))
  (sSeq (sFor ((mConsD (((mCall lenD (mCons ((mVar 8)) (M.pure [])))).bind shR) (M.pure [])).bind fun ds => ofO (rng1D ds)) (tgName 12) (sSeq (sIf ((mNot ((((mUser (R 42) 3 [] (mCons ((mVar 4)) (mCons ((mBin ixD ((mVar 8)) ((mVar 12)))) (mCons ((mBin ixD ((mVar 9)) ((mVar 12)))) (M.pure [])))))).bind mTruth)))) (sSeq (sRet (mCst (.bl false)))
  (sNext)) (sNext))
  (sNext)))
  (sSeq (sFor ((mConsD (((mCall lenD (mCons ((mVar 8)) (M.pure [])))).bind shR) (M.pure [])).bind fun ds => ofO (rng1D ds)) (tgName 12) (sSeq (sSet 13 ((mBin subD ((mBin subD ((mCall lenD (mCons ((mVar 8)) (M.pure [])))) (mCst (.int 1)))) ((mVar 12)))))
  (sSeq (sIf ((mOr ((mNot ((((mUser (R 42) 3 [] (mCons ((mVar 4)) (mCons ((mBin ixD ((mVar 8)) ((mVar 13)))) (mCons ((mBin ixD ((mVar 9)) ((mVar 13)))) (M.pure [])))))).bind mTruth)))) ((mNot ((((mUser (R 27) 2 [] (mCons ((mFld flds "rows" ((mBin ixD ((mVar 9)) ((mVar 13)))))) (mCons ((mBin ixD ((mVar 8)) ((mVar 13)))) (M.pure []))))).bind mTruth)))))) (sSeq (sRet (mCst (.bl false)))
  (sNext)) (sNext))
  (sNext))))
  (sSeq (sRet (mCst (.bl true)))
  (sNext)))))))))))))
/-- _law_error(e), called where an exception is handled: slots 0 e 1 told 2 k -/
noncomputable def mh_40 (R R2 : RunF) : SM :=
  sSeq (sSet 1 ((mLst (mConsD (((((mVar 0)).bind (xisiE xi_AtOdds))).bind shR) (mConsD (((((mVar 0)).bind (xisiE xi_BadRow))).bind shR) (mConsD (((((mVar 0)).bind (xisiE xi_BadLetters))).bind shR) (mConsD (((((mVar 0)).bind (xisiE xi_TooMany))).bind shR) (M.pure []))))))))
  (sSeq (sSet 1 ((mBin addD ((mVar 1)) ((mLst (mConsD (((((mVar 0)).bind (xisiE xi_NotFitting))).bind shR) (mConsD (((((mVar 0)).bind (xisiE xi_BadPlace))).bind shR) (M.pure []))))))))
  (sSeq (sIf ((mOr ((mNot ((((((mVar 0)).bind (xisiE xi_ValueError))).bind mTruth)))) (((mBin neD ((mCall lenD (mCons ((lcM (((mFrz 1)).bind lstM) (tgName 2) ((((mVar 2)).bind mTruth)) (((mFrz 2)).bind shR) [2])) (M.pure [])))) (mCst (.int 1))).bind asB)))) (sSeq (sRet ((mTup (mConsD ((mCst (.str [119, 114, 111, 110, 103])).bind shR) (mConsD ((mCst .non).bind shR) (M.pure []))))))
  (sNext)) (sNext))
  (sSeq (sIf ((((mBin ixD ((mVar 1)) (mCst (.int 0)))).bind mTruth)) (sSeq (sRet ((mTup (mConsD ((mCst (.str [111, 100, 100, 115])).bind shR) (mConsD (((((mVar 0)).bind (xfldE xflds "lot"))).bind shR) (M.pure []))))))
  (sNext)) (sNext))
  (sSeq (sIf ((((mBin ixD ((mVar 1)) (mCst (.int 1)))).bind mTruth)) (sSeq (sRet ((mTup (mConsD ((mCst (.str [114, 111, 119])).bind shR) (mConsD (((((mVar 0)).bind (xfldE xflds "place"))).bind shR) (M.pure []))))))
  (sNext)) (sNext))
  (sSeq (sIf ((((mBin ixD ((mVar 1)) (mCst (.int 2)))).bind mTruth)) (sSeq (sRet ((mTup (mConsD ((mCst (.str [108, 101, 116, 116, 101, 114, 115])).bind shR) (mConsD ((mCst .non).bind shR) (M.pure []))))))
  (sNext)) (sNext))
  (sSeq (sIf ((((mBin ixD ((mVar 1)) (mCst (.int 3)))).bind mTruth)) (sSeq (sRet ((mTup (mConsD ((mCst (.str [109, 97, 110, 121])).bind shR) (mConsD (((((mVar 0)).bind (xfldE xflds "limit"))).bind shR) (M.pure []))))))
  (sNext)) (sNext))
  (sSeq (sIf ((((mBin ixD ((mVar 1)) (mCst (.int 4)))).bind mTruth)) (sSeq (sRet ((mTup (mConsD ((mCst (.str [102, 105, 116, 116, 105, 110, 103])).bind shR) (mConsD (((((mVar 0)).bind (xfldE xflds "place"))).bind shR) (M.pure []))))))
  (sNext)) (sNext))
  (sSeq (sRet ((mTup (mConsD ((mCst (.str [112, 108, 97, 99, 101])).bind shR) (mConsD (((((mVar 0)).bind (xfldE xflds "count"))).bind shR) (M.pure []))))))
  (sNext)))))))))
noncomputable def bodyOf (R R2 : RunF) : Nat → Nat × SM
  | 3 => (3, m_3 R R2)
  | 4 => (3, m_4 R R2)
  | 6 => (3, m_6 R R2)
  | 7 => (2, m_7 R R2)
  | 8 => (3, m_8 R R2)
  | 9 => (6, m_9 R R2)
  | 16 => (6, m_16 R R2)
  | 17 => (3, m_17 R R2)
  | 18 => (9, m_18 R R2)
  | 19 => (2, m_19 R R2)
  | 20 => (5, m_20 R R2)
  | 21 => (4, m_21 R R2)
  | 22 => (8, m_22 R R2)
  | 23 => (2, m_23 R R2)
  | 24 => (5, m_24 R R2)
  | 25 => (7, m_25 R R2)
  | 26 => (3, m_26 R R2)
  | 27 => (3, m_27 R R2)
  | 28 => (5, m_28 R R2)
  | 29 => (6, m_29 R R2)
  | 30 => (5, m_30 R R2)
  | 31 => (2, m_31 R R2)
  | 32 => (4, m_32 R R2)
  | 33 => (6, m_33 R R2)
  | 34 => (12, m_34 R R2)
  | 35 => (3, m_35 R R2)
  | 36 => (3, m_36 R R2)
  | 37 => (4, m_37 R R2)
  | 38 => (9, m_38 R R2)
  | 39 => (6, m_39 R R2)
  | 41 => (3, m_41 R R2)
  | 42 => (5, m_42 R R2)
  | 43 => (8, m_43 R R2)
  | 44 => (15, m_44 R R2)
  | 1040 => (3, mh_40 R R2)
  | _ => (0, fun _ => .bad)
/-- run k j: the def j, with k calls below each other -/
noncomputable def run : Nat → RunF
  | 0 => fun _ _ => .bad
  | 1 => fun _ _ => .bad
  | k + 2 => fun j as => runB (bodyOf (run (k + 1)) (run k) j).1 (bodyOf (run (k + 1)) (run k) j).2 as
/-! ### what is known of the names -/
structure Fs (P : Program) (K : PySem.W.Frag) (mg : PySem.Str → Option Value) (cls : Nat → Addr) : Prop where
  f_ValueError : mg "ValueError" = none
  f_abs : mg "abs" = none
  f_bool : mg "bool" = none
  f_enumerate : mg "enumerate" = none
  f_int : mg "int" = none
  f_isinstance : mg "isinstance" = none
  f_len : mg "len" = none
  f_list : mg "list" = none
  f_min : mg "min" = none
  f_range : mg "range" = none
  f_str : mg "str" = none
  f_sum : mg "sum" = none
  f_tuple : mg "tuple" = none
  f_zip : mg "zip" = none
  g_AtOdds : mg "AtOdds" = some (.ref (cls 6))
  g_BadLetters : mg "BadLetters" = some (.ref (cls 2))
  g_BadPlace : mg "BadPlace" = some (.ref (cls 3))
  g_BadRow : mg "BadRow" = some (.ref (cls 4))
  g_NotFitting : mg "NotFitting" = some (.ref (cls 5))
  g_RowBook : mg "RowBook" = some (.ref (cls 7))
  g_TongueError : mg "TongueError" = some (.ref (cls 0))
  g_TooMany : mg "TooMany" = some (.ref (cls 1))
  c_ALL_RULES : ∃ t, mg "ALL_RULES" = some (.int 63 t)
  c_MOST_ROWS : ∃ t, mg "MOST_ROWS" = some (.int 60 t)
  c_MOST_RULES : ∃ t, mg "MOST_RULES" = some (.int 6 t)
  c_RULE_LETTERS : ∃ t, mg "RULE_LETTERS" = some (.str (toS [65, 66, 67, 68, 69, 70]) t)
  flds : FldsOk K ⟨K, cls, none⟩ flds
  xflds : XFldsOk K ⟨K, cls, none⟩ xflds
  is_AtOdds : IsiOk K ⟨K, cls, none⟩ (.ref (cls 6)) is_AtOdds
  is_BadLetters : IsiOk K ⟨K, cls, none⟩ (.ref (cls 2)) is_BadLetters
  is_BadPlace : IsiOk K ⟨K, cls, none⟩ (.ref (cls 3)) is_BadPlace
  is_BadRow : IsiOk K ⟨K, cls, none⟩ (.ref (cls 4)) is_BadRow
  is_NotFitting : IsiOk K ⟨K, cls, none⟩ (.ref (cls 5)) is_NotFitting
  is_RowBook : IsiOk K ⟨K, cls, none⟩ (.ref (cls 7)) is_RowBook
  is_TooMany : IsiOk K ⟨K, cls, none⟩ (.ref (cls 1)) is_TooMany
  is_ValueError : IsiOk K ⟨K, cls, none⟩ (.type "ValueError") is_ValueError
  is_bool : IsiOk K ⟨K, cls, none⟩ (.type "bool") is_bool
  is_int : IsiOk K ⟨K, cls, none⟩ (.type "int") is_int
  is_str : IsiOk K ⟨K, cls, none⟩ (.type "str") is_str
  is_tuple : IsiOk K ⟨K, cls, none⟩ (.type "tuple") is_tuple
  xi_AtOdds : XIsOk K ⟨K, cls, none⟩ (.ref (cls 6)) xi_AtOdds
  xi_BadLetters : XIsOk K ⟨K, cls, none⟩ (.ref (cls 2)) xi_BadLetters
  xi_BadPlace : XIsOk K ⟨K, cls, none⟩ (.ref (cls 3)) xi_BadPlace
  xi_BadRow : XIsOk K ⟨K, cls, none⟩ (.ref (cls 4)) xi_BadRow
  xi_NotFitting : XIsOk K ⟨K, cls, none⟩ (.ref (cls 5)) xi_NotFitting
  xi_TooMany : XIsOk K ⟨K, cls, none⟩ (.ref (cls 1)) xi_TooMany
  xi_ValueError : XIsOk K ⟨K, cls, none⟩ (.type "ValueError") xi_ValueError
  ca_TongueError : ∀ c t, ca_TongueError.lookup c = some t → PySem.W.exmOne K (.ref (cls c)) (.ref (cls 0)) = some t
  x_AtOdds : ∃ fI, VX.XC P K (cls 6) fI "lot"
  x_BadRow : ∃ fI, VX.XC P K (cls 4) fI "place"
  x_TooMany : ∃ fI, VX.XC P K (cls 1) fI "limit"
  it_RowBook : ∀ w, ∃ fi fd, ItK P w K mg 1 (cls 7) fi fd "rows"
structure Us (P : Program) (w : World) (K : PySem.W.Frag) (mg : PySem.Str → Option Value) (base : Heap) (G : Gx) (k : Nat) (R R2 : RunF) : Prop where
  f__law_all : UF P w K mg base G (k + 1) "_law_all" 2 [] (R 35)
  f__law_ask : UF P w K mg base G (k + 1) "_law_ask" 1 [] (R 41)
  f__law_closed : UF P w K mg base G (k + 1) "_law_closed" 5 [] (R 43)
  f__law_contrary : UF P w K mg base G (k + 1) "_law_contrary" 1 [] (R 31)
  f__law_draws : UF P w K mg base G (k + 1) "_law_draws" 2 [] (R 25)
  f__law_first : UF P w K mg base G (k + 1) "_law_first" 2 [] (R 36)
  f__law_fits : UF P w K mg base G (k + 1) "_law_fits" 2 [] (R 32)
  f__law_line : UF P w K mg base G (k + 1) "_law_line" 3 [] (R 30)
  f__law_lines : UF P w K mg base G (k + 1) "_law_lines" 5 [] (R 34)
  f__law_lot_right : UF P w K mg base G (k + 1) "_law_lot_right" 3 [] (R 39)
  f__law_marked : UF P w K mg base G (k + 1) "_law_marked" 3 [] (R 37)
  f__law_mix : UF P w K mg base G (k + 1) "_law_mix" 2 [] (R 24)
  f__law_orders : UF P w K mg base G (k + 1) "_law_orders" 1 [] (R 29)
  f__law_peel : UF P w K mg base G (k + 1) "_law_peel" 2 [] (R 38)
  f__law_pick : UF P w K mg base G (k + 1) "_law_pick" 3 [] (R 26)
  f__law_ranking : UF P w K mg base G (k + 1) "_law_ranking" 2 [] (R 28)
  f__law_right : UF P w K mg base G (k + 1) "_law_right" 3 [] (R 42)
  f__law_round : UF P w K mg base G (k + 1) "_law_round" 3 [] (R 33)
  f__law_same : UF P w K mg base G (k + 1) "_law_same" 2 [] (R 27)
  f_bads : UF P w K mg base G (k + 1) "bads" 1 [] (R 4)
  f_check_consistent : UF P w K mg base G (k + 1) "check_consistent" 1 [] (R 19)
  f_first_letters : UF P w K mg base G (k + 1) "first_letters" 2 [] (R 22)
  f_first_ranking : UF P w K mg base G (k + 1) "first_ranking" 1 [] (R 23)
  f_goods : UF P w K mg base G (k + 1) "goods" 1 [] (R 3)
  f_is_row : UF P w K mg base G (k + 1) "is_row" 2 [] (R 8)
  f_least_lot : UF P w K mg base G (k + 1) "least_lot" 1 [] (R 18)
  f_mask_of : UF P w K mg base G (k + 1) "mask_of" 1 [] (R 6)
  f_masks_consistent : UF P w K mg base G (k + 1) "masks_consistent" 1 [] (R 17)
  f_may_come : UF P w K mg base G (k + 1) "may_come" 3 [] (R 21)
  f_needs_of : UF P w K mg base G (k + 1) "needs_of" 2 [] (R 20)
  f_row_masks : UF P w K mg base G (k + 1) "row_masks" 1 [] (R 7)
  f_strata_of : UF P w K mg base G (k + 1) "strata_of" 2 [] (R 16)
  k_RowBook : UK P w K mg base G k 7 "RowBook" 3 [] (R2 9)
  h__law_error : ∀ a c d, UX P w K mg base (G.heat a c d) (k + 1) "_law_error" 1 [] (R 1040)
/-! ### each def has its meaning -/
section
variable {P : Program} {w : World} {K : PySem.W.Frag} {mg : PySem.Str → Option Value} {base : Heap} {G : Gx} {k : Nat} {R R2 : RunF}
theorem v_3 (hK : G.K = K) (hG : G.hot = none) (F : Fs P K mg G.cls) (U : Us P w K mg base G k R R2) {f : Addr} {qual : PySem.Str} {cdv : Value} {A : Around} {outer : List Env} {s : Shared} {H : Hp} {E : XK} (hr : Room (k + 1) (A.deeper (envOfC qual (defScope (top 15)) s.heap.objs.size f cdv)))
    (tk : L2N.Takes (cxOf (L2N.CX P w) P w K mg base ["row", "letter", "mark"] qual (defScope (top 15)) f cdv A outer s H E) (fun cls d _ H => E cls d H)) (pp : PassesOwn (model P w) (A.deeper (envOfC qual (defScope (top 15)) s.heap.objs.size f cdv)) (envOfC qual (defScope (top 15)) s.heap.objs.size f cdv) (cxOf (L2N.CX P w) P w K mg base ["row", "letter", "mark"] qual (defScope (top 15)) f cdv A outer s H E).xe) :
    VSs (cxOf (L2N.CX P w) P w K mg base ["row", "letter", "mark"] qual (defScope (top 15)) f cdv A outer s H E) G (fun cls d _ H => E cls d H) (defBody (top 15)) (m_3 R R2) :=
  have hu := units_of hr
  have hu5 := units5_of hr
  have nd : (["row", "letter", "mark"] : List PySem.Str).Nodup := by decide +kernel
  (vss_cons (vs_ret (ve_bm (T := .str) (join_ok hK) PySem.F.plainAttrs_str PySem.F.slot_str_join PySem.F.type_str_join (ve_str (s := []) (by rfl)) (va_cons (ve_lc (own := [("letter", 1), ("mark", 2)]) (is := [1, 2]) (by rfl) nd (vi_zip hK (by rfl) F.f_zip (ve_gstr (z := [65, 66, 67, 68, 69, 70]) (by rfl) F.c_RULE_LETTERS (by decide +kernel)) (ve_frz (i := 0) (by rfl) (by exact .inl rfl) (by decide +kernel) (by decide +kernel))) (blkOk_by (N := ["row", "letter", "mark"]) (sc := defScope (top 15)) (by decide +kernel)) (by decide +kernel) (fun _ _ _ _ _ => .ex (vg_tup (n := 2) hK (by rfl) (vgs_cons (vg_name (i := 1) nd (by rfl) (by exact .inl rfl) (by exact .inr rfl)) (vgs_cons (vg_name (i := 2) nd (by rfl) (by exact .inl rfl) (by exact .inr rfl)) vgs_nil (by rfl)) (by rfl)) (by rfl) (by rfl))) (fun _ _ _ _ _ => (vts_one (vt_cmp (eq_ok hK hu) (ve_var (i := 2) (by rfl) (by exact .inl rfl) (by decide +kernel) (by decide +kernel)) (ve_str (s := [43]) (by rfl)) (by rfl)))) (fun _ _ _ _ _ => (ve_frz (i := 1) (by rfl) (by exact .inl rfl) (by decide +kernel) (by decide +kernel)).vv) (fun _ => (by rfl))) va_nil (by rfl)) (by rfl) (by rfl) (by rfl) (by rfl) (by rfl)))
  vss_nil)
theorem v_4 (hK : G.K = K) (hG : G.hot = none) (F : Fs P K mg G.cls) (U : Us P w K mg base G k R R2) {f : Addr} {qual : PySem.Str} {cdv : Value} {A : Around} {outer : List Env} {s : Shared} {H : Hp} {E : XK} (hr : Room (k + 1) (A.deeper (envOfC qual (defScope (top 16)) s.heap.objs.size f cdv)))
    (tk : L2N.Takes (cxOf (L2N.CX P w) P w K mg base ["row", "letter", "mark"] qual (defScope (top 16)) f cdv A outer s H E) (fun cls d _ H => E cls d H)) (pp : PassesOwn (model P w) (A.deeper (envOfC qual (defScope (top 16)) s.heap.objs.size f cdv)) (envOfC qual (defScope (top 16)) s.heap.objs.size f cdv) (cxOf (L2N.CX P w) P w K mg base ["row", "letter", "mark"] qual (defScope (top 16)) f cdv A outer s H E).xe) :
    VSs (cxOf (L2N.CX P w) P w K mg base ["row", "letter", "mark"] qual (defScope (top 16)) f cdv A outer s H E) G (fun cls d _ H => E cls d H) (defBody (top 16)) (m_4 R R2) :=
  have hu := units_of hr
  have hu5 := units5_of hr
  have nd : (["row", "letter", "mark"] : List PySem.Str).Nodup := by decide +kernel
  (vss_cons (vs_ret (ve_bm (T := .str) (join_ok hK) PySem.F.plainAttrs_str PySem.F.slot_str_join PySem.F.type_str_join (ve_str (s := []) (by rfl)) (va_cons (ve_lc (own := [("letter", 1), ("mark", 2)]) (is := [1, 2]) (by rfl) nd (vi_zip hK (by rfl) F.f_zip (ve_gstr (z := [65, 66, 67, 68, 69, 70]) (by rfl) F.c_RULE_LETTERS (by decide +kernel)) (ve_frz (i := 0) (by rfl) (by exact .inl rfl) (by decide +kernel) (by decide +kernel))) (blkOk_by (N := ["row", "letter", "mark"]) (sc := defScope (top 16)) (by decide +kernel)) (by decide +kernel) (fun _ _ _ _ _ => .ex (vg_tup (n := 2) hK (by rfl) (vgs_cons (vg_name (i := 1) nd (by rfl) (by exact .inl rfl) (by exact .inr rfl)) (vgs_cons (vg_name (i := 2) nd (by rfl) (by exact .inl rfl) (by exact .inr rfl)) vgs_nil (by rfl)) (by rfl)) (by rfl) (by rfl))) (fun _ _ _ _ _ => (vts_one (vt_cmp (eq_ok hK hu) (ve_var (i := 2) (by rfl) (by exact .inl rfl) (by decide +kernel) (by decide +kernel)) (ve_str (s := [45]) (by rfl)) (by rfl)))) (fun _ _ _ _ _ => (ve_frz (i := 1) (by rfl) (by exact .inl rfl) (by decide +kernel) (by decide +kernel)).vv) (fun _ => (by rfl))) va_nil (by rfl)) (by rfl) (by rfl) (by rfl) (by rfl) (by rfl)))
  vss_nil)
theorem v_6 (hK : G.K = K) (hG : G.hot = none) (F : Fs P K mg G.cls) (U : Us P w K mg base G k R R2) {f : Addr} {qual : PySem.Str} {cdv : Value} {A : Around} {outer : List Env} {s : Shared} {H : Hp} {E : XK} (hr : Room (k + 1) (A.deeper (envOfC qual (defScope (top 18)) s.heap.objs.size f cdv)))
    (tk : L2N.Takes (cxOf (L2N.CX P w) P w K mg base ["letters", "mask", "letter"] qual (defScope (top 18)) f cdv A outer s H E) (fun cls d _ H => E cls d H)) (pp : PassesOwn (model P w) (A.deeper (envOfC qual (defScope (top 18)) s.heap.objs.size f cdv)) (envOfC qual (defScope (top 18)) s.heap.objs.size f cdv) (cxOf (L2N.CX P w) P w K mg base ["letters", "mask", "letter"] qual (defScope (top 18)) f cdv A outer s H E).xe) :
    VSs (cxOf (L2N.CX P w) P w K mg base ["letters", "mask", "letter"] qual (defScope (top 18)) f cdv A outer s H E) G (fun cls d _ H => E cls d H) (defBody (top 18)) (m_6 R R2) :=
  have hu := units_of hr
  have hu5 := units5_of hr
  have nd : (["letters", "mask", "letter"] : List PySem.Str).Nodup := by decide +kernel
  (vss_cons (vs_set (i := 1) nd (by rfl) (by exact .inl rfl) ve_int (by rfl) (by exact .inl rfl))
  (vss_cons (vs_for pp (by rfl) (vi_src hK (ve_frz (i := 0) (by rfl) (by exact .inl rfl) (by decide +kernel) (by decide +kernel))) (.ex (vg_name (i := 2) nd (by rfl) (by exact .inl rfl) (by exact .inl rfl))) (vss_cons (vs_set (i := 1) nd (by rfl) (by exact .inl rfl) (ve_bop (bor_ok) (ve_var (i := 1) (by rfl) (by exact .inl rfl) (by decide +kernel) (by decide +kernel)) (ve_bop (shl_ok) ve_int (ve_bm (T := .str) sindex_ok PySem.F.plainAttrs_str PySem.F.slot_str_index PySem.F.type_str_index (ve_gstr (z := [65, 66, 67, 68, 69, 70]) (by rfl) F.c_RULE_LETTERS (by decide +kernel)) (va_cons (ve_var (i := 2) (by rfl) (by exact .inl rfl) (by decide +kernel) (by decide +kernel)) va_nil (by rfl)) (by rfl) (by rfl) (by rfl) (by rfl) (by rfl)))) (by rfl) (by exact .inl rfl))
  vss_nil) (fun _ => (by rfl)))
  (vss_cons (vs_retV (i := 1) (by rfl) (by exact .inl rfl) (by decide +kernel) (by decide +kernel))
  vss_nil)))
theorem v_7 (hK : G.K = K) (hG : G.hot = none) (F : Fs P K mg G.cls) (U : Us P w K mg base G k R R2) {f : Addr} {qual : PySem.Str} {cdv : Value} {A : Around} {outer : List Env} {s : Shared} {H : Hp} {E : XK} (hr : Room (k + 1) (A.deeper (envOfC qual (defScope (top 19)) s.heap.objs.size f cdv)))
    (tk : L2N.Takes (cxOf (L2N.CX P w) P w K mg base ["rows", "row"] qual (defScope (top 19)) f cdv A outer s H E) (fun cls d _ H => E cls d H)) (pp : PassesOwn (model P w) (A.deeper (envOfC qual (defScope (top 19)) s.heap.objs.size f cdv)) (envOfC qual (defScope (top 19)) s.heap.objs.size f cdv) (cxOf (L2N.CX P w) P w K mg base ["rows", "row"] qual (defScope (top 19)) f cdv A outer s H E).xe) :
    VSs (cxOf (L2N.CX P w) P w K mg base ["rows", "row"] qual (defScope (top 19)) f cdv A outer s H E) G (fun cls d _ H => E cls d H) (defBody (top 19)) (m_7 R R2) :=
  have hu := units_of hr
  have hu5 := units5_of hr
  have nd : (["rows", "row"] : List PySem.Str).Nodup := by decide +kernel
  (vss_cons (vs_ret (ve_lc (own := [("row", 1)]) (is := [1]) (by rfl) nd (vi_srcB (c := 7) hK (F.it_RowBook _).choose_spec.choose_spec (hr.mono (by omega)) (ve_frz (i := 0) (by rfl) (by exact .inl rfl) (by decide +kernel) (by decide +kernel))) (blkOk_by (N := ["rows", "row"]) (sc := defScope (top 19)) (by decide +kernel)) (by decide +kernel) (fun _ _ _ _ _ => .ex (vg_name (i := 1) nd (by rfl) (by exact .inl rfl) (by exact .inr rfl))) (fun _ _ _ _ _ => vts_nil) (fun _ _ _ _ _ => (ve_tup (vas_cons (ve_call U.f_mask_of hr (takes_no _) (by rfl) (va_cons (ve_call U.f_goods hr (takes_no _) (by rfl) (va_cons (ve_var (i := 1) (by rfl) (by exact .inl rfl) (by decide +kernel) (by decide +kernel)) va_nil (by rfl)) (by decide +kernel) (by rfl) (by rfl)) va_nil (by rfl)) (by decide +kernel) (by rfl) (by rfl)).vv (vas_cons (ve_call U.f_mask_of hr (takes_no _) (by rfl) (va_cons (ve_call U.f_bads hr (takes_no _) (by rfl) (va_cons (ve_var (i := 1) (by rfl) (by exact .inl rfl) (by decide +kernel) (by decide +kernel)) va_nil (by rfl)) (by decide +kernel) (by rfl) (by rfl)) va_nil (by rfl)) (by decide +kernel) (by rfl) (by rfl)).vv vas_nil (by rfl)) (by rfl))).vv) (fun _ => (by rfl))))
  vss_nil)
theorem v_8 (hK : G.K = K) (hG : G.hot = none) (F : Fs P K mg G.cls) (U : Us P w K mg base G k R R2) {f : Addr} {qual : PySem.Str} {cdv : Value} {A : Around} {outer : List Env} {s : Shared} {H : Hp} {E : XK} (hr : Room (k + 1) (A.deeper (envOfC qual (defScope (top 20)) s.heap.objs.size f cdv)))
    (tk : L2N.Takes (cxOf (L2N.CX P w) P w K mg base ["m", "row", "mark"] qual (defScope (top 20)) f cdv A outer s H E) (fun cls d _ H => E cls d H)) (pp : PassesOwn (model P w) (A.deeper (envOfC qual (defScope (top 20)) s.heap.objs.size f cdv)) (envOfC qual (defScope (top 20)) s.heap.objs.size f cdv) (cxOf (L2N.CX P w) P w K mg base ["m", "row", "mark"] qual (defScope (top 20)) f cdv A outer s H E).xe) :
    VSs (cxOf (L2N.CX P w) P w K mg base ["m", "row", "mark"] qual (defScope (top 20)) f cdv A outer s H E) G (fun cls d _ H => E cls d H) (defBody (top 20)) (m_8 R R2) :=
  have hu := units_of hr
  have hu5 := units5_of hr
  have nd : (["m", "row", "mark"] : List PySem.Str).Nodup := by decide +kernel
  (vss_cons (vs_if (vt_cmp (ne_ok hK hu) (ve_callB (len_ok hK) (by rfl) F.f_len (by decide +kernel) (va_cons (ve_var (i := 1) (by rfl) (by exact .inl rfl) (by decide +kernel) (by decide +kernel)) va_nil (by rfl)) (by decide +kernel) (by decide +kernel) (by rfl) (by rfl)) (ve_var (i := 0) (by rfl) (by exact .inl rfl) (by decide +kernel) (by decide +kernel)) (by rfl)) (vss_cons (vs_ret ve_bl)
  vss_nil) vss_nil)
  (vss_cons (vs_for pp (by rfl) (vi_src hK (ve_frz (i := 1) (by rfl) (by exact .inl rfl) (by decide +kernel) (by decide +kernel))) (.ex (vg_name (i := 2) nd (by rfl) (by exact .inl rfl) (by exact .inl rfl))) (vss_cons (vs_if (vt_cmp (notIn_ok hK hu5) (ve_var (i := 2) (by rfl) (by exact .inl rfl) (by decide +kernel) (by decide +kernel)) (ve_str (s := [43, 45, 46]) (by rfl)) (by rfl)) (vss_cons (vs_ret ve_bl)
  vss_nil) vss_nil)
  vss_nil) (fun _ => (by rfl)))
  (vss_cons (vs_ret ve_bl)
  vss_nil)))
theorem v_9 (hK : G.K = K) (hG : G.hot = none) (F : Fs P K mg G.cls) (U : Us P w K mg base G k R R2) {f : Addr} {qual : PySem.Str} {cdv : Value} {A : Around} {outer : List Env} {s : Shared} {H : Hp} {E : XK} (hr : Room (k + 1) (A.deeper (envOfC qual (defScope (inClass (top 21) 0)) s.heap.objs.size f cdv)))
    (tk : L2N.Takes (cxOf (L2N.CX P w) P w K mg base ["self", "m", "rows", "kept", "place", "row"] qual (defScope (inClass (top 21) 0)) f cdv A outer s H E) (fun cls d _ H => E cls d H)) (pp : PassesOwn (model P w) (A.deeper (envOfC qual (defScope (inClass (top 21) 0)) s.heap.objs.size f cdv)) (envOfC qual (defScope (inClass (top 21) 0)) s.heap.objs.size f cdv) (cxOf (L2N.CX P w) P w K mg base ["self", "m", "rows", "kept", "place", "row"] qual (defScope (inClass (top 21) 0)) f cdv A outer s H E).xe) :
    VSs (cxOf (L2N.CX P w) P w K mg base ["self", "m", "rows", "kept", "place", "row"] qual (defScope (inClass (top 21) 0)) f cdv A outer s H E) G (fun cls d _ H => E cls d H) (defBody (inClass (top 21) 0)) (m_9 R R2) :=
  have hu := units_of hr
  have hu5 := units5_of hr
  have nd : (["self", "m", "rows", "kept", "place", "row"] : List PySem.Str).Nodup := by decide +kernel
  (vss_cons (vs_if (vt_not (vt_chain (le_ok hK hu) (le_ok hK hu) ve_int (ve_var (i := 1) (by rfl) (by exact .inl rfl) (by decide +kernel) (by decide +kernel)) (ve_gint (by rfl) F.c_MOST_RULES (by decide +kernel)) (by rfl))) (vss_cons (vs_raise1 (c := 4) (f := "place") (by rfl) tk F.x_BadRow.choose_spec hr (by rfl) F.g_BadRow ve_non.vv (by decide +kernel) (by rfl) (by rfl))
  vss_nil) vss_nil)
  (vss_cons (vs_set (i := 3) nd (by rfl) (by exact .inl rfl) (ve_callTy (tuple_ok hK) (by rfl) F.f_tuple (by decide +kernel) (va_cons (ve_var (i := 2) (by rfl) (by exact .inl rfl) (by decide +kernel) (by decide +kernel)) va_nil (by rfl)) (by decide +kernel) (by decide +kernel) (by rfl) (by rfl)) (by rfl) (by exact .inl rfl))
  (vss_cons (vs_if (vt_cmp (gt_ok hK hu) (ve_callB (len_ok hK) (by rfl) F.f_len (by decide +kernel) (va_cons (ve_var (i := 3) (by rfl) (by exact .inl rfl) (by decide +kernel) (by decide +kernel)) va_nil (by rfl)) (by decide +kernel) (by decide +kernel) (by rfl) (by rfl)) (ve_gint (by rfl) F.c_MOST_ROWS (by decide +kernel)) (by rfl)) (vss_cons (vs_raise1 (c := 1) (f := "limit") (by rfl) tk F.x_TooMany.choose_spec hr (by rfl) F.g_TooMany (ve_gint (by rfl) F.c_MOST_ROWS (by decide +kernel)).vv (by decide +kernel) (by rfl) (by rfl))
  vss_nil) vss_nil)
  (vss_cons (vs_for pp (by rfl) (vi_enum hK (by rfl) F.f_enumerate (ve_frz (i := 3) (by rfl) (by exact .inl rfl) (by decide +kernel) (by decide +kernel))) (.ex (vg_tup (n := 2) hK (by rfl) (vgs_cons (vg_name (i := 4) nd (by rfl) (by exact .inl rfl) (by exact .inl rfl)) (vgs_cons (vg_name (i := 5) nd (by rfl) (by exact .inl rfl) (by exact .inl rfl)) vgs_nil (by rfl)) (by rfl)) (by rfl) (by rfl))) (vss_cons (vs_if (vt_not (vt_truth hK (ve_call U.f_is_row hr tk (by rfl) (va_cons (ve_var (i := 1) (by rfl) (by exact .inl rfl) (by decide +kernel) (by decide +kernel)) (va_cons (ve_var (i := 5) (by rfl) (by exact .inl rfl) (by decide +kernel) (by decide +kernel)) va_nil (by rfl)) (by rfl)) (by decide +kernel) (by rfl) (by rfl)) (fun _ => (by rfl)))) (vss_cons (vs_raise1 (c := 4) (f := "place") (by rfl) tk F.x_BadRow.choose_spec hr (by rfl) F.g_BadRow (ve_frz (i := 4) (by rfl) (by exact .inl rfl) (by decide +kernel) (by decide +kernel)).vv (by decide +kernel) (by rfl) (by rfl))
  vss_nil) vss_nil)
  vss_nil) (fun _ => (by rfl)))
  (vss_cons (vs_fld (i := 0) F.flds (by rfl) (by exact .inl rfl) (by decide +kernel) (by decide +kernel) (ve_frz (i := 1) (by rfl) (by exact .inl rfl) (by decide +kernel) (by decide +kernel)).vv (by rfl))
  (vss_cons (vs_fld (i := 0) F.flds (by rfl) (by exact .inl rfl) (by decide +kernel) (by decide +kernel) (ve_frz (i := 3) (by rfl) (by exact .inl rfl) (by decide +kernel) (by decide +kernel)).vv (by rfl))
  vss_nil))))))
theorem v_16 (hK : G.K = K) (hG : G.hot = none) (F : Fs P K mg G.cls) (U : Us P w K mg base G k R R2) {f : Addr} {qual : PySem.Str} {cdv : Value} {A : Around} {outer : List Env} {s : Shared} {H : Hp} {E : XK} (hr : Room (k + 1) (A.deeper (envOfC qual (defScope (top 24)) s.heap.objs.size f cdv)))
    (tk : L2N.Takes (cxOf (L2N.CX P w) P w K mg base ["rules", "masks", "strata", "left", "stratum", "place"] qual (defScope (top 24)) f cdv A outer s H E) (fun cls d _ H => E cls d H)) (pp : PassesOwn (model P w) (A.deeper (envOfC qual (defScope (top 24)) s.heap.objs.size f cdv)) (envOfC qual (defScope (top 24)) s.heap.objs.size f cdv) (cxOf (L2N.CX P w) P w K mg base ["rules", "masks", "strata", "left", "stratum", "place"] qual (defScope (top 24)) f cdv A outer s H E).xe) :
    VSs (cxOf (L2N.CX P w) P w K mg base ["rules", "masks", "strata", "left", "stratum", "place"] qual (defScope (top 24)) f cdv A outer s H E) G (fun cls d _ H => E cls d H) (defBody (top 24)) (m_16 R R2) :=
  have hu := units_of hr
  have hu5 := units5_of hr
  have nd : (["rules", "masks", "strata", "left", "stratum", "place"] : List PySem.Str).Nodup := by decide +kernel
  (vss_cons (vs_set (i := 2) nd (by rfl) (by exact .inl rfl) (ve_lst vas_nil) (by rfl) (by exact .inl rfl))
  (vss_cons (vs_set (i := 3) nd (by rfl) (by exact .inl rfl) (ve_listRg (by rfl) (by rfl) F.f_list (by rfl) F.f_range (ve_callB (len_ok hK) (by rfl) F.f_len (by decide +kernel) (va_cons (ve_var (i := 1) (by rfl) (by exact .inr (.inl rfl)) (by decide +kernel) (by decide +kernel)) va_nil (by rfl)) (by decide +kernel) (by decide +kernel) (by rfl) (by rfl))) (by rfl) (by exact .inl rfl))
  (vss_cons (vs_while pp (vt_cmp (ne_ok hK hu) (ve_var (i := 0) (by rfl) (by exact .inl rfl) (by decide +kernel) (by decide +kernel)) ve_int (by rfl)) (vss_cons (vs_set (i := 4) nd (by rfl) (by exact .inr rfl) (ve_frz (i := 0) (by rfl) (by exact .inl rfl) (by decide +kernel) (by decide +kernel)) (by rfl) (by exact .inl rfl))
  (vss_cons (vs_for pp (by rfl) (vi_src hK (ve_frz (i := 3) (by rfl) (by exact .inl rfl) (by decide +kernel) (by decide +kernel))) (.ex (vg_name (i := 5) nd (by rfl) (by exact .inl rfl) (by exact .inl rfl))) (vss_cons (vs_set (i := 4) nd (by rfl) (by exact .inr rfl) (ve_bop (sub_ok) (ve_var (i := 4) (by rfl) (by exact .inr (.inl rfl)) (by decide +kernel) (by decide +kernel)) (ve_bop (band_ok) (ve_var (i := 4) (by rfl) (by exact .inr (.inl rfl)) (by decide +kernel) (by decide +kernel)) (ve_ix hK (ve_ix hK (ve_var (i := 1) (by rfl) (by exact .inr (.inl rfl)) (by decide +kernel) (by decide +kernel)) (ve_var (i := 5) (by rfl) (by exact .inl rfl) (by decide +kernel) (by decide +kernel)) (fun _ _ => (by rfl))) ve_int (fun _ _ => (by rfl))))) (by rfl) (by exact .inl rfl))
  vss_nil) (fun _ => (by rfl)))
  (vss_cons (vs_if (vt_cmp (eq_ok hK hu) (ve_var (i := 4) (by rfl) (by exact .inr (.inl rfl)) (by decide +kernel) (by decide +kernel)) ve_int (by rfl)) (vss_cons vs_break
  vss_nil) vss_nil)
  (vss_cons (vs_expr (ve_wr (T := .list) (i := 2) (append_ok) (by rfl) (by exact .inl rfl) (by decide +kernel) (by decide +kernel) PySem.F.plainAttrs_list PySem.F.slot_list_append PySem.F.type_list_append (vas_cons (ve_frz (i := 4) (by rfl) (by exact .inr (.inl rfl)) (by decide +kernel) (by decide +kernel)).vv vas_nil (by rfl)) (by rfl) (by rfl) (by rfl) (by rfl) (by rfl)) (by rfl))
  (vss_cons (vs_set (i := 0) nd (by rfl) (by exact .inl rfl) (ve_bop (sub_ok) (ve_var (i := 0) (by rfl) (by exact .inl rfl) (by decide +kernel) (by decide +kernel)) (ve_var (i := 4) (by rfl) (by exact .inr (.inl rfl)) (by decide +kernel) (by decide +kernel))) (by rfl) (by exact .inl rfl))
  (vss_cons (vs_setLc (i := 3) (own := [("place", 5)]) (is := [5]) (by rfl) nd (by rfl) (by rfl) (by rfl) (vi_src hK (ve_frz (i := 3) (by rfl) (by exact .inl rfl) (by decide +kernel) (by decide +kernel))) (blkOk_by (N := ["rules", "masks", "strata", "left", "stratum", "place"]) (sc := defScope (top 24)) (by decide +kernel)) (by decide +kernel) (fun _ _ _ _ _ => .ex (vg_name (i := 5) nd (by rfl) (by exact .inl rfl) (by exact .inr rfl))) (fun _ _ _ _ _ => (vts_one (vt_cmp (eq_ok hK hu) (ve_bop (band_ok) (ve_ix hK (ve_ix hK (ve_var (i := 1) (by rfl) (by exact .inr (.inl rfl)) (by decide +kernel) (by decide +kernel)) (ve_var (i := 5) (by rfl) (by exact .inl rfl) (by decide +kernel) (by decide +kernel)) (fun _ _ => (by rfl))) ve_int (fun _ _ => (by rfl))) (ve_var (i := 4) (by rfl) (by exact .inr (.inl rfl)) (by decide +kernel) (by decide +kernel))) ve_int (by rfl)))) (fun _ _ _ _ _ => (ve_frz (i := 5) (by rfl) (by exact .inl rfl) (by decide +kernel) (by decide +kernel)).vv) (fun _ => (by rfl)))
  vss_nil)))))))
  (vss_cons (vs_ret (ve_tup (vas_cons (ve_frz (i := 2) (by rfl) (by exact .inl rfl) (by decide +kernel) (by decide +kernel)).vv (vas_cons (ve_frz (i := 3) (by rfl) (by exact .inl rfl) (by decide +kernel) (by decide +kernel)).vv vas_nil (by rfl)) (by rfl))))
  vss_nil))))
theorem v_17 (hK : G.K = K) (hG : G.hot = none) (F : Fs P K mg G.cls) (U : Us P w K mg base G k R R2) {f : Addr} {qual : PySem.Str} {cdv : Value} {A : Around} {outer : List Env} {s : Shared} {H : Hp} {E : XK} (hr : Room (k + 1) (A.deeper (envOfC qual (defScope (top 25)) s.heap.objs.size f cdv)))
    (tk : L2N.Takes (cxOf (L2N.CX P w) P w K mg base ["masks", "strata", "_"] qual (defScope (top 25)) f cdv A outer s H E) (fun cls d _ H => E cls d H)) (pp : PassesOwn (model P w) (A.deeper (envOfC qual (defScope (top 25)) s.heap.objs.size f cdv)) (envOfC qual (defScope (top 25)) s.heap.objs.size f cdv) (cxOf (L2N.CX P w) P w K mg base ["masks", "strata", "_"] qual (defScope (top 25)) f cdv A outer s H E).xe) :
    VSs (cxOf (L2N.CX P w) P w K mg base ["masks", "strata", "_"] qual (defScope (top 25)) f cdv A outer s H E) G (fun cls d _ H => E cls d H) (defBody (top 25)) (m_17 R R2) :=
  have hu := units_of hr
  have hu5 := units5_of hr
  have nd : (["masks", "strata", "_"] : List PySem.Str).Nodup := by decide +kernel
  (vss_cons (vs_asg (ve_call U.f_strata_of hr tk (by rfl) (va_cons (ve_gint (by rfl) F.c_ALL_RULES (by decide +kernel)) (va_cons (ve_var (i := 0) (by rfl) (by exact .inl rfl) (by decide +kernel) (by decide +kernel)) va_nil (by rfl)) (by rfl)) (by decide +kernel) (by rfl) (by rfl)).vv (.ex (vg_tup (n := 2) hK (by rfl) (vgs_cons (vg_name (i := 1) nd (by rfl) (by exact .inl rfl) (by exact .inl rfl)) (vgs_cons (vg_name (i := 2) nd (by rfl) (by exact .inl rfl) (by exact .inl rfl)) vgs_nil (by rfl)) (by rfl)) (by rfl) (by rfl))) (by rfl) (by rfl) (by rfl))
  (vss_cons (vs_ret (ve_cmp (eq_ok hK hu) (ve_callB (sum_ok (by rfl)) (by rfl) F.f_sum (by decide +kernel) (va_cons (ve_var (i := 1) (by rfl) (by exact .inl rfl) (by decide +kernel) (by decide +kernel)) va_nil (by rfl)) (by decide +kernel) (by decide +kernel) (by rfl) (by rfl)) (ve_gint (by rfl) F.c_ALL_RULES (by decide +kernel)) (by rfl)))
  vss_nil))
theorem v_18 (hK : G.K = K) (hG : G.hot = none) (F : Fs P K mg G.cls) (U : Us P w K mg base G k R R2) {f : Addr} {qual : PySem.Str} {cdv : Value} {A : Around} {outer : List Env} {s : Shared} {H : Hp} {E : XK} (hr : Room (k + 1) (A.deeper (envOfC qual (defScope (top 26)) s.heap.objs.size f cdv)))
    (tk : L2N.Takes (cxOf (L2N.CX P w) P w K mg base ["masks", "strata", "left", "stuck", "lot", "place", "found", "fewer", "other"] qual (defScope (top 26)) f cdv A outer s H E) (fun cls d _ H => E cls d H)) (pp : PassesOwn (model P w) (A.deeper (envOfC qual (defScope (top 26)) s.heap.objs.size f cdv)) (envOfC qual (defScope (top 26)) s.heap.objs.size f cdv) (cxOf (L2N.CX P w) P w K mg base ["masks", "strata", "left", "stuck", "lot", "place", "found", "fewer", "other"] qual (defScope (top 26)) f cdv A outer s H E).xe) :
    VSs (cxOf (L2N.CX P w) P w K mg base ["masks", "strata", "left", "stuck", "lot", "place", "found", "fewer", "other"] qual (defScope (top 26)) f cdv A outer s H E) G (fun cls d _ H => E cls d H) (defBody (top 26)) (m_18 R R2) :=
  have hu := units_of hr
  have hu5 := units5_of hr
  have nd : (["masks", "strata", "left", "stuck", "lot", "place", "found", "fewer", "other"] : List PySem.Str).Nodup := by decide +kernel
  (vss_cons (vs_asg (ve_call U.f_strata_of hr tk (by rfl) (va_cons (ve_gint (by rfl) F.c_ALL_RULES (by decide +kernel)) (va_cons (ve_var (i := 0) (by rfl) (by exact .inr (.inl rfl)) (by decide +kernel) (by decide +kernel)) va_nil (by rfl)) (by rfl)) (by decide +kernel) (by rfl) (by rfl)).vv (.ex (vg_tup (n := 2) hK (by rfl) (vgs_cons (vg_name (i := 1) nd (by rfl) (by exact .inl rfl) (by exact .inl rfl)) (vgs_cons (vg_name (i := 2) nd (by rfl) (by exact .inl rfl) (by exact .inl rfl)) vgs_nil (by rfl)) (by rfl)) (by rfl) (by rfl))) (by rfl) (by rfl) (by rfl))
  (vss_cons (vs_set (i := 3) nd (by rfl) (by exact .inl rfl) (ve_bop (sub_ok) (ve_gint (by rfl) F.c_ALL_RULES (by decide +kernel)) (ve_callB (sum_ok (by rfl)) (by rfl) F.f_sum (by decide +kernel) (va_cons (ve_var (i := 1) (by rfl) (by exact .inl rfl) (by decide +kernel) (by decide +kernel)) va_nil (by rfl)) (by decide +kernel) (by decide +kernel) (by rfl) (by rfl))) (by rfl) (by exact .inl rfl))
  (vss_cons (vs_set (i := 4) nd (by rfl) (by exact .inl rfl) (ve_lst vas_nil) (by rfl) (by exact .inl rfl))
  (vss_cons (vs_for pp (by rfl) (vi_src hK (ve_frz (i := 2) (by rfl) (by exact .inl rfl) (by decide +kernel) (by decide +kernel))) (.ex (vg_name (i := 5) nd (by rfl) (by exact .inr rfl) (by exact .inl rfl))) (vss_cons (vs_set (i := 6) nd (by rfl) (by exact .inl rfl) (ve_bop (band_ok) (ve_ix hK (ve_ix hK (ve_var (i := 0) (by rfl) (by exact .inr (.inl rfl)) (by decide +kernel) (by decide +kernel)) (ve_var (i := 5) (by rfl) (by exact .inr (.inl rfl)) (by decide +kernel) (by decide +kernel)) (fun _ _ => (by rfl))) ve_int (fun _ _ => (by rfl))) (ve_var (i := 3) (by rfl) (by exact .inl rfl) (by decide +kernel) (by decide +kernel))) (by rfl) (by exact .inl rfl))
  (vss_cons (vs_if (vt_cmp (ne_ok hK hu) (ve_var (i := 6) (by rfl) (by exact .inl rfl) (by decide +kernel) (by decide +kernel)) ve_int (by rfl)) (vss_cons (vs_expr (ve_wr (T := .list) (i := 4) (append_ok) (by rfl) (by exact .inl rfl) (by decide +kernel) (by decide +kernel) PySem.F.plainAttrs_list PySem.F.slot_list_append PySem.F.type_list_append (vas_cons (ve_frz (i := 5) (by rfl) (by exact .inr (.inl rfl)) (by decide +kernel) (by decide +kernel)).vv vas_nil (by rfl)) (by rfl) (by rfl) (by rfl) (by rfl) (by rfl)) (by rfl))
  (vss_cons (vs_set (i := 3) nd (by rfl) (by exact .inl rfl) (ve_bop (sub_ok) (ve_var (i := 3) (by rfl) (by exact .inl rfl) (by decide +kernel) (by decide +kernel)) (ve_var (i := 6) (by rfl) (by exact .inl rfl) (by decide +kernel) (by decide +kernel))) (by rfl) (by exact .inl rfl))
  vss_nil)) vss_nil)
  vss_nil)) (fun _ => (by rfl)))
  (vss_cons (vs_for pp (by rfl) (vi_src hK (ve_callTy (listS_ok (by rfl) hK) (by rfl) F.f_list (by decide +kernel) (va_cons (ve_var (i := 4) (by rfl) (by exact .inl rfl) (by decide +kernel) (by decide +kernel)) va_nil (by rfl)) (by decide +kernel) (by decide +kernel) (by rfl) (by rfl))) (.ex (vg_name (i := 5) nd (by rfl) (by exact .inr rfl) (by exact .inl rfl))) (vss_cons (vs_setLc (i := 7) (own := [("other", 8)]) (is := [8]) (by rfl) nd (by rfl) (by rfl) (by rfl) (vi_src hK (ve_frz (i := 4) (by rfl) (by exact .inl rfl) (by decide +kernel) (by decide +kernel))) (blkOk_by (N := ["masks", "strata", "left", "stuck", "lot", "place", "found", "fewer", "other"]) (sc := defScope (top 26)) (by decide +kernel)) (by decide +kernel) (fun _ _ _ _ _ => .ex (vg_name (i := 8) nd (by rfl) (by exact .inl rfl) (by exact .inr rfl))) (fun _ _ _ _ _ => (vts_one (vt_cmp (ne_ok hK hu) (ve_var (i := 8) (by rfl) (by exact .inl rfl) (by decide +kernel) (by decide +kernel)) (ve_var (i := 5) (by rfl) (by exact .inr (.inl rfl)) (by decide +kernel) (by decide +kernel)) (by rfl)))) (fun _ _ _ _ _ => (ve_frz (i := 8) (by rfl) (by exact .inl rfl) (by decide +kernel) (by decide +kernel)).vv) (fun _ => (by rfl)))
  (vss_cons (vs_if (vt_not (vt_truth hK (ve_call U.f_masks_consistent hr tk (by rfl) (va_cons (ve_lc (own := [("other", 8)]) (is := [8]) (by rfl) nd (vi_src hK (ve_frz (i := 7) (by rfl) (by exact .inl rfl) (by decide +kernel) (by decide +kernel))) (blkOk_by (N := ["masks", "strata", "left", "stuck", "lot", "place", "found", "fewer", "other"]) (sc := defScope (top 26)) (by decide +kernel)) (by decide +kernel) (fun _ _ _ _ _ => .ex (vg_name (i := 8) nd (by rfl) (by exact .inl rfl) (by exact .inr rfl))) (fun _ _ _ _ _ => vts_nil) (fun _ _ _ _ _ => (ve_ix hK (ve_var (i := 0) (by rfl) (by exact .inr (.inl rfl)) (by decide +kernel) (by decide +kernel)) (ve_var (i := 8) (by rfl) (by exact .inl rfl) (by decide +kernel) (by decide +kernel)) (fun _ _ => (by rfl))).vv) (fun _ => (by rfl))) va_nil (by rfl)) (by decide +kernel) (by rfl) (by rfl)) (fun _ => (by rfl)))) (vss_cons (vs_set (i := 4) nd (by rfl) (by exact .inl rfl) (ve_frz (i := 7) (by rfl) (by exact .inl rfl) (by decide +kernel) (by decide +kernel)) (by rfl) (by exact .inl rfl))
  vss_nil) vss_nil)
  vss_nil)) (fun _ => (by rfl)))
  (vss_cons (vs_ret (ve_callTy (tuple_ok hK) (by rfl) F.f_tuple (by decide +kernel) (va_cons (ve_var (i := 4) (by rfl) (by exact .inl rfl) (by decide +kernel) (by decide +kernel)) va_nil (by rfl)) (by decide +kernel) (by decide +kernel) (by rfl) (by rfl)))
  vss_nil))))))
theorem v_19 (hK : G.K = K) (hG : G.hot = none) (F : Fs P K mg G.cls) (U : Us P w K mg base G k R R2) {f : Addr} {qual : PySem.Str} {cdv : Value} {A : Around} {outer : List Env} {s : Shared} {H : Hp} {E : XK} (hr : Room (k + 1) (A.deeper (envOfC qual (defScope (top 27)) s.heap.objs.size f cdv)))
    (tk : L2N.Takes (cxOf (L2N.CX P w) P w K mg base ["masks", "lot"] qual (defScope (top 27)) f cdv A outer s H E) (fun cls d _ H => E cls d H)) (pp : PassesOwn (model P w) (A.deeper (envOfC qual (defScope (top 27)) s.heap.objs.size f cdv)) (envOfC qual (defScope (top 27)) s.heap.objs.size f cdv) (cxOf (L2N.CX P w) P w K mg base ["masks", "lot"] qual (defScope (top 27)) f cdv A outer s H E).xe) :
    VSs (cxOf (L2N.CX P w) P w K mg base ["masks", "lot"] qual (defScope (top 27)) f cdv A outer s H E) G (fun cls d _ H => E cls d H) (defBody (top 27)) (m_19 R R2) :=
  have hu := units_of hr
  have hu5 := units5_of hr
  have nd : (["masks", "lot"] : List PySem.Str).Nodup := by decide +kernel
  (vss_cons (vs_set (i := 1) nd (by rfl) (by exact .inl rfl) (ve_call U.f_least_lot hr tk (by rfl) (va_cons (ve_var (i := 0) (by rfl) (by exact .inl rfl) (by decide +kernel) (by decide +kernel)) va_nil (by rfl)) (by decide +kernel) (by rfl) (by rfl)) (by rfl) (by exact .inl rfl))
  (vss_cons (vs_if (vt_cmp (gt_ok hK hu) (ve_callB (len_ok hK) (by rfl) F.f_len (by decide +kernel) (va_cons (ve_var (i := 1) (by rfl) (by exact .inl rfl) (by decide +kernel) (by decide +kernel)) va_nil (by rfl)) (by decide +kernel) (by decide +kernel) (by rfl) (by rfl)) ve_int (by rfl)) (vss_cons (vs_raise1 (c := 6) (f := "lot") (by rfl) tk F.x_AtOdds.choose_spec hr (by rfl) F.g_AtOdds (ve_frz (i := 1) (by rfl) (by exact .inl rfl) (by decide +kernel) (by decide +kernel)).vv (by decide +kernel) (by rfl) (by rfl))
  vss_nil) vss_nil)
  vss_nil))
theorem v_20 (hK : G.K = K) (hG : G.hot = none) (F : Fs P K mg G.cls) (U : Us P w K mg base G k R R2) {f : Addr} {qual : PySem.Str} {cdv : Value} {A : Around} {outer : List Env} {s : Shared} {H : Hp} {E : XK} (hr : Room (k + 1) (A.deeper (envOfC qual (defScope (top 28)) s.heap.objs.size f cdv)))
    (tk : L2N.Takes (cxOf (L2N.CX P w) P w K mg base ["m", "masks", "place", "good", "bad"] qual (defScope (top 28)) f cdv A outer s H E) (fun cls d _ H => E cls d H)) (pp : PassesOwn (model P w) (A.deeper (envOfC qual (defScope (top 28)) s.heap.objs.size f cdv)) (envOfC qual (defScope (top 28)) s.heap.objs.size f cdv) (cxOf (L2N.CX P w) P w K mg base ["m", "masks", "place", "good", "bad"] qual (defScope (top 28)) f cdv A outer s H E).xe) :
    VSs (cxOf (L2N.CX P w) P w K mg base ["m", "masks", "place", "good", "bad"] qual (defScope (top 28)) f cdv A outer s H E) G (fun cls d _ H => E cls d H) (defBody (top 28)) (m_20 R R2) :=
  have hu := units_of hr
  have hu5 := units5_of hr
  have nd : (["m", "masks", "place", "good", "bad"] : List PySem.Str).Nodup := by decide +kernel
  (vss_cons (vs_ret (ve_lc (own := [("place", 2)]) (is := [2]) (by rfl) nd (vi_range1 (by rfl) F.f_range (vas_cons (ve_frz (i := 0) (by rfl) (by exact .inl rfl) (by decide +kernel) (by decide +kernel)).vv vas_nil (by rfl))) (blkOk_by (N := ["m", "masks", "place", "good", "bad"]) (sc := defScope (top 28)) (by decide +kernel)) (by decide +kernel) (fun _ _ _ _ _ => .ex (vg_name (i := 2) nd (by rfl) (by exact .inr rfl) (by exact .inl rfl))) (fun _ _ _ _ _ => vts_nil) (fun _ _ _ _ _ => (ve_lc (own := [("good", 3), ("bad", 4)]) (is := [3, 4]) (by rfl) nd (vi_src hK (ve_frz (i := 1) (by rfl) (by exact .inr (.inl rfl)) (by decide +kernel) (by decide +kernel))) (blkOk_by (by kernel_rfl)) (by decide +kernel) (fun _ _ _ _ _ => .ex (vg_tup (n := 2) hK (by rfl) (vgs_cons (vg_name (i := 3) nd (by rfl) (by exact .inl rfl) (by exact .inr rfl)) (vgs_cons (vg_name (i := 4) nd (by rfl) (by exact .inl rfl) (by exact .inr rfl)) vgs_nil (by rfl)) (by rfl)) (by rfl) (by rfl))) (fun _ _ _ _ _ => (vts_one (vt_truth hK (ve_bop (band_ok) (ve_bop (shr_ok) (ve_var (i := 4) (by rfl) (by exact .inl rfl) (by decide +kernel) (by decide +kernel)) (ve_var (i := 2) (by rfl) (by exact .inr (.inl rfl)) (by decide +kernel) (by decide +kernel))) ve_int) (fun _ => (by rfl))))) (fun _ _ _ _ _ => (ve_frz (i := 3) (by rfl) (by exact .inl rfl) (by decide +kernel) (by decide +kernel)).vv) (fun _ => (by rfl))).vv) (fun _ => (by rfl))))
  vss_nil)
theorem v_21 (hK : G.K = K) (hG : G.hot = none) (F : Fs P K mg G.cls) (U : Us P w K mg base G k R R2) {f : Addr} {qual : PySem.Str} {cdv : Value} {A : Around} {outer : List Env} {s : Shared} {H : Hp} {E : XK} (hr : Room (k + 1) (A.deeper (envOfC qual (defScope (top 29)) s.heap.objs.size f cdv)))
    (tk : L2N.Takes (cxOf (L2N.CX P w) P w K mg base ["needs", "above", "place", "good"] qual (defScope (top 29)) f cdv A outer s H E) (fun cls d _ H => E cls d H)) (pp : PassesOwn (model P w) (A.deeper (envOfC qual (defScope (top 29)) s.heap.objs.size f cdv)) (envOfC qual (defScope (top 29)) s.heap.objs.size f cdv) (cxOf (L2N.CX P w) P w K mg base ["needs", "above", "place", "good"] qual (defScope (top 29)) f cdv A outer s H E).xe) :
    VSs (cxOf (L2N.CX P w) P w K mg base ["needs", "above", "place", "good"] qual (defScope (top 29)) f cdv A outer s H E) G (fun cls d _ H => E cls d H) (defBody (top 29)) (m_21 R R2) :=
  have hu := units_of hr
  have hu5 := units5_of hr
  have nd : (["needs", "above", "place", "good"] : List PySem.Str).Nodup := by decide +kernel
  (vss_cons (vs_if (vt_truth hK (ve_bop (band_ok) (ve_bop (shr_ok) (ve_var (i := 1) (by rfl) (by exact .inl rfl) (by decide +kernel) (by decide +kernel)) (ve_var (i := 2) (by rfl) (by exact .inl rfl) (by decide +kernel) (by decide +kernel))) ve_int) (fun _ => (by rfl))) (vss_cons (vs_ret ve_bl)
  vss_nil) vss_nil)
  (vss_cons (vs_for pp (by rfl) (vi_src hK (ve_ix hK (ve_var (i := 0) (by rfl) (by exact .inl rfl) (by decide +kernel) (by decide +kernel)) (ve_var (i := 2) (by rfl) (by exact .inl rfl) (by decide +kernel) (by decide +kernel)) (fun _ _ => (by rfl)))) (.ex (vg_name (i := 3) nd (by rfl) (by exact .inl rfl) (by exact .inl rfl))) (vss_cons (vs_if (vt_cmp (eq_ok hK hu) (ve_bop (band_ok) (ve_var (i := 3) (by rfl) (by exact .inl rfl) (by decide +kernel) (by decide +kernel)) (ve_var (i := 1) (by rfl) (by exact .inl rfl) (by decide +kernel) (by decide +kernel))) ve_int (by rfl)) (vss_cons (vs_ret ve_bl)
  vss_nil) vss_nil)
  vss_nil) (fun _ => (by rfl)))
  (vss_cons (vs_ret ve_bl)
  vss_nil)))
theorem v_22 (hK : G.K = K) (hG : G.hot = none) (F : Fs P K mg G.cls) (U : Us P w K mg base G k R R2) {f : Addr} {qual : PySem.Str} {cdv : Value} {A : Around} {outer : List Env} {s : Shared} {H : Hp} {E : XK} (hr : Room (k + 1) (A.deeper (envOfC qual (defScope (top 30)) s.heap.objs.size f cdv)))
    (tk : L2N.Takes (cxOf (L2N.CX P w) P w K mg base ["m", "masks", "needs", "above", "ranking", "_", "rule", "place"] qual (defScope (top 30)) f cdv A outer s H E) (fun cls d _ H => E cls d H)) (pp : PassesOwn (model P w) (A.deeper (envOfC qual (defScope (top 30)) s.heap.objs.size f cdv)) (envOfC qual (defScope (top 30)) s.heap.objs.size f cdv) (cxOf (L2N.CX P w) P w K mg base ["m", "masks", "needs", "above", "ranking", "_", "rule", "place"] qual (defScope (top 30)) f cdv A outer s H E).xe) :
    VSs (cxOf (L2N.CX P w) P w K mg base ["m", "masks", "needs", "above", "ranking", "_", "rule", "place"] qual (defScope (top 30)) f cdv A outer s H E) G (fun cls d _ H => E cls d H) (defBody (top 30)) (m_22 R R2) :=
  have hu := units_of hr
  have hu5 := units5_of hr
  have nd : (["m", "masks", "needs", "above", "ranking", "_", "rule", "place"] : List PySem.Str).Nodup := by decide +kernel
  (vss_cons (vs_set (i := 2) nd (by rfl) (by exact .inr rfl) (ve_call U.f_needs_of hr tk (by rfl) (va_cons (ve_var (i := 0) (by rfl) (by exact .inl rfl) (by decide +kernel) (by decide +kernel)) (va_cons (ve_var (i := 1) (by rfl) (by exact .inl rfl) (by decide +kernel) (by decide +kernel)) va_nil (by rfl)) (by rfl)) (by decide +kernel) (by rfl) (by rfl)) (by rfl) (by exact .inl rfl))
  (vss_cons (vs_set (i := 3) nd (by rfl) (by exact .inr rfl) ve_int (by rfl) (by exact .inl rfl))
  (vss_cons (vs_set (i := 4) nd (by rfl) (by exact .inl rfl) (ve_str (s := []) (by rfl)) (by rfl) (by exact .inl rfl))
  (vss_cons (vs_for pp (by rfl) (vi_range1 (by rfl) F.f_range (vas_cons (ve_frz (i := 0) (by rfl) (by exact .inl rfl) (by decide +kernel) (by decide +kernel)).vv vas_nil (by rfl))) (.ex (vg_name (i := 5) nd (by rfl) (by exact .inl rfl) (by exact .inl rfl))) (vss_cons (vs_set (i := 6) nd (by rfl) (by exact .inl rfl) (ve_callB (min_ok (by rfl)) (by rfl) F.f_min (by decide +kernel) (va_cons (ve_lc (own := [("place", 7)]) (is := [7]) (by rfl) nd (vi_range1 (by rfl) F.f_range (vas_cons (ve_frz (i := 0) (by rfl) (by exact .inl rfl) (by decide +kernel) (by decide +kernel)).vv vas_nil (by rfl))) (blkOk_by (N := ["m", "masks", "needs", "above", "ranking", "_", "rule", "place"]) (sc := defScope (top 30)) (by decide +kernel)) (by decide +kernel) (fun _ _ _ _ _ => .ex (vg_name (i := 7) nd (by rfl) (by exact .inl rfl) (by exact .inr rfl))) (fun _ _ _ _ _ => (vts_one (vt_truth hK (ve_call U.f_may_come hr (takes_no _) (by rfl) (va_cons (ve_var (i := 2) (by rfl) (by exact .inr (.inl rfl)) (by decide +kernel) (by decide +kernel)) (va_cons (ve_var (i := 3) (by rfl) (by exact .inr (.inl rfl)) (by decide +kernel) (by decide +kernel)) (va_cons (ve_var (i := 7) (by rfl) (by exact .inl rfl) (by decide +kernel) (by decide +kernel)) va_nil (by rfl)) (by rfl)) (by rfl)) (by decide +kernel) (by rfl) (by rfl)) (fun _ => (by rfl))))) (fun _ _ _ _ _ => (ve_frz (i := 7) (by rfl) (by exact .inl rfl) (by decide +kernel) (by decide +kernel)).vv) (fun _ => (by rfl))) va_nil (by rfl)) (by decide +kernel) (by decide +kernel) (by rfl) (by rfl)) (by rfl) (by exact .inl rfl))
  (vss_cons (vs_set (i := 3) nd (by rfl) (by exact .inr rfl) (ve_bop (bor_ok) (ve_var (i := 3) (by rfl) (by exact .inr (.inl rfl)) (by decide +kernel) (by decide +kernel)) (ve_bop (shl_ok) ve_int (ve_var (i := 6) (by rfl) (by exact .inl rfl) (by decide +kernel) (by decide +kernel)))) (by rfl) (by exact .inl rfl))
  (vss_cons (vs_set (i := 4) nd (by rfl) (by exact .inl rfl) (ve_bop (add_ok hK) (ve_var (i := 4) (by rfl) (by exact .inl rfl) (by decide +kernel) (by decide +kernel)) (ve_ix hK (ve_gstr (z := [65, 66, 67, 68, 69, 70]) (by rfl) F.c_RULE_LETTERS (by decide +kernel)) (ve_var (i := 6) (by rfl) (by exact .inl rfl) (by decide +kernel) (by decide +kernel)) (fun _ _ => (by rfl)))) (by rfl) (by exact .inl rfl))
  vss_nil))) (fun _ => (by rfl)))
  (vss_cons (vs_retV (i := 4) (by rfl) (by exact .inl rfl) (by decide +kernel) (by decide +kernel))
  vss_nil)))))
theorem v_23 (hK : G.K = K) (hG : G.hot = none) (F : Fs P K mg G.cls) (U : Us P w K mg base G k R R2) {f : Addr} {qual : PySem.Str} {cdv : Value} {A : Around} {outer : List Env} {s : Shared} {H : Hp} {E : XK} (hr : Room (k + 1) (A.deeper (envOfC qual (defScope (top 31)) s.heap.objs.size f cdv)))
    (tk : L2N.Takes (cxOf (L2N.CX P w) P w K mg base ["rows", "masks"] qual (defScope (top 31)) f cdv A outer s H E) (fun cls d _ H => E cls d H)) (pp : PassesOwn (model P w) (A.deeper (envOfC qual (defScope (top 31)) s.heap.objs.size f cdv)) (envOfC qual (defScope (top 31)) s.heap.objs.size f cdv) (cxOf (L2N.CX P w) P w K mg base ["rows", "masks"] qual (defScope (top 31)) f cdv A outer s H E).xe) :
    VSs (cxOf (L2N.CX P w) P w K mg base ["rows", "masks"] qual (defScope (top 31)) f cdv A outer s H E) G (fun cls d _ H => E cls d H) (defBody (top 31)) (m_23 R R2) :=
  have hu := units_of hr
  have hu5 := units5_of hr
  have nd : (["rows", "masks"] : List PySem.Str).Nodup := by decide +kernel
  (vss_cons (vs_set (i := 1) nd (by rfl) (by exact .inl rfl) (ve_call U.f_row_masks hr tk (by rfl) (va_cons (ve_var (i := 0) (by rfl) (by exact .inl rfl) (by decide +kernel) (by decide +kernel)) va_nil (by rfl)) (by decide +kernel) (by rfl) (by rfl)) (by rfl) (by exact .inl rfl))
  (vss_cons (vs_expr (ve_call U.f_check_consistent hr tk (by rfl) (va_cons (ve_var (i := 1) (by rfl) (by exact .inl rfl) (by decide +kernel) (by decide +kernel)) va_nil (by rfl)) (by decide +kernel) (by rfl) (by rfl)) (by rfl))
  (vss_cons (vs_ret (ve_call U.f_first_letters hr tk (by rfl) (va_cons (ve_fld F.flds (ve_var (i := 0) (by rfl) (by exact .inl rfl) (by decide +kernel) (by decide +kernel)) (by rfl)) (va_cons (ve_var (i := 1) (by rfl) (by exact .inl rfl) (by decide +kernel) (by decide +kernel)) va_nil (by rfl)) (by rfl)) (by decide +kernel) (by rfl) (by rfl)))
  vss_nil)))
theorem v_24 (hK : G.K = K) (hG : G.hot = none) (F : Fs P K mg G.cls) (U : Us P w K mg base G k R R2) {f : Addr} {qual : PySem.Str} {cdv : Value} {A : Around} {outer : List Env} {s : Shared} {H : Hp} {E : XK} (hr : Room (k + 1) (A.deeper (envOfC qual (defScope (top 33)) s.heap.objs.size f cdv)))
    (tk : L2N.Takes (cxOf (L2N.CX P w) P w K mg base ["cell", "k", "once", "twice", "third"] qual (defScope (top 33)) f cdv A outer s H E) (fun cls d _ H => E cls d H)) (pp : PassesOwn (model P w) (A.deeper (envOfC qual (defScope (top 33)) s.heap.objs.size f cdv)) (envOfC qual (defScope (top 33)) s.heap.objs.size f cdv) (cxOf (L2N.CX P w) P w K mg base ["cell", "k", "once", "twice", "third"] qual (defScope (top 33)) f cdv A outer s H E).xe) :
    VSs (cxOf (L2N.CX P w) P w K mg base ["cell", "k", "once", "twice", "third"] qual (defScope (top 33)) f cdv A outer s H E) G (fun cls d _ H => E cls d H) (defBody (top 33)) (m_24 R R2) :=
  have hu := units_of hr
  have hu5 := units5_of hr
  have nd : (["cell", "k", "once", "twice", "third"] : List PySem.Str).Nodup := by decide +kernel
  (vss_cons (vs_set (i := 2) nd (by rfl) (by exact .inl rfl) (ve_bop (mod_ok) (ve_callTy (int_ok) (by rfl) F.f_int (by decide +kernel) (va_cons (ve_bop (add_ok hK) (ve_bop (add_ok hK) (ve_bop (mul_ok) (ve_var (i := 0) (by rfl) (by exact .inl rfl) (by decide +kernel) (by decide +kernel)) ve_int) (ve_bop (mul_ok) (ve_var (i := 1) (by rfl) (by exact .inl rfl) (by decide +kernel) (by decide +kernel)) ve_int)) ve_int) va_nil (by rfl)) (by decide +kernel) (by decide +kernel) (by rfl) (by rfl)) ve_int) (by rfl) (by exact .inl rfl))
  (vss_cons (vs_set (i := 3) nd (by rfl) (by exact .inl rfl) (ve_bop (mod_ok) (ve_callTy (int_ok) (by rfl) F.f_int (by decide +kernel) (va_cons (ve_bop (add_ok hK) (ve_bop (add_ok hK) (ve_bop (mul_ok) (ve_var (i := 2) (by rfl) (by exact .inl rfl) (by decide +kernel) (by decide +kernel)) (ve_var (i := 2) (by rfl) (by exact .inl rfl) (by decide +kernel) (by decide +kernel))) (ve_bop (mul_ok) (ve_var (i := 1) (by rfl) (by exact .inl rfl) (by decide +kernel) (by decide +kernel)) ve_int)) ve_int) va_nil (by rfl)) (by decide +kernel) (by decide +kernel) (by rfl) (by rfl)) ve_int) (by rfl) (by exact .inl rfl))
  (vss_cons (vs_set (i := 4) nd (by rfl) (by exact .inl rfl) (ve_bop (mod_ok) (ve_callTy (int_ok) (by rfl) F.f_int (by decide +kernel) (va_cons (ve_bop (add_ok hK) (ve_bop (add_ok hK) (ve_bop (mul_ok) (ve_var (i := 3) (by rfl) (by exact .inl rfl) (by decide +kernel) (by decide +kernel)) (ve_var (i := 3) (by rfl) (by exact .inl rfl) (by decide +kernel) (by decide +kernel))) (ve_bop (mul_ok) (ve_var (i := 2) (by rfl) (by exact .inl rfl) (by decide +kernel) (by decide +kernel)) ve_int)) ve_int) va_nil (by rfl)) (by decide +kernel) (by decide +kernel) (by rfl) (by rfl)) ve_int) (by rfl) (by exact .inl rfl))
  (vss_cons (vs_ret (ve_bop (fdiv_ok) (ve_var (i := 4) (by rfl) (by exact .inl rfl) (by decide +kernel) (by decide +kernel)) ve_int))
  vss_nil))))
theorem v_25 (hK : G.K = K) (hG : G.hot = none) (F : Fs P K mg G.cls) (U : Us P w K mg base G k R R2) {f : Addr} {qual : PySem.Str} {cdv : Value} {A : Around} {outer : List Env} {s : Shared} {H : Hp} {E : XK} (hr : Room (k + 1) (A.deeper (envOfC qual (defScope (top 34)) s.heap.objs.size f cdv)))
    (tk : L2N.Takes (cxOf (L2N.CX P w) P w K mg base ["script", "many", "told", "cell", "rest", "k", "seed"] qual (defScope (top 34)) f cdv A outer s H E) (fun cls d _ H => E cls d H)) (pp : PassesOwn (model P w) (A.deeper (envOfC qual (defScope (top 34)) s.heap.objs.size f cdv)) (envOfC qual (defScope (top 34)) s.heap.objs.size f cdv) (cxOf (L2N.CX P w) P w K mg base ["script", "many", "told", "cell", "rest", "k", "seed"] qual (defScope (top 34)) f cdv A outer s H E).xe) :
    VSs (cxOf (L2N.CX P w) P w K mg base ["script", "many", "told", "cell", "rest", "k", "seed"] qual (defScope (top 34)) f cdv A outer s H E) G (fun cls d _ H => E cls d H) (defBody (top 34)) (m_25 R R2) :=
  have hu := units_of hr
  have hu5 := units5_of hr
  have nd : (["script", "many", "told", "cell", "rest", "k", "seed"] : List PySem.Str).Nodup := by decide +kernel
  (vss_cons (vs_set (i := 2) nd (by rfl) (by exact .inl rfl) (ve_lst vas_nil) (by rfl) (by exact .inl rfl))
  (vss_cons (vs_for pp (by rfl) (vi_src hK (ve_frz (i := 0) (by rfl) (by exact .inl rfl) (by decide +kernel) (by decide +kernel))) (.ex (vg_name (i := 3) nd (by rfl) (by exact .inl rfl) (by exact .inl rfl))) (vss_cons (vs_set (i := 4) nd (by rfl) (by exact .inl rfl) (ve_callB (abs_ok) (by rfl) F.f_abs (by decide +kernel) (va_cons (ve_var (i := 3) (by rfl) (by exact .inl rfl) (by decide +kernel) (by decide +kernel)) va_nil (by rfl)) (by decide +kernel) (by decide +kernel) (by rfl) (by rfl)) (by rfl) (by exact .inl rfl))
  (vss_cons (vs_if (vt_cmp (ge_ok hK hu) (ve_var (i := 4) (by rfl) (by exact .inl rfl) (by decide +kernel) (by decide +kernel)) (ve_bop (pow_ok) ve_int ve_int) (by rfl)) (vss_cons (vs_for pp (by rfl) (vi_range1 (by rfl) F.f_range (vas_cons ve_int.vv vas_nil (by rfl))) (.ex (vg_name (i := 5) nd (by rfl) (by exact .inl rfl) (by exact .inl rfl))) (vss_cons (vs_if (vw_and (vt_cmp (gt_ok hK hu) (ve_var (i := 4) (by rfl) (by exact .inl rfl) (by decide +kernel) (by decide +kernel)) ve_int (by rfl)) (vw_and1 (vt_cmp (lt_ok hK hu) (ve_callB (len_ok hK) (by rfl) F.f_len (by decide +kernel) (va_cons (ve_var (i := 2) (by rfl) (by exact .inl rfl) (by decide +kernel) (by decide +kernel)) va_nil (by rfl)) (by decide +kernel) (by decide +kernel) (by rfl) (by rfl)) (ve_var (i := 1) (by rfl) (by exact .inl rfl) (by decide +kernel) (by decide +kernel)) (by rfl)))).vt (vss_cons (vs_expr (ve_wr (T := .list) (i := 2) (append_ok) (by rfl) (by exact .inl rfl) (by decide +kernel) (by decide +kernel) PySem.F.plainAttrs_list PySem.F.slot_list_append PySem.F.type_list_append (vas_cons (ve_bop (mod_ok) (ve_callTy (int_ok) (by rfl) F.f_int (by decide +kernel) (va_cons (ve_var (i := 4) (by rfl) (by exact .inl rfl) (by decide +kernel) (by decide +kernel)) va_nil (by rfl)) (by decide +kernel) (by decide +kernel) (by rfl) (by rfl)) ve_int).vv vas_nil (by rfl)) (by rfl) (by rfl) (by rfl) (by rfl) (by rfl)) (by rfl))
  (vss_cons (vs_set (i := 4) nd (by rfl) (by exact .inl rfl) (ve_bop (fdiv_ok) (ve_var (i := 4) (by rfl) (by exact .inl rfl) (by decide +kernel) (by decide +kernel)) ve_int) (by rfl) (by exact .inl rfl))
  vss_nil)) vss_nil)
  vss_nil) (fun _ => (by rfl)))
  vss_nil) vss_nil)
  vss_nil)) (fun _ => (by rfl)))
  (vss_cons (vs_set (i := 6) nd (by rfl) (by exact .inl rfl) ve_int (by rfl) (by exact .inl rfl))
  (vss_cons (vs_for pp (by rfl) (vi_src hK (ve_frz (i := 0) (by rfl) (by exact .inl rfl) (by decide +kernel) (by decide +kernel))) (.ex (vg_name (i := 3) nd (by rfl) (by exact .inl rfl) (by exact .inl rfl))) (vss_cons (vs_set (i := 6) nd (by rfl) (by exact .inl rfl) (ve_bop (mod_ok) (ve_callTy (int_ok) (by rfl) F.f_int (by decide +kernel) (va_cons (ve_bop (add_ok hK) (ve_bop (mul_ok) (ve_var (i := 6) (by rfl) (by exact .inl rfl) (by decide +kernel) (by decide +kernel)) ve_int) (ve_callB (abs_ok) (by rfl) F.f_abs (by decide +kernel) (va_cons (ve_var (i := 3) (by rfl) (by exact .inl rfl) (by decide +kernel) (by decide +kernel)) va_nil (by rfl)) (by decide +kernel) (by decide +kernel) (by rfl) (by rfl))) va_nil (by rfl)) (by decide +kernel) (by decide +kernel) (by rfl) (by rfl)) ve_int) (by rfl) (by exact .inl rfl))
  vss_nil) (fun _ => (by rfl)))
  (vss_cons (vs_for pp (by rfl) (vi_range1 (by rfl) F.f_range (vas_cons (ve_frz (i := 1) (by rfl) (by exact .inl rfl) (by decide +kernel) (by decide +kernel)).vv vas_nil (by rfl))) (.ex (vg_name (i := 5) nd (by rfl) (by exact .inl rfl) (by exact .inl rfl))) (vss_cons (vs_if (vt_cmp (lt_ok hK hu) (ve_callB (len_ok hK) (by rfl) F.f_len (by decide +kernel) (va_cons (ve_var (i := 2) (by rfl) (by exact .inl rfl) (by decide +kernel) (by decide +kernel)) va_nil (by rfl)) (by decide +kernel) (by decide +kernel) (by rfl) (by rfl)) (ve_var (i := 1) (by rfl) (by exact .inl rfl) (by decide +kernel) (by decide +kernel)) (by rfl)) (vss_cons (vs_expr (ve_wr (T := .list) (i := 2) (append_ok) (by rfl) (by exact .inl rfl) (by decide +kernel) (by decide +kernel) PySem.F.plainAttrs_list PySem.F.slot_list_append PySem.F.type_list_append (vas_cons (ve_call U.f__law_mix hr tk (by rfl) (va_cons (ve_var (i := 6) (by rfl) (by exact .inl rfl) (by decide +kernel) (by decide +kernel)) (va_cons (ve_var (i := 5) (by rfl) (by exact .inl rfl) (by decide +kernel) (by decide +kernel)) va_nil (by rfl)) (by rfl)) (by decide +kernel) (by rfl) (by rfl)).vv vas_nil (by rfl)) (by rfl) (by rfl) (by rfl) (by rfl) (by rfl)) (by rfl))
  vss_nil) vss_nil)
  vss_nil) (fun _ => (by rfl)))
  (vss_cons (vs_retV (i := 2) (by rfl) (by exact .inl rfl) (by decide +kernel) (by decide +kernel))
  vss_nil))))))
theorem v_26 (hK : G.K = K) (hG : G.hot = none) (F : Fs P K mg G.cls) (U : Us P w K mg base G k R R2) {f : Addr} {qual : PySem.Str} {cdv : Value} {A : Around} {outer : List Env} {s : Shared} {H : Hp} {E : XK} (hr : Room (k + 1) (A.deeper (envOfC qual (defScope (top 35)) s.heap.objs.size f cdv)))
    (tk : L2N.Takes (cxOf (L2N.CX P w) P w K mg base ["draws", "k", "many"] qual (defScope (top 35)) f cdv A outer s H E) (fun cls d _ H => E cls d H)) (pp : PassesOwn (model P w) (A.deeper (envOfC qual (defScope (top 35)) s.heap.objs.size f cdv)) (envOfC qual (defScope (top 35)) s.heap.objs.size f cdv) (cxOf (L2N.CX P w) P w K mg base ["draws", "k", "many"] qual (defScope (top 35)) f cdv A outer s H E).xe) :
    VSs (cxOf (L2N.CX P w) P w K mg base ["draws", "k", "many"] qual (defScope (top 35)) f cdv A outer s H E) G (fun cls d _ H => E cls d H) (defBody (top 35)) (m_26 R R2) :=
  have hu := units_of hr
  have hu5 := units5_of hr
  have nd : (["draws", "k", "many"] : List PySem.Str).Nodup := by decide +kernel
  (vss_cons (vs_ret (ve_bop (mod_ok) (ve_callTy (int_ok) (by rfl) F.f_int (by decide +kernel) (va_cons (ve_ix hK (ve_var (i := 0) (by rfl) (by exact .inl rfl) (by decide +kernel) (by decide +kernel)) (ve_var (i := 1) (by rfl) (by exact .inl rfl) (by decide +kernel) (by decide +kernel)) (fun _ _ => (by rfl))) va_nil (by rfl)) (by decide +kernel) (by decide +kernel) (by rfl) (by rfl)) (ve_var (i := 2) (by rfl) (by exact .inl rfl) (by decide +kernel) (by decide +kernel))))
  vss_nil)
theorem v_27 (hK : G.K = K) (hG : G.hot = none) (F : Fs P K mg G.cls) (U : Us P w K mg base G k R R2) {f : Addr} {qual : PySem.Str} {cdv : Value} {A : Around} {outer : List Env} {s : Shared} {H : Hp} {E : XK} (hr : Room (k + 1) (A.deeper (envOfC qual (defScope (top 36)) s.heap.objs.size f cdv)))
    (tk : L2N.Takes (cxOf (L2N.CX P w) P w K mg base ["actual", "due", "k"] qual (defScope (top 36)) f cdv A outer s H E) (fun cls d _ H => E cls d H)) (pp : PassesOwn (model P w) (A.deeper (envOfC qual (defScope (top 36)) s.heap.objs.size f cdv)) (envOfC qual (defScope (top 36)) s.heap.objs.size f cdv) (cxOf (L2N.CX P w) P w K mg base ["actual", "due", "k"] qual (defScope (top 36)) f cdv A outer s H E).xe) :
    VSs (cxOf (L2N.CX P w) P w K mg base ["actual", "due", "k"] qual (defScope (top 36)) f cdv A outer s H E) G (fun cls d _ H => E cls d H) (defBody (top 36)) (m_27 R R2) :=
  have hu := units_of hr
  have hu5 := units5_of hr
  have nd : (["actual", "due", "k"] : List PySem.Str).Nodup := by decide +kernel
  (vss_cons (vs_if (vt_cmp (is_ok) (ve_var (i := 1) (by rfl) (by exact .inl rfl) (by decide +kernel) (by decide +kernel)) ve_non (by rfl)) (vss_cons (vs_ret (ve_cmp (is_ok) (ve_var (i := 0) (by rfl) (by exact .inl rfl) (by decide +kernel) (by decide +kernel)) ve_non (by rfl)))
  vss_nil) vss_nil)
  (vss_cons (vs_if (vt_truth hK (ve_isi hK F.is_bool (.ty _) (by rfl) F.f_isinstance (ve_var (i := 1) (by rfl) (by exact .inl rfl) (by decide +kernel) (by decide +kernel)) (pe_bltn (v := (.ty "bool")) (u := .type "bool") (by rfl) F.f_bool (by decide +kernel) (by rfl) (by decide +kernel) (by decide +kernel)) (by rfl) (by rfl) (by rfl)) (fun _ => (by rfl))) (vss_cons (vs_ret (ve_and (ve_isi hK F.is_bool (.ty _) (by rfl) F.f_isinstance (ve_var (i := 0) (by rfl) (by exact .inl rfl) (by decide +kernel) (by decide +kernel)) (pe_bltn (v := (.ty "bool")) (u := .type "bool") (by rfl) F.f_bool (by decide +kernel) (by rfl) (by decide +kernel) (by decide +kernel)) (by rfl) (by rfl) (by rfl)) (ve_one (ve_cmp (eq_ok hK hu) (ve_var (i := 0) (by rfl) (by exact .inl rfl) (by decide +kernel) (by decide +kernel)) (ve_var (i := 1) (by rfl) (by exact .inl rfl) (by decide +kernel) (by decide +kernel)) (by rfl)))))
  vss_nil) vss_nil)
  (vss_cons (vs_if (vt_truth hK (ve_isi hK F.is_int (.ty _) (by rfl) F.f_isinstance (ve_var (i := 1) (by rfl) (by exact .inl rfl) (by decide +kernel) (by decide +kernel)) (pe_bltn (v := (.ty "int")) (u := .type "int") (by rfl) F.f_int (by decide +kernel) (by rfl) (by decide +kernel) (by decide +kernel)) (by rfl) (by rfl) (by rfl)) (fun _ => (by rfl))) (vss_cons (vs_ret (ve_and (ve_isi hK F.is_int (.ty _) (by rfl) F.f_isinstance (ve_var (i := 0) (by rfl) (by exact .inl rfl) (by decide +kernel) (by decide +kernel)) (pe_bltn (v := (.ty "int")) (u := .type "int") (by rfl) F.f_int (by decide +kernel) (by rfl) (by decide +kernel) (by decide +kernel)) (by rfl) (by rfl) (by rfl)) (ve_and (ve_not (ve_isi hK F.is_bool (.ty _) (by rfl) F.f_isinstance (ve_var (i := 0) (by rfl) (by exact .inl rfl) (by decide +kernel) (by decide +kernel)) (pe_bltn (v := (.ty "bool")) (u := .type "bool") (by rfl) F.f_bool (by decide +kernel) (by rfl) (by decide +kernel) (by decide +kernel)) (by rfl) (by rfl) (by rfl))) (ve_one (ve_cmp (eq_ok hK hu) (ve_var (i := 0) (by rfl) (by exact .inl rfl) (by decide +kernel) (by decide +kernel)) (ve_var (i := 1) (by rfl) (by exact .inl rfl) (by decide +kernel) (by decide +kernel)) (by rfl))))))
  vss_nil) vss_nil)
  (vss_cons (vs_if (vt_truth hK (ve_isi hK F.is_str (.ty _) (by rfl) F.f_isinstance (ve_var (i := 1) (by rfl) (by exact .inl rfl) (by decide +kernel) (by decide +kernel)) (pe_bltn (v := (.ty "str")) (u := .type "str") (by rfl) F.f_str (by decide +kernel) (by rfl) (by decide +kernel) (by decide +kernel)) (by rfl) (by rfl) (by rfl)) (fun _ => (by rfl))) (vss_cons (vs_ret (ve_and (ve_isi hK F.is_str (.ty _) (by rfl) F.f_isinstance (ve_var (i := 0) (by rfl) (by exact .inl rfl) (by decide +kernel) (by decide +kernel)) (pe_bltn (v := (.ty "str")) (u := .type "str") (by rfl) F.f_str (by decide +kernel) (by rfl) (by decide +kernel) (by decide +kernel)) (by rfl) (by rfl) (by rfl)) (ve_one (ve_cmp (eq_ok hK hu) (ve_var (i := 0) (by rfl) (by exact .inl rfl) (by decide +kernel) (by decide +kernel)) (ve_var (i := 1) (by rfl) (by exact .inl rfl) (by decide +kernel) (by decide +kernel)) (by rfl)))))
  vss_nil) vss_nil)
  (vss_cons (vs_if (vw_or (vt_not (vt_truth hK (ve_isi hK F.is_tuple (.ty _) (by rfl) F.f_isinstance (ve_var (i := 0) (by rfl) (by exact .inl rfl) (by decide +kernel) (by decide +kernel)) (pe_bltn (v := (.ty "tuple")) (u := .type "tuple") (by rfl) F.f_tuple (by decide +kernel) (by rfl) (by decide +kernel) (by decide +kernel)) (by rfl) (by rfl) (by rfl)) (fun _ => (by rfl)))) (vw_or1 (vt_cmp (ne_ok hK hu) (ve_callB (len_ok hK) (by rfl) F.f_len (by decide +kernel) (va_cons (ve_var (i := 0) (by rfl) (by exact .inl rfl) (by decide +kernel) (by decide +kernel)) va_nil (by rfl)) (by decide +kernel) (by decide +kernel) (by rfl) (by rfl)) (ve_callB (len_ok hK) (by rfl) F.f_len (by decide +kernel) (va_cons (ve_var (i := 1) (by rfl) (by exact .inl rfl) (by decide +kernel) (by decide +kernel)) va_nil (by rfl)) (by decide +kernel) (by decide +kernel) (by rfl) (by rfl)) (by rfl)))).vt (vss_cons (vs_ret ve_bl)
  vss_nil) vss_nil)
  (vss_cons (vs_for pp (by rfl) (vi_range1 (by rfl) F.f_range (vas_cons (ve_callB (len_ok hK) (by rfl) F.f_len (by decide +kernel) (va_cons (ve_var (i := 1) (by rfl) (by exact .inl rfl) (by decide +kernel) (by decide +kernel)) va_nil (by rfl)) (by decide +kernel) (by decide +kernel) (by rfl) (by rfl)).vv vas_nil (by rfl))) (.ex (vg_name (i := 2) nd (by rfl) (by exact .inl rfl) (by exact .inl rfl))) (vss_cons (vs_if (vt_not (vt_truth hK (ve_call U.f__law_same hr tk (by rfl) (va_cons (ve_ix hK (ve_var (i := 0) (by rfl) (by exact .inl rfl) (by decide +kernel) (by decide +kernel)) (ve_var (i := 2) (by rfl) (by exact .inl rfl) (by decide +kernel) (by decide +kernel)) (fun _ _ => (by rfl))) (va_cons (ve_ix hK (ve_var (i := 1) (by rfl) (by exact .inl rfl) (by decide +kernel) (by decide +kernel)) (ve_var (i := 2) (by rfl) (by exact .inl rfl) (by decide +kernel) (by decide +kernel)) (fun _ _ => (by rfl))) va_nil (by rfl)) (by rfl)) (by decide +kernel) (by rfl) (by rfl)) (fun _ => (by rfl)))) (vss_cons (vs_ret ve_bl)
  vss_nil) vss_nil)
  vss_nil) (fun _ => (by rfl)))
  (vss_cons (vs_ret ve_bl)
  vss_nil)))))))
theorem v_28 (hK : G.K = K) (hG : G.hot = none) (F : Fs P K mg G.cls) (U : Us P w K mg base G k R R2) {f : Addr} {qual : PySem.Str} {cdv : Value} {A : Around} {outer : List Env} {s : Shared} {H : Hp} {E : XK} (hr : Room (k + 1) (A.deeper (envOfC qual (defScope (top 37)) s.heap.objs.size f cdv)))
    (tk : L2N.Takes (cxOf (L2N.CX P w) P w K mg base ["count", "draw", "left", "text", "k"] qual (defScope (top 37)) f cdv A outer s H E) (fun cls d _ H => E cls d H)) (pp : PassesOwn (model P w) (A.deeper (envOfC qual (defScope (top 37)) s.heap.objs.size f cdv)) (envOfC qual (defScope (top 37)) s.heap.objs.size f cdv) (cxOf (L2N.CX P w) P w K mg base ["count", "draw", "left", "text", "k"] qual (defScope (top 37)) f cdv A outer s H E).xe) :
    VSs (cxOf (L2N.CX P w) P w K mg base ["count", "draw", "left", "text", "k"] qual (defScope (top 37)) f cdv A outer s H E) G (fun cls d _ H => E cls d H) (defBody (top 37)) (m_28 R R2) :=
  have hu := units_of hr
  have hu5 := units5_of hr
  have nd : (["count", "draw", "left", "text", "k"] : List PySem.Str).Nodup := by decide +kernel
  (vss_cons (vs_set (i := 2) nd (by rfl) (by exact .inl rfl) (ve_callTy (listS_ok (by rfl) hK) (by rfl) F.f_list (by decide +kernel) (va_cons (ve_slice hK (ve_str (s := [65, 66, 67, 68, 69, 70]) (by rfl)) vp_none (vp_some (ve_var (i := 0) (by rfl) (by exact .inl rfl) (by decide +kernel) (by decide +kernel)))) va_nil (by rfl)) (by decide +kernel) (by decide +kernel) (by rfl) (by rfl)) (by rfl) (by exact .inl rfl))
  (vss_cons (vs_set (i := 3) nd (by rfl) (by exact .inl rfl) (ve_str (s := []) (by rfl)) (by rfl) (by exact .inl rfl))
  (vss_cons (vs_for pp (by rfl) (vi_range1 (by rfl) F.f_range (vas_cons (ve_frz (i := 0) (by rfl) (by exact .inl rfl) (by decide +kernel) (by decide +kernel)).vv vas_nil (by rfl))) (.ex (vg_name (i := 4) nd (by rfl) (by exact .inl rfl) (by exact .inl rfl))) (vss_cons (vs_set (i := 3) nd (by rfl) (by exact .inl rfl) (ve_bop (add_ok hK) (ve_var (i := 3) (by rfl) (by exact .inl rfl) (by decide +kernel) (by decide +kernel)) (ve_wr (T := .list) (i := 2) (pop_ok) (by rfl) (by exact .inl rfl) (by decide +kernel) (by decide +kernel) PySem.F.plainAttrs_list PySem.F.slot_list_pop PySem.F.type_list_pop (vas_cons (ve_bop (mod_ok) (ve_callTy (int_ok) (by rfl) F.f_int (by decide +kernel) (va_cons (ve_var (i := 1) (by rfl) (by exact .inl rfl) (by decide +kernel) (by decide +kernel)) va_nil (by rfl)) (by decide +kernel) (by decide +kernel) (by rfl) (by rfl)) (ve_callB (len_ok hK) (by rfl) F.f_len (by decide +kernel) (va_cons (ve_var (i := 2) (by rfl) (by exact .inl rfl) (by decide +kernel) (by decide +kernel)) va_nil (by rfl)) (by decide +kernel) (by decide +kernel) (by rfl) (by rfl))).vv vas_nil (by rfl)) (by rfl) (by rfl) (by rfl) (by rfl) (by rfl))) (by rfl) (by exact .inl rfl))
  (vss_cons (vs_set (i := 1) nd (by rfl) (by exact .inl rfl) (ve_bop (fdiv_ok) (ve_var (i := 1) (by rfl) (by exact .inl rfl) (by decide +kernel) (by decide +kernel)) (ve_bop (sub_ok) (ve_var (i := 0) (by rfl) (by exact .inl rfl) (by decide +kernel) (by decide +kernel)) (ve_var (i := 4) (by rfl) (by exact .inl rfl) (by decide +kernel) (by decide +kernel)))) (by rfl) (by exact .inl rfl))
  vss_nil)) (fun _ => (by rfl)))
  (vss_cons (vs_retV (i := 3) (by rfl) (by exact .inl rfl) (by decide +kernel) (by decide +kernel))
  vss_nil))))
theorem v_29 (hK : G.K = K) (hG : G.hot = none) (F : Fs P K mg G.cls) (U : Us P w K mg base G k R R2) {f : Addr} {qual : PySem.Str} {cdv : Value} {A : Around} {outer : List Env} {s : Shared} {H : Hp} {E : XK} (hr : Room (k + 1) (A.deeper (envOfC qual (defScope (top 38)) s.heap.objs.size f cdv)))
    (tk : L2N.Takes (cxOf (L2N.CX P w) P w K mg base ["count", "told", "k", "longer", "text", "letter"] qual (defScope (top 38)) f cdv A outer s H E) (fun cls d _ H => E cls d H)) (pp : PassesOwn (model P w) (A.deeper (envOfC qual (defScope (top 38)) s.heap.objs.size f cdv)) (envOfC qual (defScope (top 38)) s.heap.objs.size f cdv) (cxOf (L2N.CX P w) P w K mg base ["count", "told", "k", "longer", "text", "letter"] qual (defScope (top 38)) f cdv A outer s H E).xe) :
    VSs (cxOf (L2N.CX P w) P w K mg base ["count", "told", "k", "longer", "text", "letter"] qual (defScope (top 38)) f cdv A outer s H E) G (fun cls d _ H => E cls d H) (defBody (top 38)) (m_29 R R2) :=
  have hu := units_of hr
  have hu5 := units5_of hr
  have nd : (["count", "told", "k", "longer", "text", "letter"] : List PySem.Str).Nodup := by decide +kernel
  (vss_cons (vs_set (i := 1) nd (by rfl) (by exact .inl rfl) (ve_lst (vas_cons (ve_str (s := []) (by rfl)).vv vas_nil (by rfl))) (by rfl) (by exact .inl rfl))
  (vss_cons (vs_for pp (by rfl) (vi_range1 (by rfl) F.f_range (vas_cons (ve_frz (i := 0) (by rfl) (by exact .inl rfl) (by decide +kernel) (by decide +kernel)).vv vas_nil (by rfl))) (.ex (vg_name (i := 2) nd (by rfl) (by exact .inl rfl) (by exact .inl rfl))) (vss_cons (vs_set (i := 3) nd (by rfl) (by exact .inl rfl) (ve_lst vas_nil) (by rfl) (by exact .inl rfl))
  (vss_cons (vs_for pp (by rfl) (vi_src hK (ve_frz (i := 1) (by rfl) (by exact .inl rfl) (by decide +kernel) (by decide +kernel))) (.ex (vg_name (i := 4) nd (by rfl) (by exact .inl rfl) (by exact .inl rfl))) (vss_cons (vs_for pp (by rfl) (vi_src hK (ve_slice hK (ve_str (s := [65, 66, 67, 68, 69, 70]) (by rfl)) vp_none (vp_some (ve_var (i := 0) (by rfl) (by exact .inl rfl) (by decide +kernel) (by decide +kernel))))) (.ex (vg_name (i := 5) nd (by rfl) (by exact .inl rfl) (by exact .inl rfl))) (vss_cons (vs_if (vt_cmp (notIn_ok hK hu5) (ve_var (i := 5) (by rfl) (by exact .inl rfl) (by decide +kernel) (by decide +kernel)) (ve_var (i := 4) (by rfl) (by exact .inl rfl) (by decide +kernel) (by decide +kernel)) (by rfl)) (vss_cons (vs_expr (ve_wr (T := .list) (i := 3) (append_ok) (by rfl) (by exact .inl rfl) (by decide +kernel) (by decide +kernel) PySem.F.plainAttrs_list PySem.F.slot_list_append PySem.F.type_list_append (vas_cons (ve_bop (add_ok hK) (ve_var (i := 4) (by rfl) (by exact .inl rfl) (by decide +kernel) (by decide +kernel)) (ve_var (i := 5) (by rfl) (by exact .inl rfl) (by decide +kernel) (by decide +kernel))).vv vas_nil (by rfl)) (by rfl) (by rfl) (by rfl) (by rfl) (by rfl)) (by rfl))
  vss_nil) vss_nil)
  vss_nil) (fun _ => (by rfl)))
  vss_nil) (fun _ => (by rfl)))
  (vss_cons (vs_set (i := 1) nd (by rfl) (by exact .inl rfl) (ve_callTy (listS_ok (by rfl) hK) (by rfl) F.f_list (by decide +kernel) (va_cons (ve_var (i := 3) (by rfl) (by exact .inl rfl) (by decide +kernel) (by decide +kernel)) va_nil (by rfl)) (by decide +kernel) (by decide +kernel) (by rfl) (by rfl)) (by rfl) (by exact .inl rfl))
  vss_nil))) (fun _ => (by rfl)))
  (vss_cons (vs_retV (i := 1) (by rfl) (by exact .inl rfl) (by decide +kernel) (by decide +kernel))
  vss_nil)))
theorem v_30 (hK : G.K = K) (hG : G.hot = none) (F : Fs P K mg G.cls) (U : Us P w K mg base G k R R2) {f : Addr} {qual : PySem.Str} {cdv : Value} {A : Around} {outer : List Env} {s : Shared} {H : Hp} {E : XK} (hr : Room (k + 1) (A.deeper (envOfC qual (defScope (top 39)) s.heap.objs.size f cdv)))
    (tk : L2N.Takes (cxOf (L2N.CX P w) P w K mg base ["count", "draw", "spare", "text", "k"] qual (defScope (top 39)) f cdv A outer s H E) (fun cls d _ H => E cls d H)) (pp : PassesOwn (model P w) (A.deeper (envOfC qual (defScope (top 39)) s.heap.objs.size f cdv)) (envOfC qual (defScope (top 39)) s.heap.objs.size f cdv) (cxOf (L2N.CX P w) P w K mg base ["count", "draw", "spare", "text", "k"] qual (defScope (top 39)) f cdv A outer s H E).xe) :
    VSs (cxOf (L2N.CX P w) P w K mg base ["count", "draw", "spare", "text", "k"] qual (defScope (top 39)) f cdv A outer s H E) G (fun cls d _ H => E cls d H) (defBody (top 39)) (m_30 R R2) :=
  have hu := units_of hr
  have hu5 := units5_of hr
  have nd : (["count", "draw", "spare", "text", "k"] : List PySem.Str).Nodup := by decide +kernel
  (vss_cons (vs_set (i := 3) nd (by rfl) (by exact .inl rfl) (ve_str (s := []) (by rfl)) (by rfl) (by exact .inl rfl))
  (vss_cons (vs_for pp (by rfl) (vi_range1 (by rfl) F.f_range (vas_cons (ve_frz (i := 0) (by rfl) (by exact .inl rfl) (by decide +kernel) (by decide +kernel)).vv vas_nil (by rfl))) (.ex (vg_name (i := 4) nd (by rfl) (by exact .inl rfl) (by exact .inl rfl))) (vss_cons (vs_set (i := 3) nd (by rfl) (by exact .inl rfl) (ve_bop (add_ok hK) (ve_var (i := 3) (by rfl) (by exact .inl rfl) (by decide +kernel) (by decide +kernel)) (ve_ifExp (vt_cmp (eq_ok hK hu) (ve_bop (mod_ok) (ve_callTy (int_ok) (by rfl) F.f_int (by decide +kernel) (va_cons (ve_var (i := 2) (by rfl) (by exact .inl rfl) (by decide +kernel) (by decide +kernel)) va_nil (by rfl)) (by decide +kernel) (by decide +kernel) (by rfl) (by rfl)) ve_int) ve_int (by rfl)) (ve_ix hK (ve_str (s := [43, 45, 46]) (by rfl)) (ve_bop (mod_ok) (ve_callTy (int_ok) (by rfl) F.f_int (by decide +kernel) (va_cons (ve_var (i := 1) (by rfl) (by exact .inl rfl) (by decide +kernel) (by decide +kernel)) va_nil (by rfl)) (by decide +kernel) (by decide +kernel) (by rfl) (by rfl)) ve_int) (fun _ _ => (by rfl))) (ve_str (s := [46]) (by rfl)))) (by rfl) (by exact .inl rfl))
  (vss_cons (vs_set (i := 1) nd (by rfl) (by exact .inl rfl) (ve_bop (fdiv_ok) (ve_var (i := 1) (by rfl) (by exact .inl rfl) (by decide +kernel) (by decide +kernel)) ve_int) (by rfl) (by exact .inl rfl))
  (vss_cons (vs_set (i := 2) nd (by rfl) (by exact .inl rfl) (ve_bop (fdiv_ok) (ve_var (i := 2) (by rfl) (by exact .inl rfl) (by decide +kernel) (by decide +kernel)) ve_int) (by rfl) (by exact .inl rfl))
  vss_nil))) (fun _ => (by rfl)))
  (vss_cons (vs_retV (i := 3) (by rfl) (by exact .inl rfl) (by decide +kernel) (by decide +kernel))
  vss_nil)))
theorem v_31 (hK : G.K = K) (hG : G.hot = none) (F : Fs P K mg G.cls) (U : Us P w K mg base G k R R2) {f : Addr} {qual : PySem.Str} {cdv : Value} {A : Around} {outer : List Env} {s : Shared} {H : Hp} {E : XK} (hr : Room (k + 1) (A.deeper (envOfC qual (defScope (top 40)) s.heap.objs.size f cdv)))
    (tk : L2N.Takes (cxOf (L2N.CX P w) P w K mg base ["line", "mark"] qual (defScope (top 40)) f cdv A outer s H E) (fun cls d _ H => E cls d H)) (pp : PassesOwn (model P w) (A.deeper (envOfC qual (defScope (top 40)) s.heap.objs.size f cdv)) (envOfC qual (defScope (top 40)) s.heap.objs.size f cdv) (cxOf (L2N.CX P w) P w K mg base ["line", "mark"] qual (defScope (top 40)) f cdv A outer s H E).xe) :
    VSs (cxOf (L2N.CX P w) P w K mg base ["line", "mark"] qual (defScope (top 40)) f cdv A outer s H E) G (fun cls d _ H => E cls d H) (defBody (top 40)) (m_31 R R2) :=
  have hu := units_of hr
  have hu5 := units5_of hr
  have nd : (["line", "mark"] : List PySem.Str).Nodup := by decide +kernel
  (vss_cons (vs_ret (ve_bm (T := .str) (join_ok hK) PySem.F.plainAttrs_str PySem.F.slot_str_join PySem.F.type_str_join (ve_str (s := []) (by rfl)) (va_cons (ve_lc (own := [("mark", 1)]) (is := [1]) (by rfl) nd (vi_src hK (ve_frz (i := 0) (by rfl) (by exact .inl rfl) (by decide +kernel) (by decide +kernel))) (blkOk_by (N := ["line", "mark"]) (sc := defScope (top 40)) (by decide +kernel)) (by decide +kernel) (fun _ _ _ _ _ => .ex (vg_name (i := 1) nd (by rfl) (by exact .inl rfl) (by exact .inr rfl))) (fun _ _ _ _ _ => vts_nil) (fun _ _ _ _ _ => (ve_ifExp (vt_cmp (eq_ok hK hu) (ve_var (i := 1) (by rfl) (by exact .inl rfl) (by decide +kernel) (by decide +kernel)) (ve_str (s := [43]) (by rfl)) (by rfl)) (ve_str (s := [45]) (by rfl)) (ve_ifExp (vt_cmp (eq_ok hK hu) (ve_var (i := 1) (by rfl) (by exact .inl rfl) (by decide +kernel) (by decide +kernel)) (ve_str (s := [45]) (by rfl)) (by rfl)) (ve_str (s := [43]) (by rfl)) (ve_str (s := [46]) (by rfl)))).vv) (fun _ => (by rfl))) va_nil (by rfl)) (by rfl) (by rfl) (by rfl) (by rfl) (by rfl)))
  vss_nil)
theorem v_32 (hK : G.K = K) (hG : G.hot = none) (F : Fs P K mg G.cls) (U : Us P w K mg base G k R R2) {f : Addr} {qual : PySem.Str} {cdv : Value} {A : Around} {outer : List Env} {s : Shared} {H : Hp} {E : XK} (hr : Room (k + 1) (A.deeper (envOfC qual (defScope (top 41)) s.heap.objs.size f cdv)))
    (tk : L2N.Takes (cxOf (L2N.CX P w) P w K mg base ["order", "line", "letter", "mark"] qual (defScope (top 41)) f cdv A outer s H E) (fun cls d _ H => E cls d H)) (pp : PassesOwn (model P w) (A.deeper (envOfC qual (defScope (top 41)) s.heap.objs.size f cdv)) (envOfC qual (defScope (top 41)) s.heap.objs.size f cdv) (cxOf (L2N.CX P w) P w K mg base ["order", "line", "letter", "mark"] qual (defScope (top 41)) f cdv A outer s H E).xe) :
    VSs (cxOf (L2N.CX P w) P w K mg base ["order", "line", "letter", "mark"] qual (defScope (top 41)) f cdv A outer s H E) G (fun cls d _ H => E cls d H) (defBody (top 41)) (m_32 R R2) :=
  have hu := units_of hr
  have hu5 := units5_of hr
  have nd : (["order", "line", "letter", "mark"] : List PySem.Str).Nodup := by decide +kernel
  (vss_cons (vs_for pp (by rfl) (vi_src hK (ve_frz (i := 0) (by rfl) (by exact .inl rfl) (by decide +kernel) (by decide +kernel))) (.ex (vg_name (i := 2) nd (by rfl) (by exact .inl rfl) (by exact .inl rfl))) (vss_cons (vs_set (i := 3) nd (by rfl) (by exact .inl rfl) (ve_ix hK (ve_var (i := 1) (by rfl) (by exact .inl rfl) (by decide +kernel) (by decide +kernel)) (ve_bm (T := .str) sindex_ok PySem.F.plainAttrs_str PySem.F.slot_str_index PySem.F.type_str_index (ve_str (s := [65, 66, 67, 68, 69, 70]) (by rfl)) (va_cons (ve_var (i := 2) (by rfl) (by exact .inl rfl) (by decide +kernel) (by decide +kernel)) va_nil (by rfl)) (by rfl) (by rfl) (by rfl) (by rfl) (by rfl)) (fun _ _ => (by rfl))) (by rfl) (by exact .inl rfl))
  (vss_cons (vs_if (vt_cmp (eq_ok hK hu) (ve_var (i := 3) (by rfl) (by exact .inl rfl) (by decide +kernel) (by decide +kernel)) (ve_str (s := [43]) (by rfl)) (by rfl)) (vss_cons (vs_ret ve_bl)
  vss_nil) vss_nil)
  (vss_cons (vs_if (vt_cmp (eq_ok hK hu) (ve_var (i := 3) (by rfl) (by exact .inl rfl) (by decide +kernel) (by decide +kernel)) (ve_str (s := [45]) (by rfl)) (by rfl)) (vss_cons (vs_ret ve_bl)
  vss_nil) vss_nil)
  vss_nil))) (fun _ => (by rfl)))
  (vss_cons (vs_ret ve_bl)
  vss_nil))
theorem v_33 (hK : G.K = K) (hG : G.hot = none) (F : Fs P K mg G.cls) (U : Us P w K mg base G k R R2) {f : Addr} {qual : PySem.Str} {cdv : Value} {A : Around} {outer : List Env} {s : Shared} {H : Hp} {E : XK} (hr : Room (k + 1) (A.deeper (envOfC qual (defScope (top 42)) s.heap.objs.size f cdv)))
    (tk : L2N.Takes (cxOf (L2N.CX P w) P w K mg base ["count", "order", "size", "lines", "k", "marks"] qual (defScope (top 42)) f cdv A outer s H E) (fun cls d _ H => E cls d H)) (pp : PassesOwn (model P w) (A.deeper (envOfC qual (defScope (top 42)) s.heap.objs.size f cdv)) (envOfC qual (defScope (top 42)) s.heap.objs.size f cdv) (cxOf (L2N.CX P w) P w K mg base ["count", "order", "size", "lines", "k", "marks"] qual (defScope (top 42)) f cdv A outer s H E).xe) :
    VSs (cxOf (L2N.CX P w) P w K mg base ["count", "order", "size", "lines", "k", "marks"] qual (defScope (top 42)) f cdv A outer s H E) G (fun cls d _ H => E cls d H) (defBody (top 42)) (m_33 R R2) :=
  have hu := units_of hr
  have hu5 := units5_of hr
  have nd : (["count", "order", "size", "lines", "k", "marks"] : List PySem.Str).Nodup := by decide +kernel
  (vss_cons (vs_set (i := 3) nd (by rfl) (by exact .inl rfl) (ve_lst vas_nil) (by rfl) (by exact .inl rfl))
  (vss_cons (vs_for pp (by rfl) (vi_range1 (by rfl) F.f_range (vas_cons (ve_frz (i := 2) (by rfl) (by exact .inl rfl) (by decide +kernel) (by decide +kernel)).vv vas_nil (by rfl))) (.ex (vg_name (i := 4) nd (by rfl) (by exact .inl rfl) (by exact .inl rfl))) (vss_cons (vs_set (i := 5) nd (by rfl) (by exact .inl rfl) (ve_bop (mul_ok) (ve_lst (vas_cons (ve_str (s := [46]) (by rfl)).vv vas_nil (by rfl))) (ve_var (i := 0) (by rfl) (by exact .inl rfl) (by decide +kernel) (by decide +kernel))) (by rfl) (by exact .inl rfl))
  (vss_cons (vs_store (i := 5) setL_ok (by rfl) (by exact .inl rfl) (by decide +kernel) (by decide +kernel) (ve_bm (T := .str) sindex_ok PySem.F.plainAttrs_str PySem.F.slot_str_index PySem.F.type_str_index (ve_str (s := [65, 66, 67, 68, 69, 70]) (by rfl)) (va_cons (ve_ix hK (ve_var (i := 1) (by rfl) (by exact .inl rfl) (by decide +kernel) (by decide +kernel)) (ve_ifExp (vt_cmp (gt_ok hK hu) (ve_var (i := 4) (by rfl) (by exact .inl rfl) (by decide +kernel) (by decide +kernel)) ve_int (by rfl)) (ve_bop (sub_ok) (ve_var (i := 4) (by rfl) (by exact .inl rfl) (by decide +kernel) (by decide +kernel)) ve_int) (ve_bop (sub_ok) (ve_var (i := 2) (by rfl) (by exact .inl rfl) (by decide +kernel) (by decide +kernel)) ve_int)) (fun _ _ => (by rfl))) va_nil (by rfl)) (by rfl) (by rfl) (by rfl) (by rfl) (by rfl)) (ve_str (s := [43]) (by rfl)).vv (fun _ => (by rfl)) (by rfl) (by rfl) (by rfl))
  (vss_cons (vs_store (i := 5) setL_ok (by rfl) (by exact .inl rfl) (by decide +kernel) (by decide +kernel) (ve_bm (T := .str) sindex_ok PySem.F.plainAttrs_str PySem.F.slot_str_index PySem.F.type_str_index (ve_str (s := [65, 66, 67, 68, 69, 70]) (by rfl)) (va_cons (ve_ix hK (ve_var (i := 1) (by rfl) (by exact .inl rfl) (by decide +kernel) (by decide +kernel)) (ve_var (i := 4) (by rfl) (by exact .inl rfl) (by decide +kernel) (by decide +kernel)) (fun _ _ => (by rfl))) va_nil (by rfl)) (by rfl) (by rfl) (by rfl) (by rfl) (by rfl)) (ve_str (s := [45]) (by rfl)).vv (fun _ => (by rfl)) (by rfl) (by rfl) (by rfl))
  (vss_cons (vs_expr (ve_wr (T := .list) (i := 3) (append_ok) (by rfl) (by exact .inl rfl) (by decide +kernel) (by decide +kernel) PySem.F.plainAttrs_list PySem.F.slot_list_append PySem.F.type_list_append (vas_cons (ve_bm (T := .str) (join_ok hK) PySem.F.plainAttrs_str PySem.F.slot_str_join PySem.F.type_str_join (ve_str (s := []) (by rfl)) (va_cons (ve_var (i := 5) (by rfl) (by exact .inl rfl) (by decide +kernel) (by decide +kernel)) va_nil (by rfl)) (by rfl) (by rfl) (by rfl) (by rfl) (by rfl)).vv vas_nil (by rfl)) (by rfl) (by rfl) (by rfl) (by rfl) (by rfl)) (by rfl))
  vss_nil)))) (fun _ => (by rfl)))
  (vss_cons (vs_retV (i := 3) (by rfl) (by exact .inl rfl) (by decide +kernel) (by decide +kernel))
  vss_nil)))
theorem v_34 (hK : G.K = K) (hG : G.hot = none) (F : Fs P K mg G.cls) (U : Us P w K mg base G k R R2) {f : Addr} {qual : PySem.Str} {cdv : Value} {A : Around} {outer : List Env} {s : Shared} {H : Hp} {E : XK} (hr : Room (k + 1) (A.deeper (envOfC qual (defScope (top 43)) s.heap.objs.size f cdv)))
    (tk : L2N.Takes (cxOf (L2N.CX P w) P w K mg base ["draws", "at", "count", "order", "most", "many", "kind", "lines", "k", "line", "place", "ring"] qual (defScope (top 43)) f cdv A outer s H E) (fun cls d _ H => E cls d H)) (pp : PassesOwn (model P w) (A.deeper (envOfC qual (defScope (top 43)) s.heap.objs.size f cdv)) (envOfC qual (defScope (top 43)) s.heap.objs.size f cdv) (cxOf (L2N.CX P w) P w K mg base ["draws", "at", "count", "order", "most", "many", "kind", "lines", "k", "line", "place", "ring"] qual (defScope (top 43)) f cdv A outer s H E).xe) :
    VSs (cxOf (L2N.CX P w) P w K mg base ["draws", "at", "count", "order", "most", "many", "kind", "lines", "k", "line", "place", "ring"] qual (defScope (top 43)) f cdv A outer s H E) G (fun cls d _ H => E cls d H) (defBody (top 43)) (m_34 R R2) :=
  have hu := units_of hr
  have hu5 := units5_of hr
  have nd : (["draws", "at", "count", "order", "most", "many", "kind", "lines", "k", "line", "place", "ring"] : List PySem.Str).Nodup := by decide +kernel
  (vss_cons (vs_set (i := 5) nd (by rfl) (by exact .inl rfl) (ve_call U.f__law_pick hr tk (by rfl) (va_cons (ve_var (i := 0) (by rfl) (by exact .inl rfl) (by decide +kernel) (by decide +kernel)) (va_cons (ve_var (i := 1) (by rfl) (by exact .inl rfl) (by decide +kernel) (by decide +kernel)) (va_cons ve_int va_nil (by rfl)) (by rfl)) (by rfl)) (by decide +kernel) (by rfl) (by rfl)) (by rfl) (by exact .inl rfl))
  (vss_cons (vs_if (vt_cmp (eq_ok hK hu) (ve_call U.f__law_pick hr tk (by rfl) (va_cons (ve_var (i := 0) (by rfl) (by exact .inl rfl) (by decide +kernel) (by decide +kernel)) (va_cons (ve_bop (add_ok hK) (ve_var (i := 1) (by rfl) (by exact .inl rfl) (by decide +kernel) (by decide +kernel)) ve_int) (va_cons ve_int va_nil (by rfl)) (by rfl)) (by rfl)) (by decide +kernel) (by rfl) (by rfl)) ve_int (by rfl)) (vss_cons (vs_set (i := 5) nd (by rfl) (by exact .inl rfl) (ve_bop (sub_ok) (ve_var (i := 4) (by rfl) (by exact .inl rfl) (by decide +kernel) (by decide +kernel)) (ve_call U.f__law_pick hr tk (by rfl) (va_cons (ve_var (i := 0) (by rfl) (by exact .inl rfl) (by decide +kernel) (by decide +kernel)) (va_cons (ve_var (i := 1) (by rfl) (by exact .inl rfl) (by decide +kernel) (by decide +kernel)) (va_cons ve_int va_nil (by rfl)) (by rfl)) (by rfl)) (by decide +kernel) (by rfl) (by rfl))) (by rfl) (by exact .inl rfl))
  vss_nil) vss_nil)
  (vss_cons (vs_set (i := 6) nd (by rfl) (by exact .inl rfl) (ve_call U.f__law_pick hr tk (by rfl) (va_cons (ve_var (i := 0) (by rfl) (by exact .inl rfl) (by decide +kernel) (by decide +kernel)) (va_cons (ve_bop (add_ok hK) (ve_var (i := 1) (by rfl) (by exact .inl rfl) (by decide +kernel) (by decide +kernel)) ve_int) (va_cons ve_int va_nil (by rfl)) (by rfl)) (by rfl)) (by decide +kernel) (by rfl) (by rfl)) (by rfl) (by exact .inl rfl))
  (vss_cons (vs_set (i := 7) nd (by rfl) (by exact .inl rfl) (ve_lst vas_nil) (by rfl) (by exact .inl rfl))
  (vss_cons (vs_for pp (by rfl) (vi_range1 (by rfl) F.f_range (vas_cons (ve_frz (i := 5) (by rfl) (by exact .inl rfl) (by decide +kernel) (by decide +kernel)).vv vas_nil (by rfl))) (.ex (vg_name (i := 8) nd (by rfl) (by exact .inl rfl) (by exact .inl rfl))) (vss_cons (vs_set (i := 9) nd (by rfl) (by exact .inl rfl) (ve_call U.f__law_line hr tk (by rfl) (va_cons (ve_var (i := 2) (by rfl) (by exact .inl rfl) (by decide +kernel) (by decide +kernel)) (va_cons (ve_call U.f__law_pick hr tk (by rfl) (va_cons (ve_var (i := 0) (by rfl) (by exact .inl rfl) (by decide +kernel) (by decide +kernel)) (va_cons (ve_bop (add_ok hK) (ve_bop (add_ok hK) (ve_var (i := 1) (by rfl) (by exact .inl rfl) (by decide +kernel) (by decide +kernel)) ve_int) (ve_bop (mul_ok) ve_int (ve_var (i := 8) (by rfl) (by exact .inl rfl) (by decide +kernel) (by decide +kernel)))) (va_cons ve_int va_nil (by rfl)) (by rfl)) (by rfl)) (by decide +kernel) (by rfl) (by rfl)) (va_cons (ve_call U.f__law_pick hr tk (by rfl) (va_cons (ve_var (i := 0) (by rfl) (by exact .inl rfl) (by decide +kernel) (by decide +kernel)) (va_cons (ve_bop (add_ok hK) (ve_bop (add_ok hK) (ve_var (i := 1) (by rfl) (by exact .inl rfl) (by decide +kernel) (by decide +kernel)) ve_int) (ve_bop (mul_ok) ve_int (ve_var (i := 8) (by rfl) (by exact .inl rfl) (by decide +kernel) (by decide +kernel)))) (va_cons ve_int va_nil (by rfl)) (by rfl)) (by rfl)) (by decide +kernel) (by rfl) (by rfl)) va_nil (by rfl)) (by rfl)) (by rfl)) (by decide +kernel) (by rfl) (by rfl)) (by rfl) (by exact .inl rfl))
  (vss_cons (vs_if (vw_and (vt_cmp (gt_ok hK hu) (ve_var (i := 6) (by rfl) (by exact .inl rfl) (by decide +kernel) (by decide +kernel)) ve_int (by rfl)) (vw_and1 (vt_not (vt_truth hK (ve_call U.f__law_fits hr tk (by rfl) (va_cons (ve_var (i := 3) (by rfl) (by exact .inl rfl) (by decide +kernel) (by decide +kernel)) (va_cons (ve_var (i := 9) (by rfl) (by exact .inl rfl) (by decide +kernel) (by decide +kernel)) va_nil (by rfl)) (by rfl)) (by decide +kernel) (by rfl) (by rfl)) (fun _ => (by rfl)))))).vt (vss_cons (vs_set (i := 9) nd (by rfl) (by exact .inl rfl) (ve_call U.f__law_contrary hr tk (by rfl) (va_cons (ve_var (i := 9) (by rfl) (by exact .inl rfl) (by decide +kernel) (by decide +kernel)) va_nil (by rfl)) (by decide +kernel) (by rfl) (by rfl)) (by rfl) (by exact .inl rfl))
  vss_nil) vss_nil)
  (vss_cons (vs_expr (ve_wr (T := .list) (i := 7) (append_ok) (by rfl) (by exact .inl rfl) (by decide +kernel) (by decide +kernel) PySem.F.plainAttrs_list PySem.F.slot_list_append PySem.F.type_list_append (vas_cons (ve_frz (i := 9) (by rfl) (by exact .inl rfl) (by decide +kernel) (by decide +kernel)).vv vas_nil (by rfl)) (by rfl) (by rfl) (by rfl) (by rfl) (by rfl)) (by rfl))
  vss_nil))) (fun _ => (by rfl)))
  (vss_cons (vs_if (vw_and (vt_cmp (eq_ok hK hu) (ve_var (i := 6) (by rfl) (by exact .inl rfl) (by decide +kernel) (by decide +kernel)) ve_int (by rfl)) (vw_and1 (vt_cmp (gt_ok hK hu) (ve_var (i := 5) (by rfl) (by exact .inl rfl) (by decide +kernel) (by decide +kernel)) ve_int (by rfl)))).vt (vss_cons (vs_for pp (by rfl) (vi_range1 (by rfl) F.f_range (vas_cons (ve_bop (add_ok hK) ve_int (ve_call U.f__law_pick hr tk (by rfl) (va_cons (ve_var (i := 0) (by rfl) (by exact .inl rfl) (by decide +kernel) (by decide +kernel)) (va_cons (ve_bop (add_ok hK) (ve_var (i := 1) (by rfl) (by exact .inl rfl) (by decide +kernel) (by decide +kernel)) ve_int) (va_cons ve_int va_nil (by rfl)) (by rfl)) (by rfl)) (by decide +kernel) (by rfl) (by rfl))).vv vas_nil (by rfl))) (.ex (vg_name (i := 8) nd (by rfl) (by exact .inl rfl) (by exact .inl rfl))) (vss_cons (vs_set (i := 10) nd (by rfl) (by exact .inl rfl) (ve_call U.f__law_pick hr tk (by rfl) (va_cons (ve_var (i := 0) (by rfl) (by exact .inl rfl) (by decide +kernel) (by decide +kernel)) (va_cons (ve_bop (add_ok hK) (ve_bop (add_ok hK) (ve_var (i := 1) (by rfl) (by exact .inl rfl) (by decide +kernel) (by decide +kernel)) ve_int) (ve_var (i := 8) (by rfl) (by exact .inl rfl) (by decide +kernel) (by decide +kernel))) (va_cons (ve_var (i := 5) (by rfl) (by exact .inl rfl) (by decide +kernel) (by decide +kernel)) va_nil (by rfl)) (by rfl)) (by rfl)) (by decide +kernel) (by rfl) (by rfl)) (by rfl) (by exact .inl rfl))
  (vss_cons (vs_store (i := 7) setL_ok (by rfl) (by exact .inl rfl) (by decide +kernel) (by decide +kernel) (ve_var (i := 10) (by rfl) (by exact .inl rfl) (by decide +kernel) (by decide +kernel)) (ve_call U.f__law_contrary hr tk (by rfl) (va_cons (ve_ix hK (ve_var (i := 7) (by rfl) (by exact .inl rfl) (by decide +kernel) (by decide +kernel)) (ve_var (i := 10) (by rfl) (by exact .inl rfl) (by decide +kernel) (by decide +kernel)) (fun _ _ => (by rfl))) va_nil (by rfl)) (by decide +kernel) (by rfl) (by rfl)).vv (fun _ => (by rfl)) (by rfl) (by rfl) (by rfl))
  vss_nil)) (fun _ => (by rfl)))
  vss_nil) vss_nil)
  (vss_cons (vs_if (vt_cmp (eq_ok hK hu) (ve_var (i := 6) (by rfl) (by exact .inl rfl) (by decide +kernel) (by decide +kernel)) ve_int (by rfl)) (vss_cons (vs_set (i := 10) nd (by rfl) (by exact .inl rfl) (ve_call U.f__law_pick hr tk (by rfl) (va_cons (ve_var (i := 0) (by rfl) (by exact .inl rfl) (by decide +kernel) (by decide +kernel)) (va_cons (ve_bop (add_ok hK) (ve_var (i := 1) (by rfl) (by exact .inl rfl) (by decide +kernel) (by decide +kernel)) ve_int) (va_cons (ve_bop (add_ok hK) (ve_var (i := 5) (by rfl) (by exact .inl rfl) (by decide +kernel) (by decide +kernel)) ve_int) va_nil (by rfl)) (by rfl)) (by rfl)) (by decide +kernel) (by rfl) (by rfl)) (by rfl) (by exact .inl rfl))
  (vss_cons (vs_set (i := 11) nd (by rfl) (by exact .inl rfl) (ve_call U.f__law_round hr tk (by rfl) (va_cons (ve_var (i := 2) (by rfl) (by exact .inl rfl) (by decide +kernel) (by decide +kernel)) (va_cons (ve_var (i := 3) (by rfl) (by exact .inl rfl) (by decide +kernel) (by decide +kernel)) (va_cons (ve_bop (add_ok hK) ve_int (ve_call U.f__law_pick hr tk (by rfl) (va_cons (ve_var (i := 0) (by rfl) (by exact .inl rfl) (by decide +kernel) (by decide +kernel)) (va_cons (ve_bop (add_ok hK) (ve_var (i := 1) (by rfl) (by exact .inl rfl) (by decide +kernel) (by decide +kernel)) ve_int) (va_cons (ve_var (i := 2) (by rfl) (by exact .inl rfl) (by decide +kernel) (by decide +kernel)) va_nil (by rfl)) (by rfl)) (by rfl)) (by decide +kernel) (by rfl) (by rfl))) va_nil (by rfl)) (by rfl)) (by rfl)) (by decide +kernel) (by rfl) (by rfl)) (by rfl) (by exact .inl rfl))
  (vss_cons (vs_set (i := 7) nd (by rfl) (by exact .inl rfl) (ve_slice hK (ve_bop (add_ok hK) (ve_bop (add_ok hK) (ve_slice hK (ve_var (i := 7) (by rfl) (by exact .inl rfl) (by decide +kernel) (by decide +kernel)) vp_none (vp_some (ve_var (i := 10) (by rfl) (by exact .inl rfl) (by decide +kernel) (by decide +kernel)))) (ve_slice hK (ve_var (i := 11) (by rfl) (by exact .inl rfl) (by decide +kernel) (by decide +kernel)) (vp_some (ve_call U.f__law_pick hr tk (by rfl) (va_cons (ve_var (i := 0) (by rfl) (by exact .inl rfl) (by decide +kernel) (by decide +kernel)) (va_cons (ve_bop (add_ok hK) (ve_var (i := 1) (by rfl) (by exact .inl rfl) (by decide +kernel) (by decide +kernel)) ve_int) (va_cons ve_int va_nil (by rfl)) (by rfl)) (by rfl)) (by decide +kernel) (by rfl) (by rfl))) vp_none)) (ve_slice hK (ve_var (i := 7) (by rfl) (by exact .inl rfl) (by decide +kernel) (by decide +kernel)) (vp_some (ve_var (i := 10) (by rfl) (by exact .inl rfl) (by decide +kernel) (by decide +kernel))) vp_none)) (vp_some (ve_neg (ve_var (i := 4) (by rfl) (by exact .inl rfl) (by decide +kernel) (by decide +kernel)))) vp_none) (by rfl) (by exact .inl rfl))
  vss_nil))) vss_nil)
  (vss_cons (vs_retV (i := 7) (by rfl) (by exact .inl rfl) (by decide +kernel) (by decide +kernel))
  vss_nil))))))))
theorem v_35 (hK : G.K = K) (hG : G.hot = none) (F : Fs P K mg G.cls) (U : Us P w K mg base G k R R2) {f : Addr} {qual : PySem.Str} {cdv : Value} {A : Around} {outer : List Env} {s : Shared} {H : Hp} {E : XK} (hr : Room (k + 1) (A.deeper (envOfC qual (defScope (top 44)) s.heap.objs.size f cdv)))
    (tk : L2N.Takes (cxOf (L2N.CX P w) P w K mg base ["order", "lines", "line"] qual (defScope (top 44)) f cdv A outer s H E) (fun cls d _ H => E cls d H)) (pp : PassesOwn (model P w) (A.deeper (envOfC qual (defScope (top 44)) s.heap.objs.size f cdv)) (envOfC qual (defScope (top 44)) s.heap.objs.size f cdv) (cxOf (L2N.CX P w) P w K mg base ["order", "lines", "line"] qual (defScope (top 44)) f cdv A outer s H E).xe) :
    VSs (cxOf (L2N.CX P w) P w K mg base ["order", "lines", "line"] qual (defScope (top 44)) f cdv A outer s H E) G (fun cls d _ H => E cls d H) (defBody (top 44)) (m_35 R R2) :=
  have hu := units_of hr
  have hu5 := units5_of hr
  have nd : (["order", "lines", "line"] : List PySem.Str).Nodup := by decide +kernel
  (vss_cons (vs_for pp (by rfl) (vi_src hK (ve_frz (i := 1) (by rfl) (by exact .inl rfl) (by decide +kernel) (by decide +kernel))) (.ex (vg_name (i := 2) nd (by rfl) (by exact .inl rfl) (by exact .inl rfl))) (vss_cons (vs_if (vt_not (vt_truth hK (ve_call U.f__law_fits hr tk (by rfl) (va_cons (ve_var (i := 0) (by rfl) (by exact .inl rfl) (by decide +kernel) (by decide +kernel)) (va_cons (ve_var (i := 2) (by rfl) (by exact .inl rfl) (by decide +kernel) (by decide +kernel)) va_nil (by rfl)) (by rfl)) (by decide +kernel) (by rfl) (by rfl)) (fun _ => (by rfl)))) (vss_cons (vs_ret ve_bl)
  vss_nil) vss_nil)
  vss_nil) (fun _ => (by rfl)))
  (vss_cons (vs_ret ve_bl)
  vss_nil))
theorem v_36 (hK : G.K = K) (hG : G.hot = none) (F : Fs P K mg G.cls) (U : Us P w K mg base G k R R2) {f : Addr} {qual : PySem.Str} {cdv : Value} {A : Around} {outer : List Env} {s : Shared} {H : Hp} {E : XK} (hr : Room (k + 1) (A.deeper (envOfC qual (defScope (top 45)) s.heap.objs.size f cdv)))
    (tk : L2N.Takes (cxOf (L2N.CX P w) P w K mg base ["orders", "lines", "order"] qual (defScope (top 45)) f cdv A outer s H E) (fun cls d _ H => E cls d H)) (pp : PassesOwn (model P w) (A.deeper (envOfC qual (defScope (top 45)) s.heap.objs.size f cdv)) (envOfC qual (defScope (top 45)) s.heap.objs.size f cdv) (cxOf (L2N.CX P w) P w K mg base ["orders", "lines", "order"] qual (defScope (top 45)) f cdv A outer s H E).xe) :
    VSs (cxOf (L2N.CX P w) P w K mg base ["orders", "lines", "order"] qual (defScope (top 45)) f cdv A outer s H E) G (fun cls d _ H => E cls d H) (defBody (top 45)) (m_36 R R2) :=
  have hu := units_of hr
  have hu5 := units5_of hr
  have nd : (["orders", "lines", "order"] : List PySem.Str).Nodup := by decide +kernel
  (vss_cons (vs_for pp (by rfl) (vi_src hK (ve_frz (i := 0) (by rfl) (by exact .inl rfl) (by decide +kernel) (by decide +kernel))) (.ex (vg_name (i := 2) nd (by rfl) (by exact .inl rfl) (by exact .inl rfl))) (vss_cons (vs_if (vt_truth hK (ve_call U.f__law_all hr tk (by rfl) (va_cons (ve_var (i := 2) (by rfl) (by exact .inl rfl) (by decide +kernel) (by decide +kernel)) (va_cons (ve_var (i := 1) (by rfl) (by exact .inl rfl) (by decide +kernel) (by decide +kernel)) va_nil (by rfl)) (by rfl)) (by decide +kernel) (by rfl) (by rfl)) (fun _ => (by rfl))) (vss_cons (vs_retV (i := 2) (by rfl) (by exact .inl rfl) (by decide +kernel) (by decide +kernel))
  vss_nil) vss_nil)
  vss_nil) (fun _ => (by rfl)))
  (vss_cons (vs_ret (ve_str (s := []) (by rfl)))
  vss_nil))
theorem v_37 (hK : G.K = K) (hG : G.hot = none) (F : Fs P K mg G.cls) (U : Us P w K mg base G k R R2) {f : Addr} {qual : PySem.Str} {cdv : Value} {A : Around} {outer : List Env} {s : Shared} {H : Hp} {E : XK} (hr : Room (k + 1) (A.deeper (envOfC qual (defScope (top 46)) s.heap.objs.size f cdv)))
    (tk : L2N.Takes (cxOf (L2N.CX P w) P w K mg base ["line", "letters", "mark", "letter"] qual (defScope (top 46)) f cdv A outer s H E) (fun cls d _ H => E cls d H)) (pp : PassesOwn (model P w) (A.deeper (envOfC qual (defScope (top 46)) s.heap.objs.size f cdv)) (envOfC qual (defScope (top 46)) s.heap.objs.size f cdv) (cxOf (L2N.CX P w) P w K mg base ["line", "letters", "mark", "letter"] qual (defScope (top 46)) f cdv A outer s H E).xe) :
    VSs (cxOf (L2N.CX P w) P w K mg base ["line", "letters", "mark", "letter"] qual (defScope (top 46)) f cdv A outer s H E) G (fun cls d _ H => E cls d H) (defBody (top 46)) (m_37 R R2) :=
  have hu := units_of hr
  have hu5 := units5_of hr
  have nd : (["line", "letters", "mark", "letter"] : List PySem.Str).Nodup := by decide +kernel
  (vss_cons (vs_for pp (by rfl) (vi_src hK (ve_frz (i := 1) (by rfl) (by exact .inl rfl) (by decide +kernel) (by decide +kernel))) (.ex (vg_name (i := 3) nd (by rfl) (by exact .inl rfl) (by exact .inl rfl))) (vss_cons (vs_if (vt_cmp (eq_ok hK hu) (ve_ix hK (ve_var (i := 0) (by rfl) (by exact .inl rfl) (by decide +kernel) (by decide +kernel)) (ve_bm (T := .str) sindex_ok PySem.F.plainAttrs_str PySem.F.slot_str_index PySem.F.type_str_index (ve_str (s := [65, 66, 67, 68, 69, 70]) (by rfl)) (va_cons (ve_var (i := 3) (by rfl) (by exact .inl rfl) (by decide +kernel) (by decide +kernel)) va_nil (by rfl)) (by rfl) (by rfl) (by rfl) (by rfl) (by rfl)) (fun _ _ => (by rfl))) (ve_var (i := 2) (by rfl) (by exact .inl rfl) (by decide +kernel) (by decide +kernel)) (by rfl)) (vss_cons (vs_ret ve_bl)
  vss_nil) vss_nil)
  vss_nil) (fun _ => (by rfl)))
  (vss_cons (vs_ret ve_bl)
  vss_nil))
theorem v_38 (hK : G.K = K) (hG : G.hot = none) (F : Fs P K mg G.cls) (U : Us P w K mg base G k R R2) {f : Addr} {qual : PySem.Str} {cdv : Value} {A : Around} {outer : List Env} {s : Shared} {H : Hp} {E : XK} (hr : Room (k + 1) (A.deeper (envOfC qual (defScope (top 47)) s.heap.objs.size f cdv)))
    (tk : L2N.Takes (cxOf (L2N.CX P w) P w K mg base ["count", "lines", "left", "waiting", "strata", "k", "free", "letter", "line"] qual (defScope (top 47)) f cdv A outer s H E) (fun cls d _ H => E cls d H)) (pp : PassesOwn (model P w) (A.deeper (envOfC qual (defScope (top 47)) s.heap.objs.size f cdv)) (envOfC qual (defScope (top 47)) s.heap.objs.size f cdv) (cxOf (L2N.CX P w) P w K mg base ["count", "lines", "left", "waiting", "strata", "k", "free", "letter", "line"] qual (defScope (top 47)) f cdv A outer s H E).xe) :
    VSs (cxOf (L2N.CX P w) P w K mg base ["count", "lines", "left", "waiting", "strata", "k", "free", "letter", "line"] qual (defScope (top 47)) f cdv A outer s H E) G (fun cls d _ H => E cls d H) (defBody (top 47)) (m_38 R R2) :=
  have hu := units_of hr
  have hu5 := units5_of hr
  have nd : (["count", "lines", "left", "waiting", "strata", "k", "free", "letter", "line"] : List PySem.Str).Nodup := by decide +kernel
  (vss_cons (vs_set (i := 2) nd (by rfl) (by exact .inl rfl) (ve_callTy (listS_ok (by rfl) hK) (by rfl) F.f_list (by decide +kernel) (va_cons (ve_var (i := 1) (by rfl) (by exact .inl rfl) (by decide +kernel) (by decide +kernel)) va_nil (by rfl)) (by decide +kernel) (by decide +kernel) (by rfl) (by rfl)) (by rfl) (by exact .inl rfl))
  (vss_cons (vs_set (i := 3) nd (by rfl) (by exact .inl rfl) (ve_slice hK (ve_str (s := [65, 66, 67, 68, 69, 70]) (by rfl)) vp_none (vp_some (ve_var (i := 0) (by rfl) (by exact .inl rfl) (by decide +kernel) (by decide +kernel)))) (by rfl) (by exact .inl rfl))
  (vss_cons (vs_set (i := 4) nd (by rfl) (by exact .inl rfl) (ve_lst vas_nil) (by rfl) (by exact .inl rfl))
  (vss_cons (vs_for pp (by rfl) (vi_range1 (by rfl) F.f_range (vas_cons (ve_frz (i := 0) (by rfl) (by exact .inl rfl) (by decide +kernel) (by decide +kernel)).vv vas_nil (by rfl))) (.ex (vg_name (i := 5) nd (by rfl) (by exact .inl rfl) (by exact .inl rfl))) (vss_cons (vs_set (i := 6) nd (by rfl) (by exact .inr rfl) (ve_str (s := []) (by rfl)) (by rfl) (by exact .inl rfl))
  (vss_cons (vs_for pp (by rfl) (vi_src hK (ve_frz (i := 3) (by rfl) (by exact .inl rfl) (by decide +kernel) (by decide +kernel))) (.ex (vg_name (i := 7) nd (by rfl) (by exact .inr rfl) (by exact .inl rfl))) (vss_cons (vs_if (vt_cmp (eq_ok hK hu) (ve_lc (own := [("line", 8)]) (is := [8]) (by rfl) nd (vi_src hK (ve_frz (i := 2) (by rfl) (by exact .inl rfl) (by decide +kernel) (by decide +kernel))) (blkOk_by (N := ["count", "lines", "left", "waiting", "strata", "k", "free", "letter", "line"]) (sc := defScope (top 47)) (by decide +kernel)) (by decide +kernel) (fun _ _ _ _ _ => .ex (vg_name (i := 8) nd (by rfl) (by exact .inl rfl) (by exact .inr rfl))) (fun _ _ _ _ _ => (vts_one (vt_truth hK (ve_call U.f__law_marked hr (takes_no _) (by rfl) (va_cons (ve_var (i := 8) (by rfl) (by exact .inl rfl) (by decide +kernel) (by decide +kernel)) (va_cons (ve_var (i := 7) (by rfl) (by exact .inr (.inl rfl)) (by decide +kernel) (by decide +kernel)) (va_cons (ve_str (s := [45]) (by rfl)) va_nil (by rfl)) (by rfl)) (by rfl)) (by decide +kernel) (by rfl) (by rfl)) (fun _ => (by rfl))))) (fun _ _ _ _ _ => (ve_frz (i := 8) (by rfl) (by exact .inl rfl) (by decide +kernel) (by decide +kernel)).vv) (fun _ => (by rfl))) (ve_lst vas_nil) (by rfl)) (vss_cons (vs_set (i := 6) nd (by rfl) (by exact .inr rfl) (ve_bop (add_ok hK) (ve_var (i := 6) (by rfl) (by exact .inr (.inl rfl)) (by decide +kernel) (by decide +kernel)) (ve_var (i := 7) (by rfl) (by exact .inr (.inl rfl)) (by decide +kernel) (by decide +kernel))) (by rfl) (by exact .inl rfl))
  vss_nil) vss_nil)
  vss_nil) (fun _ => (by rfl)))
  (vss_cons (vs_if (vt_cmp (ne_ok hK hu) (ve_var (i := 6) (by rfl) (by exact .inr (.inl rfl)) (by decide +kernel) (by decide +kernel)) (ve_str (s := []) (by rfl)) (by rfl)) (vss_cons (vs_expr (ve_wr (T := .list) (i := 4) (append_ok) (by rfl) (by exact .inl rfl) (by decide +kernel) (by decide +kernel) PySem.F.plainAttrs_list PySem.F.slot_list_append PySem.F.type_list_append (vas_cons (ve_frz (i := 6) (by rfl) (by exact .inr (.inl rfl)) (by decide +kernel) (by decide +kernel)).vv vas_nil (by rfl)) (by rfl) (by rfl) (by rfl) (by rfl) (by rfl)) (by rfl))
  vss_nil) vss_nil)
  (vss_cons (vs_set (i := 3) nd (by rfl) (by exact .inl rfl) (ve_bm (T := .str) (join_ok hK) PySem.F.plainAttrs_str PySem.F.slot_str_join PySem.F.type_str_join (ve_str (s := []) (by rfl)) (va_cons (ve_lc (own := [("letter", 7)]) (is := [7]) (by rfl) nd (vi_src hK (ve_frz (i := 3) (by rfl) (by exact .inl rfl) (by decide +kernel) (by decide +kernel))) (blkOk_by (N := ["count", "lines", "left", "waiting", "strata", "k", "free", "letter", "line"]) (sc := defScope (top 47)) (by decide +kernel)) (by decide +kernel) (fun _ _ _ _ _ => .ex (vg_name (i := 7) nd (by rfl) (by exact .inl rfl) (by exact .inr rfl))) (fun _ _ _ _ _ => (vts_one (vt_cmp (notIn_ok hK hu5) (ve_var (i := 7) (by rfl) (by exact .inl rfl) (by decide +kernel) (by decide +kernel)) (ve_var (i := 6) (by rfl) (by exact .inr (.inl rfl)) (by decide +kernel) (by decide +kernel)) (by rfl)))) (fun _ _ _ _ _ => (ve_frz (i := 7) (by rfl) (by exact .inl rfl) (by decide +kernel) (by decide +kernel)).vv) (fun _ => (by rfl))) va_nil (by rfl)) (by rfl) (by rfl) (by rfl) (by rfl) (by rfl)) (by rfl) (by exact .inl rfl))
  (vss_cons (vs_setLc (i := 2) (own := [("line", 8)]) (is := [8]) (by rfl) nd (by rfl) (by rfl) (by rfl) (vi_src hK (ve_frz (i := 2) (by rfl) (by exact .inl rfl) (by decide +kernel) (by decide +kernel))) (blkOk_by (N := ["count", "lines", "left", "waiting", "strata", "k", "free", "letter", "line"]) (sc := defScope (top 47)) (by decide +kernel)) (by decide +kernel) (fun _ _ _ _ _ => .ex (vg_name (i := 8) nd (by rfl) (by exact .inl rfl) (by exact .inr rfl))) (fun _ _ _ _ _ => (vts_one (vt_not (vt_truth hK (ve_call U.f__law_marked hr (takes_no _) (by rfl) (va_cons (ve_var (i := 8) (by rfl) (by exact .inl rfl) (by decide +kernel) (by decide +kernel)) (va_cons (ve_var (i := 6) (by rfl) (by exact .inr (.inl rfl)) (by decide +kernel) (by decide +kernel)) (va_cons (ve_str (s := [43]) (by rfl)) va_nil (by rfl)) (by rfl)) (by rfl)) (by decide +kernel) (by rfl) (by rfl)) (fun _ => (by rfl)))))) (fun _ _ _ _ _ => (ve_frz (i := 8) (by rfl) (by exact .inl rfl) (by decide +kernel) (by decide +kernel)).vv) (fun _ => (by rfl)))
  vss_nil))))) (fun _ => (by rfl)))
  (vss_cons (vs_ret (ve_tup (vas_cons (ve_frz (i := 4) (by rfl) (by exact .inl rfl) (by decide +kernel) (by decide +kernel)).vv (vas_cons (ve_cmp (eq_ok hK hu) (ve_var (i := 3) (by rfl) (by exact .inl rfl) (by decide +kernel) (by decide +kernel)) (ve_str (s := []) (by rfl)) (by rfl)).vv vas_nil (by rfl)) (by rfl))))
  vss_nil)))))
theorem v_39 (hK : G.K = K) (hG : G.hot = none) (F : Fs P K mg G.cls) (U : Us P w K mg base G k R R2) {f : Addr} {qual : PySem.Str} {cdv : Value} {A : Around} {outer : List Env} {s : Shared} {H : Hp} {E : XK} (hr : Room (k + 1) (A.deeper (envOfC qual (defScope (top 48)) s.heap.objs.size f cdv)))
    (tk : L2N.Takes (cxOf (L2N.CX P w) P w K mg base ["count", "lines", "lot", "least", "place", "other"] qual (defScope (top 48)) f cdv A outer s H E) (fun cls d _ H => E cls d H)) (pp : PassesOwn (model P w) (A.deeper (envOfC qual (defScope (top 48)) s.heap.objs.size f cdv)) (envOfC qual (defScope (top 48)) s.heap.objs.size f cdv) (cxOf (L2N.CX P w) P w K mg base ["count", "lines", "lot", "least", "place", "other"] qual (defScope (top 48)) f cdv A outer s H E).xe) :
    VSs (cxOf (L2N.CX P w) P w K mg base ["count", "lines", "lot", "least", "place", "other"] qual (defScope (top 48)) f cdv A outer s H E) G (fun cls d _ H => E cls d H) (defBody (top 48)) (m_39 R R2) :=
  have hu := units_of hr
  have hu5 := units5_of hr
  have nd : (["count", "lines", "lot", "least", "place", "other"] : List PySem.Str).Nodup := by decide +kernel
  (vss_cons (vs_if (vw_or (vt_not (vt_truth hK (ve_isi hK F.is_tuple (.ty _) (by rfl) F.f_isinstance (ve_var (i := 2) (by rfl) (by exact .inl rfl) (by decide +kernel) (by decide +kernel)) (pe_bltn (v := (.ty "tuple")) (u := .type "tuple") (by rfl) F.f_tuple (by decide +kernel) (by rfl) (by decide +kernel) (by decide +kernel)) (by rfl) (by rfl) (by rfl)) (fun _ => (by rfl)))) (vw_or1 (vt_not (vt_chain (le_ok hK hu) (le_ok hK hu) ve_int (ve_callB (len_ok hK) (by rfl) F.f_len (by decide +kernel) (va_cons (ve_var (i := 2) (by rfl) (by exact .inl rfl) (by decide +kernel) (by decide +kernel)) va_nil (by rfl)) (by decide +kernel) (by decide +kernel) (by rfl) (by rfl)) (ve_var (i := 0) (by rfl) (by exact .inl rfl) (by decide +kernel) (by decide +kernel)) (by rfl))))).vt (vss_cons (vs_ret ve_bl)
  vss_nil) vss_nil)
  (vss_cons (vs_set (i := 3) nd (by rfl) (by exact .inl rfl) ve_int (by rfl) (by exact .inl rfl))
  (vss_cons (vs_for pp (by rfl) (vi_src hK (ve_frz (i := 2) (by rfl) (by exact .inl rfl) (by decide +kernel) (by decide +kernel))) (.ex (vg_name (i := 4) nd (by rfl) (by exact .inr rfl) (by exact .inl rfl))) (vss_cons (vs_if (vw_or (vt_not (vt_truth hK (ve_isi hK F.is_int (.ty _) (by rfl) F.f_isinstance (ve_var (i := 4) (by rfl) (by exact .inr (.inl rfl)) (by decide +kernel) (by decide +kernel)) (pe_bltn (v := (.ty "int")) (u := .type "int") (by rfl) F.f_int (by decide +kernel) (by rfl) (by decide +kernel) (by decide +kernel)) (by rfl) (by rfl) (by rfl)) (fun _ => (by rfl)))) (vw_or (vt_truth hK (ve_isi hK F.is_bool (.ty _) (by rfl) F.f_isinstance (ve_var (i := 4) (by rfl) (by exact .inr (.inl rfl)) (by decide +kernel) (by decide +kernel)) (pe_bltn (v := (.ty "bool")) (u := .type "bool") (by rfl) F.f_bool (by decide +kernel) (by rfl) (by decide +kernel) (by decide +kernel)) (by rfl) (by rfl) (by rfl)) (fun _ => (by rfl))) (vw_or1 (vt_not (vt_chain (le_ok hK hu) (lt_ok hK hu) (ve_var (i := 3) (by rfl) (by exact .inl rfl) (by decide +kernel) (by decide +kernel)) (ve_var (i := 4) (by rfl) (by exact .inr (.inl rfl)) (by decide +kernel) (by decide +kernel)) (ve_callB (len_ok hK) (by rfl) F.f_len (by decide +kernel) (va_cons (ve_var (i := 1) (by rfl) (by exact .inr (.inl rfl)) (by decide +kernel) (by decide +kernel)) va_nil (by rfl)) (by decide +kernel) (by decide +kernel) (by rfl) (by rfl)) (by rfl)))))).vt (vss_cons (vs_ret ve_bl)
  vss_nil) vss_nil)
  (vss_cons (vs_set (i := 3) nd (by rfl) (by exact .inl rfl) (ve_bop (add_ok hK) (ve_var (i := 4) (by rfl) (by exact .inr (.inl rfl)) (by decide +kernel) (by decide +kernel)) ve_int) (by rfl) (by exact .inl rfl))
  vss_nil)) (fun _ => (by rfl)))
  (vss_cons (vs_if (vt_truth hK (ve_ix hK (ve_call U.f__law_peel hr tk (by rfl) (va_cons (ve_var (i := 0) (by rfl) (by exact .inl rfl) (by decide +kernel) (by decide +kernel)) (va_cons (ve_lc (own := [("place", 4)]) (is := [4]) (by rfl) nd (vi_src hK (ve_frz (i := 2) (by rfl) (by exact .inl rfl) (by decide +kernel) (by decide +kernel))) (blkOk_by (N := ["count", "lines", "lot", "least", "place", "other"]) (sc := defScope (top 48)) (by decide +kernel)) (by decide +kernel) (fun _ _ _ _ _ => .ex (vg_name (i := 4) nd (by rfl) (by exact .inl rfl) (by exact .inr rfl))) (fun _ _ _ _ _ => vts_nil) (fun _ _ _ _ _ => (ve_ix hK (ve_var (i := 1) (by rfl) (by exact .inr (.inl rfl)) (by decide +kernel) (by decide +kernel)) (ve_var (i := 4) (by rfl) (by exact .inl rfl) (by decide +kernel) (by decide +kernel)) (fun _ _ => (by rfl))).vv) (fun _ => (by rfl))) va_nil (by rfl)) (by rfl)) (by decide +kernel) (by rfl) (by rfl)) ve_int (fun _ _ => (by rfl))) (fun _ => (by rfl))) (vss_cons (vs_ret ve_bl)
  vss_nil) vss_nil)
  (vss_cons (vs_for pp (by rfl) (vi_src hK (ve_frz (i := 2) (by rfl) (by exact .inl rfl) (by decide +kernel) (by decide +kernel))) (.ex (vg_name (i := 4) nd (by rfl) (by exact .inr rfl) (by exact .inl rfl))) (vss_cons (vs_if (vt_not (vt_truth hK (ve_ix hK (ve_call U.f__law_peel hr tk (by rfl) (va_cons (ve_var (i := 0) (by rfl) (by exact .inl rfl) (by decide +kernel) (by decide +kernel)) (va_cons (ve_lc (own := [("other", 5)]) (is := [5]) (by rfl) nd (vi_src hK (ve_frz (i := 2) (by rfl) (by exact .inl rfl) (by decide +kernel) (by decide +kernel))) (blkOk_by (N := ["count", "lines", "lot", "least", "place", "other"]) (sc := defScope (top 48)) (by decide +kernel)) (by decide +kernel) (fun _ _ _ _ _ => .ex (vg_name (i := 5) nd (by rfl) (by exact .inl rfl) (by exact .inr rfl))) (fun _ _ _ _ _ => (vts_one (vt_cmp (ne_ok hK hu) (ve_var (i := 5) (by rfl) (by exact .inl rfl) (by decide +kernel) (by decide +kernel)) (ve_var (i := 4) (by rfl) (by exact .inr (.inl rfl)) (by decide +kernel) (by decide +kernel)) (by rfl)))) (fun _ _ _ _ _ => (ve_ix hK (ve_var (i := 1) (by rfl) (by exact .inr (.inl rfl)) (by decide +kernel) (by decide +kernel)) (ve_var (i := 5) (by rfl) (by exact .inl rfl) (by decide +kernel) (by decide +kernel)) (fun _ _ => (by rfl))).vv) (fun _ => (by rfl))) va_nil (by rfl)) (by rfl)) (by decide +kernel) (by rfl) (by rfl)) ve_int (fun _ _ => (by rfl))) (fun _ => (by rfl)))) (vss_cons (vs_ret ve_bl)
  vss_nil) vss_nil)
  vss_nil) (fun _ => (by rfl)))
  (vss_cons (vs_ret ve_bl)
  vss_nil))))))
theorem v_41 (hK : G.K = K) (hG : G.hot = none) (F : Fs P K mg G.cls) (U : Us P w K mg base G k R R2) {f : Addr} {qual : PySem.Str} {cdv : Value} {A : Around} {outer : List Env} {s : Shared} {H : Hp} {E : XK} (hr : Room (k + 1) (A.deeper (envOfC qual (defScope (top 50)) s.heap.objs.size f cdv)))
    (tk : L2N.Takes (cxOf (L2N.CX P w) P w K mg base ["book", "told", "e"] qual (defScope (top 50)) f cdv A outer s H E) (fun cls d _ H => E cls d H)) (pp : PassesOwn (model P w) (A.deeper (envOfC qual (defScope (top 50)) s.heap.objs.size f cdv)) (envOfC qual (defScope (top 50)) s.heap.objs.size f cdv) (cxOf (L2N.CX P w) P w K mg base ["book", "told", "e"] qual (defScope (top 50)) f cdv A outer s H E).xe) :
    VSs (cxOf (L2N.CX P w) P w K mg base ["book", "told", "e"] qual (defScope (top 50)) f cdv A outer s H E) G (fun cls d _ H => E cls d H) (defBody (top 50)) (m_41 R R2) :=
  have hu := units_of hr
  have hu5 := units5_of hr
  have nd : (["book", "told", "e"] : List PySem.Str).Nodup := by decide +kernel
  (vss_cons (vs_try (i := 2) hG (by rfl) (by rfl) nd (by rfl) (by rfl) ⟨(by rfl), by decide, .inl F.g_TongueError⟩ tk F.ca_TongueError (fun _ _ _ tk2 pp2 => (vss_cons (vs_set (i := 1) nd (by rfl) (by exact .inl rfl) (ve_call U.f_first_ranking hr tk2 (by rfl) (va_cons (ve_var (i := 0) (by rfl) (by exact .inl rfl) (by decide +kernel) (by decide +kernel)) va_nil (by rfl)) (by decide +kernel) (by rfl) (by rfl)) (by rfl) (by exact .inl rfl))
  vss_nil)) (fun a oe c d pn hz hd => (fun hot (hr : L2H.RoomH (k + 1) _) => (vss_cons (vs_ret (ve_callX (U.h__law_error _ _ _) hot hr (takes_no _) (by rfl) (va_cons (ve_var (i := 2) (by rfl) (by exact .inl rfl) (by decide +kernel) (by decide +kernel)) va_nil (by rfl)) (by decide +kernel) (by rfl) (by rfl)))
  vss_nil)) (hot_suite hz hd) (room_suite hr)))
  (vss_cons (vs_ret (ve_tup (vas_cons (ve_str (s := [116, 111, 108, 100]) (by rfl)).vv (vas_cons (ve_frz (i := 1) (by rfl) (by exact .inl rfl) (by decide +kernel) (by decide +kernel)).vv vas_nil (by rfl)) (by rfl))))
  vss_nil))
theorem v_42 (hK : G.K = K) (hG : G.hot = none) (F : Fs P K mg G.cls) (U : Us P w K mg base G k R R2) {f : Addr} {qual : PySem.Str} {cdv : Value} {A : Around} {outer : List Env} {s : Shared} {H : Hp} {E : XK} (hr : Room (k + 1) (A.deeper (envOfC qual (defScope (top 51)) s.heap.objs.size f cdv)))
    (tk : L2N.Takes (cxOf (L2N.CX P w) P w K mg base ["orders", "lines", "book", "due", "told"] qual (defScope (top 51)) f cdv A outer s H E) (fun cls d _ H => E cls d H)) (pp : PassesOwn (model P w) (A.deeper (envOfC qual (defScope (top 51)) s.heap.objs.size f cdv)) (envOfC qual (defScope (top 51)) s.heap.objs.size f cdv) (cxOf (L2N.CX P w) P w K mg base ["orders", "lines", "book", "due", "told"] qual (defScope (top 51)) f cdv A outer s H E).xe) :
    VSs (cxOf (L2N.CX P w) P w K mg base ["orders", "lines", "book", "due", "told"] qual (defScope (top 51)) f cdv A outer s H E) G (fun cls d _ H => E cls d H) (defBody (top 51)) (m_42 R R2) :=
  have hu := units_of hr
  have hu5 := units5_of hr
  have nd : (["orders", "lines", "book", "due", "told"] : List PySem.Str).Nodup := by decide +kernel
  (vss_cons (vs_set (i := 3) nd (by rfl) (by exact .inl rfl) (ve_call U.f__law_first hr tk (by rfl) (va_cons (ve_var (i := 0) (by rfl) (by exact .inl rfl) (by decide +kernel) (by decide +kernel)) (va_cons (ve_var (i := 1) (by rfl) (by exact .inl rfl) (by decide +kernel) (by decide +kernel)) va_nil (by rfl)) (by rfl)) (by decide +kernel) (by rfl) (by rfl)) (by rfl) (by exact .inl rfl))
  (vss_cons (vs_set (i := 4) nd (by rfl) (by exact .inl rfl) (ve_call U.f__law_ask hr tk (by rfl) (va_cons (ve_var (i := 2) (by rfl) (by exact .inl rfl) (by decide +kernel) (by decide +kernel)) va_nil (by rfl)) (by decide +kernel) (by rfl) (by rfl)) (by rfl) (by exact .inl rfl))
  (vss_cons (vs_if (vt_cmp (eq_ok hK hu) (ve_var (i := 3) (by rfl) (by exact .inl rfl) (by decide +kernel) (by decide +kernel)) (ve_str (s := []) (by rfl)) (by rfl)) (vss_cons (vs_ret (ve_and (ve_cmp (eq_ok hK hu) (ve_ix hK (ve_var (i := 4) (by rfl) (by exact .inl rfl) (by decide +kernel) (by decide +kernel)) ve_int (fun _ _ => (by rfl))) (ve_str (s := [111, 100, 100, 115]) (by rfl)) (by rfl)) (ve_one (ve_call U.f__law_lot_right hr tk (by rfl) (va_cons (ve_callB (len_ok hK) (by rfl) F.f_len (by decide +kernel) (va_cons (ve_ix hK (ve_var (i := 0) (by rfl) (by exact .inl rfl) (by decide +kernel) (by decide +kernel)) ve_int (fun _ _ => (by rfl))) va_nil (by rfl)) (by decide +kernel) (by decide +kernel) (by rfl) (by rfl)) (va_cons (ve_var (i := 1) (by rfl) (by exact .inl rfl) (by decide +kernel) (by decide +kernel)) (va_cons (ve_ix hK (ve_var (i := 4) (by rfl) (by exact .inl rfl) (by decide +kernel) (by decide +kernel)) ve_int (fun _ _ => (by rfl))) va_nil (by rfl)) (by rfl)) (by rfl)) (by decide +kernel) (by rfl) (by rfl)))))
  vss_nil) vss_nil)
  (vss_cons (vs_ret (ve_and (ve_cmp (eq_ok hK hu) (ve_ix hK (ve_var (i := 4) (by rfl) (by exact .inl rfl) (by decide +kernel) (by decide +kernel)) ve_int (fun _ _ => (by rfl))) (ve_str (s := [116, 111, 108, 100]) (by rfl)) (by rfl)) (ve_one (ve_call U.f__law_same hr tk (by rfl) (va_cons (ve_ix hK (ve_var (i := 4) (by rfl) (by exact .inl rfl) (by decide +kernel) (by decide +kernel)) ve_int (fun _ _ => (by rfl))) (va_cons (ve_var (i := 3) (by rfl) (by exact .inl rfl) (by decide +kernel) (by decide +kernel)) va_nil (by rfl)) (by rfl)) (by decide +kernel) (by rfl) (by rfl)))))
  vss_nil))))
theorem v_43 (hK : G.K = K) (hG : G.hot = none) (F : Fs P K mg G.cls) (U : Us P w K mg base G k R R2) {f : Addr} {qual : PySem.Str} {cdv : Value} {A : Around} {outer : List Env} {s : Shared} {H : Hp} {E : XK} (hr : Room (k + 1) (A.deeper (envOfC qual (defScope (top 52)) s.heap.objs.size f cdv)))
    (tk : L2N.Takes (cxOf (L2N.CX P w) P w K mg base ["draws", "at", "count", "order", "lines", "ring", "kept", "place"] qual (defScope (top 52)) f cdv A outer s H E) (fun cls d _ H => E cls d H)) (pp : PassesOwn (model P w) (A.deeper (envOfC qual (defScope (top 52)) s.heap.objs.size f cdv)) (envOfC qual (defScope (top 52)) s.heap.objs.size f cdv) (cxOf (L2N.CX P w) P w K mg base ["draws", "at", "count", "order", "lines", "ring", "kept", "place"] qual (defScope (top 52)) f cdv A outer s H E).xe) :
    VSs (cxOf (L2N.CX P w) P w K mg base ["draws", "at", "count", "order", "lines", "ring", "kept", "place"] qual (defScope (top 52)) f cdv A outer s H E) G (fun cls d _ H => E cls d H) (defBody (top 52)) (m_43 R R2) :=
  have hu := units_of hr
  have hu5 := units5_of hr
  have nd : (["draws", "at", "count", "order", "lines", "ring", "kept", "place"] : List PySem.Str).Nodup := by decide +kernel
  (vss_cons (vs_set (i := 5) nd (by rfl) (by exact .inl rfl) (ve_call U.f__law_round hr tk (by rfl) (va_cons (ve_var (i := 2) (by rfl) (by exact .inl rfl) (by decide +kernel) (by decide +kernel)) (va_cons (ve_var (i := 3) (by rfl) (by exact .inl rfl) (by decide +kernel) (by decide +kernel)) (va_cons (ve_bop (add_ok hK) ve_int (ve_call U.f__law_pick hr tk (by rfl) (va_cons (ve_var (i := 0) (by rfl) (by exact .inl rfl) (by decide +kernel) (by decide +kernel)) (va_cons (ve_var (i := 1) (by rfl) (by exact .inl rfl) (by decide +kernel) (by decide +kernel)) (va_cons (ve_var (i := 2) (by rfl) (by exact .inl rfl) (by decide +kernel) (by decide +kernel)) va_nil (by rfl)) (by rfl)) (by rfl)) (by decide +kernel) (by rfl) (by rfl))) va_nil (by rfl)) (by rfl)) (by rfl)) (by decide +kernel) (by rfl) (by rfl)) (by rfl) (by exact .inl rfl))
  (vss_cons (vs_set (i := 6) nd (by rfl) (by exact .inl rfl) (ve_slice hK (ve_var (i := 4) (by rfl) (by exact .inl rfl) (by decide +kernel) (by decide +kernel)) vp_none (vp_some (ve_bop (sub_ok) ve_int (ve_callB (len_ok hK) (by rfl) F.f_len (by decide +kernel) (va_cons (ve_var (i := 5) (by rfl) (by exact .inl rfl) (by decide +kernel) (by decide +kernel)) va_nil (by rfl)) (by decide +kernel) (by decide +kernel) (by rfl) (by rfl))))) (by rfl) (by exact .inl rfl))
  (vss_cons (vs_set (i := 7) nd (by rfl) (by exact .inl rfl) (ve_call U.f__law_pick hr tk (by rfl) (va_cons (ve_var (i := 0) (by rfl) (by exact .inl rfl) (by decide +kernel) (by decide +kernel)) (va_cons (ve_bop (add_ok hK) (ve_var (i := 1) (by rfl) (by exact .inl rfl) (by decide +kernel) (by decide +kernel)) ve_int) (va_cons (ve_bop (add_ok hK) (ve_callB (len_ok hK) (by rfl) F.f_len (by decide +kernel) (va_cons (ve_var (i := 6) (by rfl) (by exact .inl rfl) (by decide +kernel) (by decide +kernel)) va_nil (by rfl)) (by decide +kernel) (by decide +kernel) (by rfl) (by rfl)) ve_int) va_nil (by rfl)) (by rfl)) (by rfl)) (by decide +kernel) (by rfl) (by rfl)) (by rfl) (by exact .inl rfl))
  (vss_cons (vs_ret (ve_bop (add_ok hK) (ve_bop (add_ok hK) (ve_slice hK (ve_var (i := 6) (by rfl) (by exact .inl rfl) (by decide +kernel) (by decide +kernel)) vp_none (vp_some (ve_var (i := 7) (by rfl) (by exact .inl rfl) (by decide +kernel) (by decide +kernel)))) (ve_var (i := 5) (by rfl) (by exact .inl rfl) (by decide +kernel) (by decide +kernel))) (ve_slice hK (ve_var (i := 6) (by rfl) (by exact .inl rfl) (by decide +kernel) (by decide +kernel)) (vp_some (ve_var (i := 7) (by rfl) (by exact .inl rfl) (by decide +kernel) (by decide +kernel))) vp_none)))
  vss_nil))))
theorem v_44 (hK : G.K = K) (hG : G.hot = none) (F : Fs P K mg G.cls) (U : Us P w K mg base G k R R2) {f : Addr} {qual : PySem.Str} {cdv : Value} {A : Around} {outer : List Env} {s : Shared} {H : Hp} {E : XK} (hr : Room (k + 1) (A.deeper (envOfC qual (defScope (top 53)) s.heap.objs.size f cdv)))
    (tk : L2N.Takes (cxOf (L2N.CX P w) P w K mg base ["script", "draws", "count", "order", "orders", "drawn", "fitted", "closed", "texts", "books", "lines", "passed", "k", "at", "line"] qual (defScope (top 53)) f cdv A outer s H E) (fun cls d _ H => E cls d H)) (pp : PassesOwn (model P w) (A.deeper (envOfC qual (defScope (top 53)) s.heap.objs.size f cdv)) (envOfC qual (defScope (top 53)) s.heap.objs.size f cdv) (cxOf (L2N.CX P w) P w K mg base ["script", "draws", "count", "order", "orders", "drawn", "fitted", "closed", "texts", "books", "lines", "passed", "k", "at", "line"] qual (defScope (top 53)) f cdv A outer s H E).xe) :
    VSs (cxOf (L2N.CX P w) P w K mg base ["script", "draws", "count", "order", "orders", "drawn", "fitted", "closed", "texts", "books", "lines", "passed", "k", "at", "line"] qual (defScope (top 53)) f cdv A outer s H E) G (fun cls d _ H => E cls d H) (defBody (top 53)) (m_44 R R2) :=
  have hu := units_of hr
  have hu5 := units5_of hr
  have nd : (["script", "draws", "count", "order", "orders", "drawn", "fitted", "closed", "texts", "books", "lines", "passed", "k", "at", "line"] : List PySem.Str).Nodup := by decide +kernel
  (vss_cons (vs_set (i := 1) nd (by rfl) (by exact .inl rfl) (ve_call U.f__law_draws hr tk (by rfl) (va_cons (ve_var (i := 0) (by rfl) (by exact .inl rfl) (by decide +kernel) (by decide +kernel)) (va_cons ve_int va_nil (by rfl)) (by rfl)) (by decide +kernel) (by rfl) (by rfl)) (by rfl) (by exact .inl rfl))
  (vss_cons (vs_set (i := 2) nd (by rfl) (by exact .inl rfl) (ve_ix hK (ve_lst (vas_cons ve_int.vv (vas_cons ve_int.vv (vas_cons ve_int.vv (vas_cons ve_int.vv (vas_cons ve_int.vv (vas_cons ve_int.vv (vas_cons ve_int.vv (vas_cons (ve_bop (add_ok hK) ve_int (ve_call U.f__law_pick hr tk (by rfl) (va_cons (ve_var (i := 1) (by rfl) (by exact .inl rfl) (by decide +kernel) (by decide +kernel)) (va_cons ve_int (va_cons ve_int va_nil (by rfl)) (by rfl)) (by rfl)) (by decide +kernel) (by rfl) (by rfl))).vv vas_nil (by rfl)) (by rfl)) (by rfl)) (by rfl)) (by rfl)) (by rfl)) (by rfl)) (by rfl))) (ve_call U.f__law_pick hr tk (by rfl) (va_cons (ve_var (i := 1) (by rfl) (by exact .inl rfl) (by decide +kernel) (by decide +kernel)) (va_cons ve_int (va_cons ve_int va_nil (by rfl)) (by rfl)) (by rfl)) (by decide +kernel) (by rfl) (by rfl)) (fun _ _ => (by rfl))) (by rfl) (by exact .inl rfl))
  (vss_cons (vs_set (i := 3) nd (by rfl) (by exact .inr rfl) (ve_call U.f__law_ranking hr tk (by rfl) (va_cons (ve_var (i := 2) (by rfl) (by exact .inl rfl) (by decide +kernel) (by decide +kernel)) (va_cons (ve_call U.f__law_pick hr tk (by rfl) (va_cons (ve_var (i := 1) (by rfl) (by exact .inl rfl) (by decide +kernel) (by decide +kernel)) (va_cons ve_int (va_cons ve_int va_nil (by rfl)) (by rfl)) (by rfl)) (by decide +kernel) (by rfl) (by rfl)) va_nil (by rfl)) (by rfl)) (by decide +kernel) (by rfl) (by rfl)) (by rfl) (by exact .inl rfl))
  (vss_cons (vs_set (i := 4) nd (by rfl) (by exact .inl rfl) (ve_call U.f__law_orders hr tk (by rfl) (va_cons (ve_var (i := 2) (by rfl) (by exact .inl rfl) (by decide +kernel) (by decide +kernel)) va_nil (by rfl)) (by decide +kernel) (by rfl) (by rfl)) (by rfl) (by exact .inl rfl))
  (vss_cons (vs_set (i := 5) nd (by rfl) (by exact .inl rfl) (ve_call U.f__law_lines hr tk (by rfl) (va_cons (ve_var (i := 1) (by rfl) (by exact .inl rfl) (by decide +kernel) (by decide +kernel)) (va_cons ve_int (va_cons (ve_var (i := 2) (by rfl) (by exact .inl rfl) (by decide +kernel) (by decide +kernel)) (va_cons (ve_var (i := 3) (by rfl) (by exact .inr (.inl rfl)) (by decide +kernel) (by decide +kernel)) (va_cons ve_int va_nil (by rfl)) (by rfl)) (by rfl)) (by rfl)) (by rfl)) (by decide +kernel) (by rfl) (by rfl)) (by rfl) (by exact .inl rfl))
  (vss_cons (vs_setLc (i := 6) (own := [("line", 14)]) (is := [14]) (by rfl) nd (by rfl) (by rfl) (by rfl) (vi_src hK (ve_frz (i := 5) (by rfl) (by exact .inl rfl) (by decide +kernel) (by decide +kernel))) (blkOk_by (N := ["script", "draws", "count", "order", "orders", "drawn", "fitted", "closed", "texts", "books", "lines", "passed", "k", "at", "line"]) (sc := defScope (top 53)) (by decide +kernel)) (by decide +kernel) (fun _ _ _ _ _ => .ex (vg_name (i := 14) nd (by rfl) (by exact .inl rfl) (by exact .inr rfl))) (fun _ _ _ _ _ => vts_nil) (fun _ _ _ _ _ => (ve_ifExp (vt_truth hK (ve_call U.f__law_fits hr (takes_no _) (by rfl) (va_cons (ve_var (i := 3) (by rfl) (by exact .inr (.inl rfl)) (by decide +kernel) (by decide +kernel)) (va_cons (ve_var (i := 14) (by rfl) (by exact .inl rfl) (by decide +kernel) (by decide +kernel)) va_nil (by rfl)) (by rfl)) (by decide +kernel) (by rfl) (by rfl)) (fun _ => (by rfl))) (ve_frz (i := 14) (by rfl) (by exact .inl rfl) (by decide +kernel) (by decide +kernel)) (ve_call U.f__law_contrary hr (takes_no _) (by rfl) (va_cons (ve_var (i := 14) (by rfl) (by exact .inl rfl) (by decide +kernel) (by decide +kernel)) va_nil (by rfl)) (by decide +kernel) (by rfl) (by rfl))).vv) (fun _ => (by rfl)))
  (vss_cons (vs_set (i := 7) nd (by rfl) (by exact .inl rfl) (ve_call U.f__law_closed hr tk (by rfl) (va_cons (ve_var (i := 1) (by rfl) (by exact .inl rfl) (by decide +kernel) (by decide +kernel)) (va_cons ve_int (va_cons (ve_var (i := 2) (by rfl) (by exact .inl rfl) (by decide +kernel) (by decide +kernel)) (va_cons (ve_var (i := 3) (by rfl) (by exact .inr (.inl rfl)) (by decide +kernel) (by decide +kernel)) (va_cons (ve_var (i := 6) (by rfl) (by exact .inl rfl) (by decide +kernel) (by decide +kernel)) va_nil (by rfl)) (by rfl)) (by rfl)) (by rfl)) (by rfl)) (by decide +kernel) (by rfl) (by rfl)) (by rfl) (by exact .inl rfl))
  (vss_cons (vs_set (i := 8) nd (by rfl) (by exact .inl rfl) (ve_lst (vas_cons (ve_frz (i := 6) (by rfl) (by exact .inl rfl) (by decide +kernel) (by decide +kernel)).vv (vas_cons (ve_frz (i := 7) (by rfl) (by exact .inl rfl) (by decide +kernel) (by decide +kernel)).vv (vas_cons (ve_frz (i := 5) (by rfl) (by exact .inl rfl) (by decide +kernel) (by decide +kernel)).vv (vas_cons (ve_slice hK (ve_bop (add_ok hK) (ve_var (i := 6) (by rfl) (by exact .inl rfl) (by decide +kernel) (by decide +kernel)) (ve_var (i := 6) (by rfl) (by exact .inl rfl) (by decide +kernel) (by decide +kernel))) vp_none (vp_some ve_int)).vv (vas_cons (ve_lc (own := [("line", 14)]) (is := [14]) (by rfl) nd (vi_src hK (ve_frz (i := 5) (by rfl) (by exact .inl rfl) (by decide +kernel) (by decide +kernel))) (blkOk_by (N := ["script", "draws", "count", "order", "orders", "drawn", "fitted", "closed", "texts", "books", "lines", "passed", "k", "at", "line"]) (sc := defScope (top 53)) (by decide +kernel)) (by decide +kernel) (fun _ _ _ _ _ => .ex (vg_name (i := 14) nd (by rfl) (by exact .inl rfl) (by exact .inr rfl))) (fun _ _ _ _ _ => (vts_one (vt_cmp (notIn_ok hK hu5) (ve_str (s := [45]) (by rfl)) (ve_var (i := 14) (by rfl) (by exact .inl rfl) (by decide +kernel) (by decide +kernel)) (by rfl)))) (fun _ _ _ _ _ => (ve_frz (i := 14) (by rfl) (by exact .inl rfl) (by decide +kernel) (by decide +kernel)).vv) (fun _ => (by rfl))).vv (vas_cons (ve_slice hK (ve_var (i := 5) (by rfl) (by exact .inl rfl) (by decide +kernel) (by decide +kernel)) (vp_some (ve_neg ve_int)) vp_none).vv (vas_cons (ve_lst vas_nil).vv vas_nil (by rfl)) (by rfl)) (by rfl)) (by rfl)) (by rfl)) (by rfl)) (by rfl))) (by rfl) (by exact .inl rfl))
  (vss_cons (vs_set (i := 9) nd (by rfl) (by exact .inl rfl) (ve_lst vas_nil) (by rfl) (by exact .inl rfl))
  (vss_cons (vs_for pp (by rfl) (vi_src hK (ve_frz (i := 8) (by rfl) (by exact .inl rfl) (by decide +kernel) (by decide +kernel))) (.ex (vg_name (i := 10) nd (by rfl) (by exact .inl rfl) (by exact .inl rfl))) (vss_cons (vs_set (i := 11) nd (by rfl) (by exact .inl rfl) (ve_callTy (listS_ok (by rfl) hK) (by rfl) F.f_list (by decide +kernel) (va_cons (ve_var (i := 10) (by rfl) (by exact .inl rfl) (by decide +kernel) (by decide +kernel)) va_nil (by rfl)) (by decide +kernel) (by decide +kernel) (by rfl) (by rfl)) (by rfl) (by exact .inl rfl))
  (vss_cons (vs_expr (ve_wr (T := .list) (i := 9) (append_ok) (by rfl) (by exact .inl rfl) (by decide +kernel) (by decide +kernel) PySem.F.plainAttrs_list PySem.F.slot_list_append PySem.F.type_list_append (vas_cons (ve_make U.k_RowBook hr tk (by rfl) (va_cons (ve_frz (i := 2) (by rfl) (by exact .inl rfl) (by decide +kernel) (by decide +kernel)) (va_cons (ve_var (i := 11) (by rfl) (by exact .inl rfl) (by decide +kernel) (by decide +kernel)) va_nil (by rfl)) (by rfl)) (by decide +kernel) (by rfl) (by rfl)).vv vas_nil (by rfl)) (by rfl) (by rfl) (by rfl) (by rfl) (by rfl)) (by rfl))
  (vss_cons (vs_expr (ve_wr (T := .list) (i := 11) (insert_ok) (by rfl) (by exact .inl rfl) (by decide +kernel) (by decide +kernel) PySem.F.plainAttrs_list PySem.F.slot_list_insert PySem.F.type_list_insert (vas_cons ve_int.vv (vas_cons (ve_bop (mul_ok) (ve_str (s := [45]) (by rfl)) (ve_var (i := 2) (by rfl) (by exact .inl rfl) (by decide +kernel) (by decide +kernel))).vv vas_nil (by rfl)) (by rfl)) (by rfl) (by rfl) (by rfl) (by rfl) (by rfl)) (by rfl))
  vss_nil))) (fun _ => (by rfl)))
  (vss_cons (vs_for pp (by rfl) (vi_range1 (by rfl) F.f_range (vas_cons (ve_callB (len_ok hK) (by rfl) F.f_len (by decide +kernel) (va_cons (ve_var (i := 8) (by rfl) (by exact .inl rfl) (by decide +kernel) (by decide +kernel)) va_nil (by rfl)) (by decide +kernel) (by decide +kernel) (by rfl) (by rfl)).vv vas_nil (by rfl))) (.ex (vg_name (i := 12) nd (by rfl) (by exact .inl rfl) (by exact .inl rfl))) (vss_cons (vs_if (vt_not (vt_truth hK (ve_call U.f__law_right hr tk (by rfl) (va_cons (ve_var (i := 4) (by rfl) (by exact .inl rfl) (by decide +kernel) (by decide +kernel)) (va_cons (ve_ix hK (ve_var (i := 8) (by rfl) (by exact .inl rfl) (by decide +kernel) (by decide +kernel)) (ve_var (i := 12) (by rfl) (by exact .inl rfl) (by decide +kernel) (by decide +kernel)) (fun _ _ => (by rfl))) (va_cons (ve_ix hK (ve_var (i := 9) (by rfl) (by exact .inl rfl) (by decide +kernel) (by decide +kernel)) (ve_var (i := 12) (by rfl) (by exact .inl rfl) (by decide +kernel) (by decide +kernel)) (fun _ _ => (by rfl))) va_nil (by rfl)) (by rfl)) (by rfl)) (by decide +kernel) (by rfl) (by rfl)) (fun _ => (by rfl)))) (vss_cons (vs_ret ve_bl)
  vss_nil) vss_nil)
  vss_nil) (fun _ => (by rfl)))
  (vss_cons (vs_for pp (by rfl) (vi_range1 (by rfl) F.f_range (vas_cons (ve_callB (len_ok hK) (by rfl) F.f_len (by decide +kernel) (va_cons (ve_var (i := 8) (by rfl) (by exact .inl rfl) (by decide +kernel) (by decide +kernel)) va_nil (by rfl)) (by decide +kernel) (by decide +kernel) (by rfl) (by rfl)).vv vas_nil (by rfl))) (.ex (vg_name (i := 12) nd (by rfl) (by exact .inl rfl) (by exact .inl rfl))) (vss_cons (vs_set (i := 13) nd (by rfl) (by exact .inl rfl) (ve_bop (sub_ok) (ve_bop (sub_ok) (ve_callB (len_ok hK) (by rfl) F.f_len (by decide +kernel) (va_cons (ve_var (i := 8) (by rfl) (by exact .inl rfl) (by decide +kernel) (by decide +kernel)) va_nil (by rfl)) (by decide +kernel) (by decide +kernel) (by rfl) (by rfl)) ve_int) (ve_var (i := 12) (by rfl) (by exact .inl rfl) (by decide +kernel) (by decide +kernel))) (by rfl) (by exact .inl rfl))
  (vss_cons (vs_if (vw_or (vt_not (vt_truth hK (ve_call U.f__law_right hr tk (by rfl) (va_cons (ve_var (i := 4) (by rfl) (by exact .inl rfl) (by decide +kernel) (by decide +kernel)) (va_cons (ve_ix hK (ve_var (i := 8) (by rfl) (by exact .inl rfl) (by decide +kernel) (by decide +kernel)) (ve_var (i := 13) (by rfl) (by exact .inl rfl) (by decide +kernel) (by decide +kernel)) (fun _ _ => (by rfl))) (va_cons (ve_ix hK (ve_var (i := 9) (by rfl) (by exact .inl rfl) (by decide +kernel) (by decide +kernel)) (ve_var (i := 13) (by rfl) (by exact .inl rfl) (by decide +kernel) (by decide +kernel)) (fun _ _ => (by rfl))) va_nil (by rfl)) (by rfl)) (by rfl)) (by decide +kernel) (by rfl) (by rfl)) (fun _ => (by rfl)))) (vw_or1 (vt_not (vt_truth hK (ve_call U.f__law_same hr tk (by rfl) (va_cons (ve_fld F.flds (ve_ix hK (ve_var (i := 9) (by rfl) (by exact .inl rfl) (by decide +kernel) (by decide +kernel)) (ve_var (i := 13) (by rfl) (by exact .inl rfl) (by decide +kernel) (by decide +kernel)) (fun _ _ => (by rfl))) (by rfl)) (va_cons (ve_ix hK (ve_var (i := 8) (by rfl) (by exact .inl rfl) (by decide +kernel) (by decide +kernel)) (ve_var (i := 13) (by rfl) (by exact .inl rfl) (by decide +kernel) (by decide +kernel)) (fun _ _ => (by rfl))) va_nil (by rfl)) (by rfl)) (by decide +kernel) (by rfl) (by rfl)) (fun _ => (by rfl)))))).vt (vss_cons (vs_ret ve_bl)
  vss_nil) vss_nil)
  vss_nil)) (fun _ => (by rfl)))
  (vss_cons (vs_ret ve_bl)
  vss_nil)))))))))))))
theorem vh_40 (hK : G.K = K) (F : Fs P K mg G.cls) {f : Addr} {qual : PySem.Str} {cdv : Value} {A : Around} {outer : List Env} {s : Shared} {H : Hp} {E : XK} {p0 : Addr × Obj} (hot : HotG (L2H.cxH (L2N.CX P w) P w K mg base ["e", "told", "k"] qual (defScope (top 49)) f cdv A outer s H E p0) G) (hr : L2H.RoomH (k + 1) (A.deeper (envOfC qual (defScope (top 49)) s.heap.objs.size f cdv)))
    (tk : L2N.Takes (L2H.cxH (L2N.CX P w) P w K mg base ["e", "told", "k"] qual (defScope (top 49)) f cdv A outer s H E p0) (fun cls d _ H => E cls d H)) :
    VSs (L2H.cxH (L2N.CX P w) P w K mg base ["e", "told", "k"] qual (defScope (top 49)) f cdv A outer s H E p0) G (fun cls d _ H => E cls d H) (defBody (top 49)) (mh_40 R R2) :=
  have hu := unitsH_of hr
  have hu5 := unitsH5_of hr
  have nd : (["e", "told", "k"] : List PySem.Str).Nodup := by decide +kernel
  (vss_cons (vs_set (i := 1) nd (by rfl) (by exact .inl rfl) (ve_lst (vas_cons (ve_xisi hot F.xi_AtOdds (.own _) (by rfl) F.f_isinstance (ve_var (i := 0) (by rfl) (by exact .inl rfl) (by decide +kernel) (by decide +kernel)) (pe_glob (v := (.ref (G.cls 6))) (by rfl) F.g_AtOdds (by rfl) (by decide +kernel)) (by rfl) (by rfl) (by rfl)).vv (vas_cons (ve_xisi hot F.xi_BadRow (.own _) (by rfl) F.f_isinstance (ve_var (i := 0) (by rfl) (by exact .inl rfl) (by decide +kernel) (by decide +kernel)) (pe_glob (v := (.ref (G.cls 4))) (by rfl) F.g_BadRow (by rfl) (by decide +kernel)) (by rfl) (by rfl) (by rfl)).vv (vas_cons (ve_xisi hot F.xi_BadLetters (.own _) (by rfl) F.f_isinstance (ve_var (i := 0) (by rfl) (by exact .inl rfl) (by decide +kernel) (by decide +kernel)) (pe_glob (v := (.ref (G.cls 2))) (by rfl) F.g_BadLetters (by rfl) (by decide +kernel)) (by rfl) (by rfl) (by rfl)).vv (vas_cons (ve_xisi hot F.xi_TooMany (.own _) (by rfl) F.f_isinstance (ve_var (i := 0) (by rfl) (by exact .inl rfl) (by decide +kernel) (by decide +kernel)) (pe_glob (v := (.ref (G.cls 1))) (by rfl) F.g_TooMany (by rfl) (by decide +kernel)) (by rfl) (by rfl) (by rfl)).vv vas_nil (by rfl)) (by rfl)) (by rfl)) (by rfl))) (by rfl) (by exact .inl rfl))
  (vss_cons (vs_set (i := 1) nd (by rfl) (by exact .inl rfl) (ve_bop (add_ok hK) (ve_var (i := 1) (by rfl) (by exact .inl rfl) (by decide +kernel) (by decide +kernel)) (ve_lst (vas_cons (ve_xisi hot F.xi_NotFitting (.own _) (by rfl) F.f_isinstance (ve_var (i := 0) (by rfl) (by exact .inl rfl) (by decide +kernel) (by decide +kernel)) (pe_glob (v := (.ref (G.cls 5))) (by rfl) F.g_NotFitting (by rfl) (by decide +kernel)) (by rfl) (by rfl) (by rfl)).vv (vas_cons (ve_xisi hot F.xi_BadPlace (.own _) (by rfl) F.f_isinstance (ve_var (i := 0) (by rfl) (by exact .inl rfl) (by decide +kernel) (by decide +kernel)) (pe_glob (v := (.ref (G.cls 3))) (by rfl) F.g_BadPlace (by rfl) (by decide +kernel)) (by rfl) (by rfl) (by rfl)).vv vas_nil (by rfl)) (by rfl)))) (by rfl) (by exact .inl rfl))
  (vss_cons (vs_if (vw_or (vt_not (vt_truth hK (ve_xisi hot F.xi_ValueError (.ty _) (by rfl) F.f_isinstance (ve_var (i := 0) (by rfl) (by exact .inl rfl) (by decide +kernel) (by decide +kernel)) (pe_bltn (v := (.ty "ValueError")) (u := .type "ValueError") (by rfl) F.f_ValueError (by decide +kernel) (by rfl) (by decide +kernel) (by decide +kernel)) (by rfl) (by rfl) (by rfl)) (fun _ => (by rfl)))) (vw_or1 (vt_cmp (ne_ok hK hu) (ve_callB (len_ok hK) (by rfl) F.f_len (by decide +kernel) (va_cons (ve_lcX (own := [("k", 2)]) (is := [2]) hot hK nd (ve_frz (i := 1) (by rfl) (by exact .inl rfl) (by decide +kernel) (by decide +kernel)) (blkOk_by (N := ["e", "told", "k"]) (sc := defScope (top 49)) (by decide +kernel)) (by decide +kernel) (fun _ _ _ _ _ => .ex (vg_name (i := 2) nd (by rfl) (by exact .inl rfl) (by exact .inr rfl))) (fun _ _ _ _ _ => (vts_one (vt_truth hK (ve_var (i := 2) (by rfl) (by exact .inl rfl) (by decide +kernel) (by decide +kernel)) (fun _ => (by rfl))))) (fun _ _ _ _ _ => (ve_frz (i := 2) (by rfl) (by exact .inl rfl) (by decide +kernel) (by decide +kernel)).vv) (fun _ => (by rfl))) va_nil (by rfl)) (by decide +kernel) (by decide +kernel) (by rfl) (by rfl)) ve_int (by rfl)))).vt (vss_cons (vs_ret (ve_tup (vas_cons (ve_str (s := [119, 114, 111, 110, 103]) (by rfl)).vv (vas_cons ve_non.vv vas_nil (by rfl)) (by rfl))))
  vss_nil) vss_nil)
  (vss_cons (vs_if (vt_truth hK (ve_ix hK (ve_var (i := 1) (by rfl) (by exact .inl rfl) (by decide +kernel) (by decide +kernel)) ve_int (fun _ _ => (by rfl))) (fun _ => (by rfl))) (vss_cons (vs_ret (ve_tup (vas_cons (ve_str (s := [111, 100, 100, 115]) (by rfl)).vv (vas_cons (ve_xfld hot F.xflds (ve_var (i := 0) (by rfl) (by exact .inl rfl) (by decide +kernel) (by decide +kernel)) (by rfl)).vv vas_nil (by rfl)) (by rfl))))
  vss_nil) vss_nil)
  (vss_cons (vs_if (vt_truth hK (ve_ix hK (ve_var (i := 1) (by rfl) (by exact .inl rfl) (by decide +kernel) (by decide +kernel)) ve_int (fun _ _ => (by rfl))) (fun _ => (by rfl))) (vss_cons (vs_ret (ve_tup (vas_cons (ve_str (s := [114, 111, 119]) (by rfl)).vv (vas_cons (ve_xfld hot F.xflds (ve_var (i := 0) (by rfl) (by exact .inl rfl) (by decide +kernel) (by decide +kernel)) (by rfl)).vv vas_nil (by rfl)) (by rfl))))
  vss_nil) vss_nil)
  (vss_cons (vs_if (vt_truth hK (ve_ix hK (ve_var (i := 1) (by rfl) (by exact .inl rfl) (by decide +kernel) (by decide +kernel)) ve_int (fun _ _ => (by rfl))) (fun _ => (by rfl))) (vss_cons (vs_ret (ve_tup (vas_cons (ve_str (s := [108, 101, 116, 116, 101, 114, 115]) (by rfl)).vv (vas_cons ve_non.vv vas_nil (by rfl)) (by rfl))))
  vss_nil) vss_nil)
  (vss_cons (vs_if (vt_truth hK (ve_ix hK (ve_var (i := 1) (by rfl) (by exact .inl rfl) (by decide +kernel) (by decide +kernel)) ve_int (fun _ _ => (by rfl))) (fun _ => (by rfl))) (vss_cons (vs_ret (ve_tup (vas_cons (ve_str (s := [109, 97, 110, 121]) (by rfl)).vv (vas_cons (ve_xfld hot F.xflds (ve_var (i := 0) (by rfl) (by exact .inl rfl) (by decide +kernel) (by decide +kernel)) (by rfl)).vv vas_nil (by rfl)) (by rfl))))
  vss_nil) vss_nil)
  (vss_cons (vs_if (vt_truth hK (ve_ix hK (ve_var (i := 1) (by rfl) (by exact .inl rfl) (by decide +kernel) (by decide +kernel)) ve_int (fun _ _ => (by rfl))) (fun _ => (by rfl))) (vss_cons (vs_ret (ve_tup (vas_cons (ve_str (s := [102, 105, 116, 116, 105, 110, 103]) (by rfl)).vv (vas_cons (ve_xfld hot F.xflds (ve_var (i := 0) (by rfl) (by exact .inl rfl) (by decide +kernel) (by decide +kernel)) (by rfl)).vv vas_nil (by rfl)) (by rfl))))
  vss_nil) vss_nil)
  (vss_cons (vs_ret (ve_tup (vas_cons (ve_str (s := [112, 108, 97, 99, 101]) (by rfl)).vv (vas_cons (ve_xfld hot F.xflds (ve_var (i := 0) (by rfl) (by exact .inl rfl) (by decide +kernel) (by decide +kernel)) (by rfl)).vv vas_nil (by rfl)) (by rfl))))
  vss_nil)))))))))
end
end LW

set_option maxHeartbeats 200000
set_option maxHeartbeats 0
namespace LW
open PySem PySem.Spec L2 VL
open PyProof.Rows (envOfC)
/-! ### the head -/
abbrev PR : Program := PySem.Challenge.pw_rankedtongues_k16_first_ranking_that_fit
def cn : Nat → PySem.Str
  | 0 => "TongueError"
  | 1 => "TooMany"
  | 2 => "BadLetters"
  | 3 => "BadPlace"
  | 4 => "BadRow"
  | 5 => "NotFitting"
  | 6 => "AtOdds"
  | 7 => "RowBook"
  | _ => ""
def D_3 : He.DefD := ⟨("goods", none), "goods", "goods", defArgs (top 15), defBody (top 15), defScope (top 15), [], []⟩
def D_4 : He.DefD := ⟨("bads", none), "bads", "bads", defArgs (top 16), defBody (top 16), defScope (top 16), [], []⟩
def D_6 : He.DefD := ⟨("mask_of", none), "mask_of", "mask_of", defArgs (top 18), defBody (top 18), defScope (top 18), [], []⟩
def D_7 : He.DefD := ⟨("row_masks", none), "row_masks", "row_masks", defArgs (top 19), defBody (top 19), defScope (top 19), [], []⟩
def D_8 : He.DefD := ⟨("is_row", none), "is_row", "is_row", defArgs (top 20), defBody (top 20), defScope (top 20), [], []⟩
def D_9 : He.DefD := ⟨("RowBook", some "__init__"), "__init__", "RowBook.__init__", defArgs (inClass (top 21) 0), defBody (inClass (top 21) 0), defScope (inClass (top 21) 0), [], []⟩
def D_16 : He.DefD := ⟨("strata_of", none), "strata_of", "strata_of", defArgs (top 24), defBody (top 24), defScope (top 24), [], []⟩
def D_17 : He.DefD := ⟨("masks_consistent", none), "masks_consistent", "masks_consistent", defArgs (top 25), defBody (top 25), defScope (top 25), [], []⟩
def D_18 : He.DefD := ⟨("least_lot", none), "least_lot", "least_lot", defArgs (top 26), defBody (top 26), defScope (top 26), [], []⟩
def D_19 : He.DefD := ⟨("check_consistent", none), "check_consistent", "check_consistent", defArgs (top 27), defBody (top 27), defScope (top 27), [], []⟩
def D_20 : He.DefD := ⟨("needs_of", none), "needs_of", "needs_of", defArgs (top 28), defBody (top 28), defScope (top 28), [], []⟩
def D_21 : He.DefD := ⟨("may_come", none), "may_come", "may_come", defArgs (top 29), defBody (top 29), defScope (top 29), [], []⟩
def D_22 : He.DefD := ⟨("first_letters", none), "first_letters", "first_letters", defArgs (top 30), defBody (top 30), defScope (top 30), [], []⟩
def D_23 : He.DefD := ⟨("first_ranking", none), "first_ranking", "first_ranking", defArgs (top 31), defBody (top 31), defScope (top 31), [], []⟩
def D_24 : He.DefD := ⟨("_law_mix", none), "_law_mix", "_law_mix", defArgs (top 33), defBody (top 33), defScope (top 33), [], []⟩
def D_25 : He.DefD := ⟨("_law_draws", none), "_law_draws", "_law_draws", defArgs (top 34), defBody (top 34), defScope (top 34), [], []⟩
def D_26 : He.DefD := ⟨("_law_pick", none), "_law_pick", "_law_pick", defArgs (top 35), defBody (top 35), defScope (top 35), [], []⟩
def D_27 : He.DefD := ⟨("_law_same", none), "_law_same", "_law_same", defArgs (top 36), defBody (top 36), defScope (top 36), [], []⟩
def D_28 : He.DefD := ⟨("_law_ranking", none), "_law_ranking", "_law_ranking", defArgs (top 37), defBody (top 37), defScope (top 37), [], []⟩
def D_29 : He.DefD := ⟨("_law_orders", none), "_law_orders", "_law_orders", defArgs (top 38), defBody (top 38), defScope (top 38), [], []⟩
def D_30 : He.DefD := ⟨("_law_line", none), "_law_line", "_law_line", defArgs (top 39), defBody (top 39), defScope (top 39), [], []⟩
def D_31 : He.DefD := ⟨("_law_contrary", none), "_law_contrary", "_law_contrary", defArgs (top 40), defBody (top 40), defScope (top 40), [], []⟩
def D_32 : He.DefD := ⟨("_law_fits", none), "_law_fits", "_law_fits", defArgs (top 41), defBody (top 41), defScope (top 41), [], []⟩
def D_33 : He.DefD := ⟨("_law_round", none), "_law_round", "_law_round", defArgs (top 42), defBody (top 42), defScope (top 42), [], []⟩
def D_34 : He.DefD := ⟨("_law_lines", none), "_law_lines", "_law_lines", defArgs (top 43), defBody (top 43), defScope (top 43), [], []⟩
def D_35 : He.DefD := ⟨("_law_all", none), "_law_all", "_law_all", defArgs (top 44), defBody (top 44), defScope (top 44), [], []⟩
def D_36 : He.DefD := ⟨("_law_first", none), "_law_first", "_law_first", defArgs (top 45), defBody (top 45), defScope (top 45), [], []⟩
def D_37 : He.DefD := ⟨("_law_marked", none), "_law_marked", "_law_marked", defArgs (top 46), defBody (top 46), defScope (top 46), [], []⟩
def D_38 : He.DefD := ⟨("_law_peel", none), "_law_peel", "_law_peel", defArgs (top 47), defBody (top 47), defScope (top 47), [], []⟩
def D_39 : He.DefD := ⟨("_law_lot_right", none), "_law_lot_right", "_law_lot_right", defArgs (top 48), defBody (top 48), defScope (top 48), [], []⟩
def D_40 : He.DefD := ⟨("_law_error", none), "_law_error", "_law_error", defArgs (top 49), defBody (top 49), defScope (top 49), [], []⟩
def D_41 : He.DefD := ⟨("_law_ask", none), "_law_ask", "_law_ask", defArgs (top 50), defBody (top 50), defScope (top 50), [], []⟩
def D_42 : He.DefD := ⟨("_law_right", none), "_law_right", "_law_right", defArgs (top 51), defBody (top 51), defScope (top 51), [], []⟩
def D_43 : He.DefD := ⟨("_law_closed", none), "_law_closed", "_law_closed", defArgs (top 52), defBody (top 52), defScope (top 52), [], []⟩
def D_44 : He.DefD := ⟨("law", none), "law", "law", defArgs (top 53), defBody (top 53), defScope (top 53), [], []⟩
def DI_RowBook : He.DefD := ⟨("RowBook", some "__iter__"), "__iter__", "RowBook.__iter__", defArgs (inClass (top 21) 6), defBody (inClass (top 21) 6), defScope (inClass (top 21) 6), [], []⟩
def fn : List He.DefD := [D_3, D_4, D_6, D_7, D_8, D_9, D_16, D_17, D_18, D_19, D_20, D_21, D_22, D_23, D_24, D_25, D_26, D_27, D_28, D_29, D_30, D_31, D_32, D_33, D_34, D_35, D_36, D_37, D_38, D_39, D_40, D_41, D_42, D_43, D_44, DI_RowBook]
def fa : List He.Fa := [.glo "goods", .glo "bads", .glo "mask_of", .glo "row_masks", .glo "is_row", .glo "strata_of", .glo "masks_consistent", .glo "least_lot", .glo "check_consistent", .glo "needs_of", .glo "may_come", .glo "first_letters", .glo "first_ranking", .glo "_law_mix", .glo "_law_draws", .glo "_law_pick", .glo "_law_same", .glo "_law_ranking", .glo "_law_orders", .glo "_law_line", .glo "_law_contrary", .glo "_law_fits", .glo "_law_round", .glo "_law_lines", .glo "_law_all", .glo "_law_first", .glo "_law_marked", .glo "_law_peel", .glo "_law_lot_right", .glo "_law_error", .glo "_law_ask", .glo "_law_right", .glo "_law_closed", .glo "law", .mkr "RowBook", .glo "RowBook", .meth "RowBook" "__iter__", .free "iter", .glo "AtOdds", .glo "BadLetters", .glo "BadPlace", .glo "BadRow", .glo "NotFitting", .glo "TongueError", .glo "TooMany", .free "ValueError", .free "abs", .free "bool", .free "enumerate", .free "int", .free "isinstance", .free "len", .free "list", .free "min", .free "range", .free "str", .free "sum", .free "tuple", .free "zip", .int "ALL_RULES" (63), .int "MOST_ROWS" (60), .int "MOST_RULES" (6), .str "RULE_LETTERS" (toS [65, 66, 67, 68, 69, 70])]
def exs : List (Fr → Bool) := [flB cn flds, xflB cn xflds, isB cn is_AtOdds (fun K => .ref (He.ga K "AtOdds")), isB cn is_BadLetters (fun K => .ref (He.ga K "BadLetters")), isB cn is_BadPlace (fun K => .ref (He.ga K "BadPlace")), isB cn is_BadRow (fun K => .ref (He.ga K "BadRow")), isB cn is_NotFitting (fun K => .ref (He.ga K "NotFitting")), isB cn is_RowBook (fun K => .ref (He.ga K "RowBook")), isB cn is_TooMany (fun K => .ref (He.ga K "TooMany")), isB cn is_ValueError (fun _ => .type "ValueError"), isB cn is_bool (fun _ => .type "bool"), isB cn is_int (fun _ => .type "int"), isB cn is_str (fun _ => .type "str"), isB cn is_tuple (fun _ => .type "tuple"), xiB cn xi_AtOdds (fun K => .ref (He.ga K "AtOdds")), xiB cn xi_BadLetters (fun K => .ref (He.ga K "BadLetters")), xiB cn xi_BadPlace (fun K => .ref (He.ga K "BadPlace")), xiB cn xi_BadRow (fun K => .ref (He.ga K "BadRow")), xiB cn xi_NotFitting (fun K => .ref (He.ga K "NotFitting")), xiB cn xi_TooMany (fun K => .ref (He.ga K "TooMany")), xiB cn xi_ValueError (fun _ => .type "ValueError"), caB cn ca_TongueError "TongueError"]
def X_AtOdds : XD := ⟨"AtOdds", "lot", "__init__", "AtOdds.__init__", defArgs (inClass (top 8) 0), defBody (inClass (top 8) 0), defScope (inClass (top 8) 0)⟩
def X_BadRow : XD := ⟨"BadRow", "place", "__init__", "BadRow.__init__", defArgs (inClass (top 6) 0), defBody (inClass (top 6) 0), defScope (inClass (top 6) 0)⟩
def X_TooMany : XD := ⟨"TooMany", "limit", "__init__", "TooMany.__init__", defArgs (inClass (top 3) 0), defBody (inClass (top 3) 0), defScope (inClass (top 3) 0)⟩
def xs : List XD := [X_AtOdds, X_BadRow, X_TooMany]
abbrev RR : PySem.W.OpenRow := PySem.W.OpenLaw.row PySem.Challenge.rw_rankedtongues_k16_first_ranking_that_fit
abbrev hk : PySem.W.Hook := hookV 5 fa fn exs xs PR.main.file
def ob (s : PySem.W.SharedT) : AlV := obsVG 5 fa fn exs xs PR.main.file (HandSHeadRun.getT s)
theorem ob_eq (s : PySem.W.SharedT) : ob s = hk.obs s.abs := obsVG_eq (HandSHeadRun.getT_eq s)
def loose : List PySem.Str := (["_wall", "TongueError", "TooMany", "BadLetters", "BadPlace", "BadRow", "NotFitting", "AtOdds", "RULE_LETTERS", "MOST_RULES", "MOST_ROWS", "letters_of", "is_ranking", "goods", "bads", "fits", "mask_of", "row_masks", "is_row", "RowBook", "ALL_RULES", "strata_of", "masks_consistent", "least_lot", "check_consistent", "needs_of", "may_come", "first_letters", "first_ranking", "_law_mix"] : List PySem.Str) ++ (["_law_draws", "_law_pick", "_law_same", "_law_ranking", "_law_orders", "_law_line", "_law_contrary", "_law_fits", "_law_round", "_law_lines", "_law_all", "_law_first", "_law_marked", "_law_peel", "_law_lot_right", "_law_error", "_law_ask", "_law_right", "_law_closed"] : List PySem.Str)
theorem runs (w : World) : HandSHeadRun.RunEq RR (PySem.W.view RR.prog [53]) hk ob 4000 loose w := by
  intro os
  kernel_rfl
/-! ### the facts -/
abbrev clsK (K : Fr) : Nat → Addr := fun c => He.ga K (cn c)
abbrev Says (K : Fr) : Prop := SaysV fa fn exs xs PR.main.file K
theorem xc_AtOdds {K : Fr} (c : Says K) : ∃ fI, VX.XC PR K (clsK K 6) fI "lot" :=
  xc_of (d := X_AtOdds) (c.xd 0 (by rfl)).1 (c.xd 0 (by rfl)).2 (by decide +kernel) (by rfl) (by rfl) (by rfl) (by decide) (by decide) (by rfl) (by rfl) (by rfl) (by decide +kernel) (by decide +kernel) (by decide +kernel) (by decide +kernel) (by decide +kernel) (fun _ _ _ _ _ _ _ _ _ _ => by rfl) ⟨_, fun _ => by rfl⟩
theorem xc_BadRow {K : Fr} (c : Says K) : ∃ fI, VX.XC PR K (clsK K 4) fI "place" :=
  xc_of (d := X_BadRow) (c.xd 1 (by rfl)).1 (c.xd 1 (by rfl)).2 (by decide +kernel) (by rfl) (by rfl) (by rfl) (by decide) (by decide) (by rfl) (by rfl) (by rfl) (by decide +kernel) (by decide +kernel) (by decide +kernel) (by decide +kernel) (by decide +kernel) (fun _ _ _ _ _ _ _ _ _ _ => by rfl) ⟨_, fun _ => by rfl⟩
theorem xc_TooMany {K : Fr} (c : Says K) : ∃ fI, VX.XC PR K (clsK K 1) fI "limit" :=
  xc_of (d := X_TooMany) (c.xd 2 (by rfl)).1 (c.xd 2 (by rfl)).2 (by decide +kernel) (by rfl) (by rfl) (by rfl) (by decide) (by decide) (by rfl) (by rfl) (by rfl) (by decide +kernel) (by decide +kernel) (by decide +kernel) (by decide +kernel) (by decide +kernel) (fun _ _ _ _ _ _ _ _ _ _ => by rfl) ⟨_, fun _ => by rfl⟩
theorem it_RowBook {K : Fr} {h : Heap} {mg : PySem.Str → Option Value} (c : Says K) (X : K.In h) (G : h.Ns mainGlobals mg) (hf : FldsOk K ⟨K, clsK K, none⟩ flds) (w : World) : ∃ fi fd, ItK PR w K mg 1 (clsK K 7) fi fd "rows" := by
  obtain ⟨fd, F⟩ := c.d.def_ 35 (d := DI_RowBook) (by rfl)
  have M := He.meth_ok (c.d.fact 36 (f := .meth "RowBook" "__iter__") (by rfl))
  have S : FnScope ["self"] ["self"] (defScope (inClass (top 21) 6)) := ⟨by rfl, by rfl, by rfl, by decide +kernel, by rfl, by decide +kernel, by decide +kernel⟩
  have q := hf (7, "rows") (by decide +kernel)
  exact ⟨_, fd, fun base _ _ => fn_it (k := 0) F (by rfl) S (by rfl) (by rfl) (He.free_ok X G (c.d.fact 37 (f := .free "iter") (by rfl))), FunD.bindsN (ps := ["self"]) F (fun _ _ _ _ _ _ us hl => match us, hl with | [_], _ => by rfl), M.at_, M.fn, q.1, q.2⟩
theorem facts {K : Fr} {h : Heap} {mg : PySem.Str → Option Value} (c : Says K) (X : K.In h) (G : h.Ns mainGlobals mg) : Fs PR K mg (clsK K) where
  f_ValueError := He.free_ok X G (c.d.fact 45 (f := .free "ValueError") (by rfl))
  f_abs := He.free_ok X G (c.d.fact 46 (f := .free "abs") (by rfl))
  f_bool := He.free_ok X G (c.d.fact 47 (f := .free "bool") (by rfl))
  f_enumerate := He.free_ok X G (c.d.fact 48 (f := .free "enumerate") (by rfl))
  f_int := He.free_ok X G (c.d.fact 49 (f := .free "int") (by rfl))
  f_isinstance := He.free_ok X G (c.d.fact 50 (f := .free "isinstance") (by rfl))
  f_len := He.free_ok X G (c.d.fact 51 (f := .free "len") (by rfl))
  f_list := He.free_ok X G (c.d.fact 52 (f := .free "list") (by rfl))
  f_min := He.free_ok X G (c.d.fact 53 (f := .free "min") (by rfl))
  f_range := He.free_ok X G (c.d.fact 54 (f := .free "range") (by rfl))
  f_str := He.free_ok X G (c.d.fact 55 (f := .free "str") (by rfl))
  f_sum := He.free_ok X G (c.d.fact 56 (f := .free "sum") (by rfl))
  f_tuple := He.free_ok X G (c.d.fact 57 (f := .free "tuple") (by rfl))
  f_zip := He.free_ok X G (c.d.fact 58 (f := .free "zip") (by rfl))
  g_AtOdds := He.glo_ok X G (c.d.fact 38 (f := .glo "AtOdds") (by rfl))
  g_BadLetters := He.glo_ok X G (c.d.fact 39 (f := .glo "BadLetters") (by rfl))
  g_BadPlace := He.glo_ok X G (c.d.fact 40 (f := .glo "BadPlace") (by rfl))
  g_BadRow := He.glo_ok X G (c.d.fact 41 (f := .glo "BadRow") (by rfl))
  g_NotFitting := He.glo_ok X G (c.d.fact 42 (f := .glo "NotFitting") (by rfl))
  g_RowBook := He.glo_ok X G (c.d.fact 35 (f := .glo "RowBook") (by rfl))
  g_TongueError := He.glo_ok X G (c.d.fact 43 (f := .glo "TongueError") (by rfl))
  g_TooMany := He.glo_ok X G (c.d.fact 44 (f := .glo "TooMany") (by rfl))
  c_ALL_RULES := He.int_ok X G (c.d.fact 59 (f := .int "ALL_RULES" (63)) (by rfl))
  c_MOST_ROWS := He.int_ok X G (c.d.fact 60 (f := .int "MOST_ROWS" (60)) (by rfl))
  c_MOST_RULES := He.int_ok X G (c.d.fact 61 (f := .int "MOST_RULES" (6)) (by rfl))
  c_RULE_LETTERS := He.str_ok X G (c.d.fact 62 (f := .str "RULE_LETTERS" (toS [65, 66, 67, 68, 69, 70])) (by rfl))
  flds := flB_ok (c.ex_ 0 (f := flB cn flds) (by rfl))
  xflds := xflB_ok (c.ex_ 1 (f := xflB cn xflds) (by rfl))
  is_AtOdds := isB_ok (u := (fun K => .ref (He.ga K "AtOdds"))) (c.ex_ 2 (f := isB cn is_AtOdds (fun K => .ref (He.ga K "AtOdds"))) (by rfl))
  is_BadLetters := isB_ok (u := (fun K => .ref (He.ga K "BadLetters"))) (c.ex_ 3 (f := isB cn is_BadLetters (fun K => .ref (He.ga K "BadLetters"))) (by rfl))
  is_BadPlace := isB_ok (u := (fun K => .ref (He.ga K "BadPlace"))) (c.ex_ 4 (f := isB cn is_BadPlace (fun K => .ref (He.ga K "BadPlace"))) (by rfl))
  is_BadRow := isB_ok (u := (fun K => .ref (He.ga K "BadRow"))) (c.ex_ 5 (f := isB cn is_BadRow (fun K => .ref (He.ga K "BadRow"))) (by rfl))
  is_NotFitting := isB_ok (u := (fun K => .ref (He.ga K "NotFitting"))) (c.ex_ 6 (f := isB cn is_NotFitting (fun K => .ref (He.ga K "NotFitting"))) (by rfl))
  is_RowBook := isB_ok (u := (fun K => .ref (He.ga K "RowBook"))) (c.ex_ 7 (f := isB cn is_RowBook (fun K => .ref (He.ga K "RowBook"))) (by rfl))
  is_TooMany := isB_ok (u := (fun K => .ref (He.ga K "TooMany"))) (c.ex_ 8 (f := isB cn is_TooMany (fun K => .ref (He.ga K "TooMany"))) (by rfl))
  is_ValueError := isB_ok (u := (fun _ => .type "ValueError")) (c.ex_ 9 (f := isB cn is_ValueError (fun _ => .type "ValueError")) (by rfl))
  is_bool := isB_ok (u := (fun _ => .type "bool")) (c.ex_ 10 (f := isB cn is_bool (fun _ => .type "bool")) (by rfl))
  is_int := isB_ok (u := (fun _ => .type "int")) (c.ex_ 11 (f := isB cn is_int (fun _ => .type "int")) (by rfl))
  is_str := isB_ok (u := (fun _ => .type "str")) (c.ex_ 12 (f := isB cn is_str (fun _ => .type "str")) (by rfl))
  is_tuple := isB_ok (u := (fun _ => .type "tuple")) (c.ex_ 13 (f := isB cn is_tuple (fun _ => .type "tuple")) (by rfl))
  xi_AtOdds := xiB_ok (u := (fun K => .ref (He.ga K "AtOdds"))) (c.ex_ 14 (f := xiB cn xi_AtOdds (fun K => .ref (He.ga K "AtOdds"))) (by rfl))
  xi_BadLetters := xiB_ok (u := (fun K => .ref (He.ga K "BadLetters"))) (c.ex_ 15 (f := xiB cn xi_BadLetters (fun K => .ref (He.ga K "BadLetters"))) (by rfl))
  xi_BadPlace := xiB_ok (u := (fun K => .ref (He.ga K "BadPlace"))) (c.ex_ 16 (f := xiB cn xi_BadPlace (fun K => .ref (He.ga K "BadPlace"))) (by rfl))
  xi_BadRow := xiB_ok (u := (fun K => .ref (He.ga K "BadRow"))) (c.ex_ 17 (f := xiB cn xi_BadRow (fun K => .ref (He.ga K "BadRow"))) (by rfl))
  xi_NotFitting := xiB_ok (u := (fun K => .ref (He.ga K "NotFitting"))) (c.ex_ 18 (f := xiB cn xi_NotFitting (fun K => .ref (He.ga K "NotFitting"))) (by rfl))
  xi_TooMany := xiB_ok (u := (fun K => .ref (He.ga K "TooMany"))) (c.ex_ 19 (f := xiB cn xi_TooMany (fun K => .ref (He.ga K "TooMany"))) (by rfl))
  xi_ValueError := xiB_ok (u := (fun _ => .type "ValueError")) (c.ex_ 20 (f := xiB cn xi_ValueError (fun _ => .type "ValueError")) (by rfl))
  ca_TongueError := caB_ok (c.ex_ 21 (f := caB cn ca_TongueError "TongueError") (by rfl))
  x_AtOdds := xc_AtOdds c
  x_BadRow := xc_BadRow c
  x_TooMany := xc_TooMany c
  it_RowBook := it_RowBook c X G (flB_ok (c.ex_ 0 (f := flB cn flds) (by rfl)))
/-! ### all levels -/
structure Al (w : World) (K : Fr) (mg : PySem.Str → Option Value) (base : Heap) (k : Nat) : Prop where
  a_3 : AD PR w K mg base (clsK K) k "goods" ["row"] (run k 3)
  a_4 : AD PR w K mg base (clsK K) k "bads" ["row"] (run k 4)
  a_6 : AD PR w K mg base (clsK K) k "mask_of" ["letters"] (run k 6)
  a_7 : AD PR w K mg base (clsK K) k "row_masks" ["rows"] (run k 7)
  a_8 : AD PR w K mg base (clsK K) k "is_row" ["m", "row"] (run k 8)
  a_9 : AK PR w K mg base (clsK K) k 7 "RowBook" ["self", "m", "rows"] (run k 9)
  a_16 : AD PR w K mg base (clsK K) k "strata_of" ["rules", "masks"] (run k 16)
  a_17 : AD PR w K mg base (clsK K) k "masks_consistent" ["masks"] (run k 17)
  a_18 : AD PR w K mg base (clsK K) k "least_lot" ["masks"] (run k 18)
  a_19 : AD PR w K mg base (clsK K) k "check_consistent" ["masks"] (run k 19)
  a_20 : AD PR w K mg base (clsK K) k "needs_of" ["m", "masks"] (run k 20)
  a_21 : AD PR w K mg base (clsK K) k "may_come" ["needs", "above", "place"] (run k 21)
  a_22 : AD PR w K mg base (clsK K) k "first_letters" ["m", "masks"] (run k 22)
  a_23 : AD PR w K mg base (clsK K) k "first_ranking" ["rows"] (run k 23)
  a_24 : AD PR w K mg base (clsK K) k "_law_mix" ["cell", "k"] (run k 24)
  a_25 : AD PR w K mg base (clsK K) k "_law_draws" ["script", "many"] (run k 25)
  a_26 : AD PR w K mg base (clsK K) k "_law_pick" ["draws", "k", "many"] (run k 26)
  a_27 : AD PR w K mg base (clsK K) k "_law_same" ["actual", "due"] (run k 27)
  a_28 : AD PR w K mg base (clsK K) k "_law_ranking" ["count", "draw"] (run k 28)
  a_29 : AD PR w K mg base (clsK K) k "_law_orders" ["count"] (run k 29)
  a_30 : AD PR w K mg base (clsK K) k "_law_line" ["count", "draw", "spare"] (run k 30)
  a_31 : AD PR w K mg base (clsK K) k "_law_contrary" ["line"] (run k 31)
  a_32 : AD PR w K mg base (clsK K) k "_law_fits" ["order", "line"] (run k 32)
  a_33 : AD PR w K mg base (clsK K) k "_law_round" ["count", "order", "size"] (run k 33)
  a_34 : AD PR w K mg base (clsK K) k "_law_lines" ["draws", "at", "count", "order", "most"] (run k 34)
  a_35 : AD PR w K mg base (clsK K) k "_law_all" ["order", "lines"] (run k 35)
  a_36 : AD PR w K mg base (clsK K) k "_law_first" ["orders", "lines"] (run k 36)
  a_37 : AD PR w K mg base (clsK K) k "_law_marked" ["line", "letters", "mark"] (run k 37)
  a_38 : AD PR w K mg base (clsK K) k "_law_peel" ["count", "lines"] (run k 38)
  a_39 : AD PR w K mg base (clsK K) k "_law_lot_right" ["count", "lines", "lot"] (run k 39)
  a_41 : AD PR w K mg base (clsK K) k "_law_ask" ["book"] (run k 41)
  a_42 : AD PR w K mg base (clsK K) k "_law_right" ["orders", "lines", "book"] (run k 42)
  a_43 : AD PR w K mg base (clsK K) k "_law_closed" ["draws", "at", "count", "order", "lines"] (run k 43)
  a_44 : AD PR w K mg base (clsK K) k "law" ["script"] (run k 44)
  h_40 : AX PR w K mg base (clsK K) k "_law_error" ["e"] (run k 1040)
section
variable {w : World} {K : Fr} {mg : PySem.Str → Option Value} {base : Heap}
theorem bi_3 {f : Addr} {fd : FuncData} (F : FunD K D_3.name D_3.qual D_3.params D_3.body D_3.scope (D_3.dvs K) (D_3.kws K) f fd) : Binds K fd ["row"] [] := FunD.bindsN (ps := ["row"]) F (fun _ _ _ _ _ _ us hl => match us, hl with | [_], _ => by rfl)
theorem bi_4 {f : Addr} {fd : FuncData} (F : FunD K D_4.name D_4.qual D_4.params D_4.body D_4.scope (D_4.dvs K) (D_4.kws K) f fd) : Binds K fd ["row"] [] := FunD.bindsN (ps := ["row"]) F (fun _ _ _ _ _ _ us hl => match us, hl with | [_], _ => by rfl)
theorem bi_6 {f : Addr} {fd : FuncData} (F : FunD K D_6.name D_6.qual D_6.params D_6.body D_6.scope (D_6.dvs K) (D_6.kws K) f fd) : Binds K fd ["letters"] [] := FunD.bindsN (ps := ["letters"]) F (fun _ _ _ _ _ _ us hl => match us, hl with | [_], _ => by rfl)
theorem bi_7 {f : Addr} {fd : FuncData} (F : FunD K D_7.name D_7.qual D_7.params D_7.body D_7.scope (D_7.dvs K) (D_7.kws K) f fd) : Binds K fd ["rows"] [] := FunD.bindsN (ps := ["rows"]) F (fun _ _ _ _ _ _ us hl => match us, hl with | [_], _ => by rfl)
theorem bi_8 {f : Addr} {fd : FuncData} (F : FunD K D_8.name D_8.qual D_8.params D_8.body D_8.scope (D_8.dvs K) (D_8.kws K) f fd) : Binds K fd ["m", "row"] [] := FunD.bindsN (ps := ["m", "row"]) F (fun _ _ _ _ _ _ us hl => match us, hl with | [_, _], _ => by rfl)
theorem bi_9 {f : Addr} {fd : FuncData} (F : FunD K D_9.name D_9.qual D_9.params D_9.body D_9.scope (D_9.dvs K) (D_9.kws K) f fd) : Binds K fd ["self", "m", "rows"] [] := FunD.bindsN (ps := ["self", "m", "rows"]) F (fun _ _ _ _ _ _ us hl => match us, hl with | [_, _, _], _ => by rfl)
theorem bi_16 {f : Addr} {fd : FuncData} (F : FunD K D_16.name D_16.qual D_16.params D_16.body D_16.scope (D_16.dvs K) (D_16.kws K) f fd) : Binds K fd ["rules", "masks"] [] := FunD.bindsN (ps := ["rules", "masks"]) F (fun _ _ _ _ _ _ us hl => match us, hl with | [_, _], _ => by rfl)
theorem bi_17 {f : Addr} {fd : FuncData} (F : FunD K D_17.name D_17.qual D_17.params D_17.body D_17.scope (D_17.dvs K) (D_17.kws K) f fd) : Binds K fd ["masks"] [] := FunD.bindsN (ps := ["masks"]) F (fun _ _ _ _ _ _ us hl => match us, hl with | [_], _ => by rfl)
theorem bi_18 {f : Addr} {fd : FuncData} (F : FunD K D_18.name D_18.qual D_18.params D_18.body D_18.scope (D_18.dvs K) (D_18.kws K) f fd) : Binds K fd ["masks"] [] := FunD.bindsN (ps := ["masks"]) F (fun _ _ _ _ _ _ us hl => match us, hl with | [_], _ => by rfl)
theorem bi_19 {f : Addr} {fd : FuncData} (F : FunD K D_19.name D_19.qual D_19.params D_19.body D_19.scope (D_19.dvs K) (D_19.kws K) f fd) : Binds K fd ["masks"] [] := FunD.bindsN (ps := ["masks"]) F (fun _ _ _ _ _ _ us hl => match us, hl with | [_], _ => by rfl)
theorem bi_20 {f : Addr} {fd : FuncData} (F : FunD K D_20.name D_20.qual D_20.params D_20.body D_20.scope (D_20.dvs K) (D_20.kws K) f fd) : Binds K fd ["m", "masks"] [] := FunD.bindsN (ps := ["m", "masks"]) F (fun _ _ _ _ _ _ us hl => match us, hl with | [_, _], _ => by rfl)
theorem bi_21 {f : Addr} {fd : FuncData} (F : FunD K D_21.name D_21.qual D_21.params D_21.body D_21.scope (D_21.dvs K) (D_21.kws K) f fd) : Binds K fd ["needs", "above", "place"] [] := FunD.bindsN (ps := ["needs", "above", "place"]) F (fun _ _ _ _ _ _ us hl => match us, hl with | [_, _, _], _ => by rfl)
theorem bi_22 {f : Addr} {fd : FuncData} (F : FunD K D_22.name D_22.qual D_22.params D_22.body D_22.scope (D_22.dvs K) (D_22.kws K) f fd) : Binds K fd ["m", "masks"] [] := FunD.bindsN (ps := ["m", "masks"]) F (fun _ _ _ _ _ _ us hl => match us, hl with | [_, _], _ => by rfl)
theorem bi_23 {f : Addr} {fd : FuncData} (F : FunD K D_23.name D_23.qual D_23.params D_23.body D_23.scope (D_23.dvs K) (D_23.kws K) f fd) : Binds K fd ["rows"] [] := FunD.bindsN (ps := ["rows"]) F (fun _ _ _ _ _ _ us hl => match us, hl with | [_], _ => by rfl)
theorem bi_24 {f : Addr} {fd : FuncData} (F : FunD K D_24.name D_24.qual D_24.params D_24.body D_24.scope (D_24.dvs K) (D_24.kws K) f fd) : Binds K fd ["cell", "k"] [] := FunD.bindsN (ps := ["cell", "k"]) F (fun _ _ _ _ _ _ us hl => match us, hl with | [_, _], _ => by rfl)
theorem bi_25 {f : Addr} {fd : FuncData} (F : FunD K D_25.name D_25.qual D_25.params D_25.body D_25.scope (D_25.dvs K) (D_25.kws K) f fd) : Binds K fd ["script", "many"] [] := FunD.bindsN (ps := ["script", "many"]) F (fun _ _ _ _ _ _ us hl => match us, hl with | [_, _], _ => by rfl)
theorem bi_26 {f : Addr} {fd : FuncData} (F : FunD K D_26.name D_26.qual D_26.params D_26.body D_26.scope (D_26.dvs K) (D_26.kws K) f fd) : Binds K fd ["draws", "k", "many"] [] := FunD.bindsN (ps := ["draws", "k", "many"]) F (fun _ _ _ _ _ _ us hl => match us, hl with | [_, _, _], _ => by rfl)
theorem bi_27 {f : Addr} {fd : FuncData} (F : FunD K D_27.name D_27.qual D_27.params D_27.body D_27.scope (D_27.dvs K) (D_27.kws K) f fd) : Binds K fd ["actual", "due"] [] := FunD.bindsN (ps := ["actual", "due"]) F (fun _ _ _ _ _ _ us hl => match us, hl with | [_, _], _ => by rfl)
theorem bi_28 {f : Addr} {fd : FuncData} (F : FunD K D_28.name D_28.qual D_28.params D_28.body D_28.scope (D_28.dvs K) (D_28.kws K) f fd) : Binds K fd ["count", "draw"] [] := FunD.bindsN (ps := ["count", "draw"]) F (fun _ _ _ _ _ _ us hl => match us, hl with | [_, _], _ => by rfl)
theorem bi_29 {f : Addr} {fd : FuncData} (F : FunD K D_29.name D_29.qual D_29.params D_29.body D_29.scope (D_29.dvs K) (D_29.kws K) f fd) : Binds K fd ["count"] [] := FunD.bindsN (ps := ["count"]) F (fun _ _ _ _ _ _ us hl => match us, hl with | [_], _ => by rfl)
theorem bi_30 {f : Addr} {fd : FuncData} (F : FunD K D_30.name D_30.qual D_30.params D_30.body D_30.scope (D_30.dvs K) (D_30.kws K) f fd) : Binds K fd ["count", "draw", "spare"] [] := FunD.bindsN (ps := ["count", "draw", "spare"]) F (fun _ _ _ _ _ _ us hl => match us, hl with | [_, _, _], _ => by rfl)
theorem bi_31 {f : Addr} {fd : FuncData} (F : FunD K D_31.name D_31.qual D_31.params D_31.body D_31.scope (D_31.dvs K) (D_31.kws K) f fd) : Binds K fd ["line"] [] := FunD.bindsN (ps := ["line"]) F (fun _ _ _ _ _ _ us hl => match us, hl with | [_], _ => by rfl)
theorem bi_32 {f : Addr} {fd : FuncData} (F : FunD K D_32.name D_32.qual D_32.params D_32.body D_32.scope (D_32.dvs K) (D_32.kws K) f fd) : Binds K fd ["order", "line"] [] := FunD.bindsN (ps := ["order", "line"]) F (fun _ _ _ _ _ _ us hl => match us, hl with | [_, _], _ => by rfl)
theorem bi_33 {f : Addr} {fd : FuncData} (F : FunD K D_33.name D_33.qual D_33.params D_33.body D_33.scope (D_33.dvs K) (D_33.kws K) f fd) : Binds K fd ["count", "order", "size"] [] := FunD.bindsN (ps := ["count", "order", "size"]) F (fun _ _ _ _ _ _ us hl => match us, hl with | [_, _, _], _ => by rfl)
theorem bi_34 {f : Addr} {fd : FuncData} (F : FunD K D_34.name D_34.qual D_34.params D_34.body D_34.scope (D_34.dvs K) (D_34.kws K) f fd) : Binds K fd ["draws", "at", "count", "order", "most"] [] := FunD.bindsN (ps := ["draws", "at", "count", "order", "most"]) F (fun _ _ _ _ _ _ us hl => match us, hl with | [_, _, _, _, _], _ => by rfl)
theorem bi_35 {f : Addr} {fd : FuncData} (F : FunD K D_35.name D_35.qual D_35.params D_35.body D_35.scope (D_35.dvs K) (D_35.kws K) f fd) : Binds K fd ["order", "lines"] [] := FunD.bindsN (ps := ["order", "lines"]) F (fun _ _ _ _ _ _ us hl => match us, hl with | [_, _], _ => by rfl)
theorem bi_36 {f : Addr} {fd : FuncData} (F : FunD K D_36.name D_36.qual D_36.params D_36.body D_36.scope (D_36.dvs K) (D_36.kws K) f fd) : Binds K fd ["orders", "lines"] [] := FunD.bindsN (ps := ["orders", "lines"]) F (fun _ _ _ _ _ _ us hl => match us, hl with | [_, _], _ => by rfl)
theorem bi_37 {f : Addr} {fd : FuncData} (F : FunD K D_37.name D_37.qual D_37.params D_37.body D_37.scope (D_37.dvs K) (D_37.kws K) f fd) : Binds K fd ["line", "letters", "mark"] [] := FunD.bindsN (ps := ["line", "letters", "mark"]) F (fun _ _ _ _ _ _ us hl => match us, hl with | [_, _, _], _ => by rfl)
theorem bi_38 {f : Addr} {fd : FuncData} (F : FunD K D_38.name D_38.qual D_38.params D_38.body D_38.scope (D_38.dvs K) (D_38.kws K) f fd) : Binds K fd ["count", "lines"] [] := FunD.bindsN (ps := ["count", "lines"]) F (fun _ _ _ _ _ _ us hl => match us, hl with | [_, _], _ => by rfl)
theorem bi_39 {f : Addr} {fd : FuncData} (F : FunD K D_39.name D_39.qual D_39.params D_39.body D_39.scope (D_39.dvs K) (D_39.kws K) f fd) : Binds K fd ["count", "lines", "lot"] [] := FunD.bindsN (ps := ["count", "lines", "lot"]) F (fun _ _ _ _ _ _ us hl => match us, hl with | [_, _, _], _ => by rfl)
theorem bi_40 {f : Addr} {fd : FuncData} (F : FunD K D_40.name D_40.qual D_40.params D_40.body D_40.scope (D_40.dvs K) (D_40.kws K) f fd) : Binds K fd ["e"] [] := FunD.bindsN (ps := ["e"]) F (fun _ _ _ _ _ _ us hl => match us, hl with | [_], _ => by rfl)
theorem bi_41 {f : Addr} {fd : FuncData} (F : FunD K D_41.name D_41.qual D_41.params D_41.body D_41.scope (D_41.dvs K) (D_41.kws K) f fd) : Binds K fd ["book"] [] := FunD.bindsN (ps := ["book"]) F (fun _ _ _ _ _ _ us hl => match us, hl with | [_], _ => by rfl)
theorem bi_42 {f : Addr} {fd : FuncData} (F : FunD K D_42.name D_42.qual D_42.params D_42.body D_42.scope (D_42.dvs K) (D_42.kws K) f fd) : Binds K fd ["orders", "lines", "book"] [] := FunD.bindsN (ps := ["orders", "lines", "book"]) F (fun _ _ _ _ _ _ us hl => match us, hl with | [_, _, _], _ => by rfl)
theorem bi_43 {f : Addr} {fd : FuncData} (F : FunD K D_43.name D_43.qual D_43.params D_43.body D_43.scope (D_43.dvs K) (D_43.kws K) f fd) : Binds K fd ["draws", "at", "count", "order", "lines"] [] := FunD.bindsN (ps := ["draws", "at", "count", "order", "lines"]) F (fun _ _ _ _ _ _ us hl => match us, hl with | [_, _, _, _, _], _ => by rfl)
theorem bi_44 {f : Addr} {fd : FuncData} (F : FunD K D_44.name D_44.qual D_44.params D_44.body D_44.scope (D_44.dvs K) (D_44.kws K) f fd) : Binds K fd ["script"] [] := FunD.bindsN (ps := ["script"]) F (fun _ _ _ _ _ _ us hl => match us, hl with | [_], _ => by rfl)
theorem sc_3 : FnScope ["row", "letter", "mark"] ["row"] (defScope (top 15)) := ⟨by rfl, by rfl, by rfl, by decide +kernel, by rfl, by decide +kernel, by decide +kernel⟩
theorem sc_4 : FnScope ["row", "letter", "mark"] ["row"] (defScope (top 16)) := ⟨by rfl, by rfl, by rfl, by decide +kernel, by rfl, by decide +kernel, by decide +kernel⟩
theorem sc_6 : FnScope ["letters", "mask", "letter"] ["letters"] (defScope (top 18)) := ⟨by rfl, by rfl, by rfl, by decide +kernel, by rfl, by decide +kernel, by decide +kernel⟩
theorem sc_7 : FnScope ["rows", "row"] ["rows"] (defScope (top 19)) := ⟨by rfl, by rfl, by rfl, by decide +kernel, by rfl, by decide +kernel, by decide +kernel⟩
theorem sc_8 : FnScope ["m", "row", "mark"] ["m", "row"] (defScope (top 20)) := ⟨by rfl, by rfl, by rfl, by decide +kernel, by rfl, by decide +kernel, by decide +kernel⟩
theorem sc_9 : FnScope ["self", "m", "rows", "kept", "place", "row"] ["self", "m", "rows"] (defScope (inClass (top 21) 0)) := ⟨by rfl, by rfl, by rfl, by decide +kernel, by rfl, by decide +kernel, by decide +kernel⟩
theorem sc_16 : FnScope ["rules", "masks", "strata", "left", "stratum", "place"] ["rules", "masks"] (defScope (top 24)) := ⟨by rfl, by rfl, by rfl, by decide +kernel, by rfl, by decide +kernel, by decide +kernel⟩
theorem sc_17 : FnScope ["masks", "strata", "_"] ["masks"] (defScope (top 25)) := ⟨by rfl, by rfl, by rfl, by decide +kernel, by rfl, by decide +kernel, by decide +kernel⟩
theorem sc_18 : FnScope ["masks", "strata", "left", "stuck", "lot", "place", "found", "fewer", "other"] ["masks"] (defScope (top 26)) := ⟨by rfl, by rfl, by rfl, by decide +kernel, by rfl, by decide +kernel, by decide +kernel⟩
theorem sc_19 : FnScope ["masks", "lot"] ["masks"] (defScope (top 27)) := ⟨by rfl, by rfl, by rfl, by decide +kernel, by rfl, by decide +kernel, by decide +kernel⟩
theorem sc_20 : FnScope ["m", "masks", "place", "good", "bad"] ["m", "masks"] (defScope (top 28)) := ⟨by rfl, by rfl, by rfl, by decide +kernel, by rfl, by decide +kernel, by decide +kernel⟩
theorem sc_21 : FnScope ["needs", "above", "place", "good"] ["needs", "above", "place"] (defScope (top 29)) := ⟨by rfl, by rfl, by rfl, by decide +kernel, by rfl, by decide +kernel, by decide +kernel⟩
theorem sc_22 : FnScope ["m", "masks", "needs", "above", "ranking", "_", "rule", "place"] ["m", "masks"] (defScope (top 30)) := ⟨by rfl, by rfl, by rfl, by decide +kernel, by rfl, by decide +kernel, by decide +kernel⟩
theorem sc_23 : FnScope ["rows", "masks"] ["rows"] (defScope (top 31)) := ⟨by rfl, by rfl, by rfl, by decide +kernel, by rfl, by decide +kernel, by decide +kernel⟩
theorem sc_24 : FnScope ["cell", "k", "once", "twice", "third"] ["cell", "k"] (defScope (top 33)) := ⟨by rfl, by rfl, by rfl, by decide +kernel, by rfl, by decide +kernel, by decide +kernel⟩
theorem sc_25 : FnScope ["script", "many", "told", "cell", "rest", "k", "seed"] ["script", "many"] (defScope (top 34)) := ⟨by rfl, by rfl, by rfl, by decide +kernel, by rfl, by decide +kernel, by decide +kernel⟩
theorem sc_26 : FnScope ["draws", "k", "many"] ["draws", "k", "many"] (defScope (top 35)) := ⟨by rfl, by rfl, by rfl, by decide +kernel, by rfl, by decide +kernel, by decide +kernel⟩
theorem sc_27 : FnScope ["actual", "due", "k"] ["actual", "due"] (defScope (top 36)) := ⟨by rfl, by rfl, by rfl, by decide +kernel, by rfl, by decide +kernel, by decide +kernel⟩
theorem sc_28 : FnScope ["count", "draw", "left", "text", "k"] ["count", "draw"] (defScope (top 37)) := ⟨by rfl, by rfl, by rfl, by decide +kernel, by rfl, by decide +kernel, by decide +kernel⟩
theorem sc_29 : FnScope ["count", "told", "k", "longer", "text", "letter"] ["count"] (defScope (top 38)) := ⟨by rfl, by rfl, by rfl, by decide +kernel, by rfl, by decide +kernel, by decide +kernel⟩
theorem sc_30 : FnScope ["count", "draw", "spare", "text", "k"] ["count", "draw", "spare"] (defScope (top 39)) := ⟨by rfl, by rfl, by rfl, by decide +kernel, by rfl, by decide +kernel, by decide +kernel⟩
theorem sc_31 : FnScope ["line", "mark"] ["line"] (defScope (top 40)) := ⟨by rfl, by rfl, by rfl, by decide +kernel, by rfl, by decide +kernel, by decide +kernel⟩
theorem sc_32 : FnScope ["order", "line", "letter", "mark"] ["order", "line"] (defScope (top 41)) := ⟨by rfl, by rfl, by rfl, by decide +kernel, by rfl, by decide +kernel, by decide +kernel⟩
theorem sc_33 : FnScope ["count", "order", "size", "lines", "k", "marks"] ["count", "order", "size"] (defScope (top 42)) := ⟨by rfl, by rfl, by rfl, by decide +kernel, by rfl, by decide +kernel, by decide +kernel⟩
theorem sc_34 : FnScope ["draws", "at", "count", "order", "most", "many", "kind", "lines", "k", "line", "place", "ring"] ["draws", "at", "count", "order", "most"] (defScope (top 43)) := ⟨by rfl, by rfl, by rfl, by decide +kernel, by rfl, by decide +kernel, by decide +kernel⟩
theorem sc_35 : FnScope ["order", "lines", "line"] ["order", "lines"] (defScope (top 44)) := ⟨by rfl, by rfl, by rfl, by decide +kernel, by rfl, by decide +kernel, by decide +kernel⟩
theorem sc_36 : FnScope ["orders", "lines", "order"] ["orders", "lines"] (defScope (top 45)) := ⟨by rfl, by rfl, by rfl, by decide +kernel, by rfl, by decide +kernel, by decide +kernel⟩
theorem sc_37 : FnScope ["line", "letters", "mark", "letter"] ["line", "letters", "mark"] (defScope (top 46)) := ⟨by rfl, by rfl, by rfl, by decide +kernel, by rfl, by decide +kernel, by decide +kernel⟩
theorem sc_38 : FnScope ["count", "lines", "left", "waiting", "strata", "k", "free", "letter", "line"] ["count", "lines"] (defScope (top 47)) := ⟨by rfl, by rfl, by rfl, by decide +kernel, by rfl, by decide +kernel, by decide +kernel⟩
theorem sc_39 : FnScope ["count", "lines", "lot", "least", "place", "other"] ["count", "lines", "lot"] (defScope (top 48)) := ⟨by rfl, by rfl, by rfl, by decide +kernel, by rfl, by decide +kernel, by decide +kernel⟩
theorem sc_40 : FnScope ["e", "told", "k"] ["e"] (defScope (top 49)) := ⟨by rfl, by rfl, by rfl, by decide +kernel, by rfl, by decide +kernel, by decide +kernel⟩
theorem sc_41 : FnScope ["book", "told", "e"] ["book"] (defScope (top 50)) := ⟨by rfl, by rfl, by rfl, by decide +kernel, by rfl, by decide +kernel, by decide +kernel⟩
theorem sc_42 : FnScope ["orders", "lines", "book", "due", "told"] ["orders", "lines", "book"] (defScope (top 51)) := ⟨by rfl, by rfl, by rfl, by decide +kernel, by rfl, by decide +kernel, by decide +kernel⟩
theorem sc_43 : FnScope ["draws", "at", "count", "order", "lines", "ring", "kept", "place"] ["draws", "at", "count", "order", "lines"] (defScope (top 52)) := ⟨by rfl, by rfl, by rfl, by decide +kernel, by rfl, by decide +kernel, by decide +kernel⟩
theorem sc_44 : FnScope ["script", "draws", "count", "order", "orders", "drawn", "fitted", "closed", "texts", "books", "lines", "passed", "k", "at", "line"] ["script"] (defScope (top 53)) := ⟨by rfl, by rfl, by rfl, by decide +kernel, by rfl, by decide +kernel, by decide +kernel⟩
theorem al_bad (c : Says K) (X : K.In base) (G : base.Ns mainGlobals mg) (k : Nat) (hb : run k = fun _ _ => .bad) : Al w K mg base k where
  a_3 := by
    obtain ⟨fd, F⟩ := c.d.def_ 0 (d := D_3) (by rfl)
    exact AD.bad (He.glo_ok X G (c.d.fact 0 (f := .glo "goods") (by rfl))) F.kp (bi_3 F) (congrFun hb 3)
  a_4 := by
    obtain ⟨fd, F⟩ := c.d.def_ 1 (d := D_4) (by rfl)
    exact AD.bad (He.glo_ok X G (c.d.fact 1 (f := .glo "bads") (by rfl))) F.kp (bi_4 F) (congrFun hb 4)
  a_6 := by
    obtain ⟨fd, F⟩ := c.d.def_ 2 (d := D_6) (by rfl)
    exact AD.bad (He.glo_ok X G (c.d.fact 2 (f := .glo "mask_of") (by rfl))) F.kp (bi_6 F) (congrFun hb 6)
  a_7 := by
    obtain ⟨fd, F⟩ := c.d.def_ 3 (d := D_7) (by rfl)
    exact AD.bad (He.glo_ok X G (c.d.fact 3 (f := .glo "row_masks") (by rfl))) F.kp (bi_7 F) (congrFun hb 7)
  a_8 := by
    obtain ⟨fd, F⟩ := c.d.def_ 4 (d := D_8) (by rfl)
    exact AD.bad (He.glo_ok X G (c.d.fact 4 (f := .glo "is_row") (by rfl))) F.kp (bi_8 F) (congrFun hb 8)
  a_9 := by
    obtain ⟨fd, F⟩ := c.d.def_ 5 (d := D_9) (by rfl)
    exact AK.bad (He.mkr_ok (c.d.fact 34 (f := .mkr "RowBook") (by rfl))) (He.glo_ok X G (c.d.fact 35 (f := .glo "RowBook") (by rfl))) (bi_9 F) (congrFun hb 9)
  a_16 := by
    obtain ⟨fd, F⟩ := c.d.def_ 6 (d := D_16) (by rfl)
    exact AD.bad (He.glo_ok X G (c.d.fact 5 (f := .glo "strata_of") (by rfl))) F.kp (bi_16 F) (congrFun hb 16)
  a_17 := by
    obtain ⟨fd, F⟩ := c.d.def_ 7 (d := D_17) (by rfl)
    exact AD.bad (He.glo_ok X G (c.d.fact 6 (f := .glo "masks_consistent") (by rfl))) F.kp (bi_17 F) (congrFun hb 17)
  a_18 := by
    obtain ⟨fd, F⟩ := c.d.def_ 8 (d := D_18) (by rfl)
    exact AD.bad (He.glo_ok X G (c.d.fact 7 (f := .glo "least_lot") (by rfl))) F.kp (bi_18 F) (congrFun hb 18)
  a_19 := by
    obtain ⟨fd, F⟩ := c.d.def_ 9 (d := D_19) (by rfl)
    exact AD.bad (He.glo_ok X G (c.d.fact 8 (f := .glo "check_consistent") (by rfl))) F.kp (bi_19 F) (congrFun hb 19)
  a_20 := by
    obtain ⟨fd, F⟩ := c.d.def_ 10 (d := D_20) (by rfl)
    exact AD.bad (He.glo_ok X G (c.d.fact 9 (f := .glo "needs_of") (by rfl))) F.kp (bi_20 F) (congrFun hb 20)
  a_21 := by
    obtain ⟨fd, F⟩ := c.d.def_ 11 (d := D_21) (by rfl)
    exact AD.bad (He.glo_ok X G (c.d.fact 10 (f := .glo "may_come") (by rfl))) F.kp (bi_21 F) (congrFun hb 21)
  a_22 := by
    obtain ⟨fd, F⟩ := c.d.def_ 12 (d := D_22) (by rfl)
    exact AD.bad (He.glo_ok X G (c.d.fact 11 (f := .glo "first_letters") (by rfl))) F.kp (bi_22 F) (congrFun hb 22)
  a_23 := by
    obtain ⟨fd, F⟩ := c.d.def_ 13 (d := D_23) (by rfl)
    exact AD.bad (He.glo_ok X G (c.d.fact 12 (f := .glo "first_ranking") (by rfl))) F.kp (bi_23 F) (congrFun hb 23)
  a_24 := by
    obtain ⟨fd, F⟩ := c.d.def_ 14 (d := D_24) (by rfl)
    exact AD.bad (He.glo_ok X G (c.d.fact 13 (f := .glo "_law_mix") (by rfl))) F.kp (bi_24 F) (congrFun hb 24)
  a_25 := by
    obtain ⟨fd, F⟩ := c.d.def_ 15 (d := D_25) (by rfl)
    exact AD.bad (He.glo_ok X G (c.d.fact 14 (f := .glo "_law_draws") (by rfl))) F.kp (bi_25 F) (congrFun hb 25)
  a_26 := by
    obtain ⟨fd, F⟩ := c.d.def_ 16 (d := D_26) (by rfl)
    exact AD.bad (He.glo_ok X G (c.d.fact 15 (f := .glo "_law_pick") (by rfl))) F.kp (bi_26 F) (congrFun hb 26)
  a_27 := by
    obtain ⟨fd, F⟩ := c.d.def_ 17 (d := D_27) (by rfl)
    exact AD.bad (He.glo_ok X G (c.d.fact 16 (f := .glo "_law_same") (by rfl))) F.kp (bi_27 F) (congrFun hb 27)
  a_28 := by
    obtain ⟨fd, F⟩ := c.d.def_ 18 (d := D_28) (by rfl)
    exact AD.bad (He.glo_ok X G (c.d.fact 17 (f := .glo "_law_ranking") (by rfl))) F.kp (bi_28 F) (congrFun hb 28)
  a_29 := by
    obtain ⟨fd, F⟩ := c.d.def_ 19 (d := D_29) (by rfl)
    exact AD.bad (He.glo_ok X G (c.d.fact 18 (f := .glo "_law_orders") (by rfl))) F.kp (bi_29 F) (congrFun hb 29)
  a_30 := by
    obtain ⟨fd, F⟩ := c.d.def_ 20 (d := D_30) (by rfl)
    exact AD.bad (He.glo_ok X G (c.d.fact 19 (f := .glo "_law_line") (by rfl))) F.kp (bi_30 F) (congrFun hb 30)
  a_31 := by
    obtain ⟨fd, F⟩ := c.d.def_ 21 (d := D_31) (by rfl)
    exact AD.bad (He.glo_ok X G (c.d.fact 20 (f := .glo "_law_contrary") (by rfl))) F.kp (bi_31 F) (congrFun hb 31)
  a_32 := by
    obtain ⟨fd, F⟩ := c.d.def_ 22 (d := D_32) (by rfl)
    exact AD.bad (He.glo_ok X G (c.d.fact 21 (f := .glo "_law_fits") (by rfl))) F.kp (bi_32 F) (congrFun hb 32)
  a_33 := by
    obtain ⟨fd, F⟩ := c.d.def_ 23 (d := D_33) (by rfl)
    exact AD.bad (He.glo_ok X G (c.d.fact 22 (f := .glo "_law_round") (by rfl))) F.kp (bi_33 F) (congrFun hb 33)
  a_34 := by
    obtain ⟨fd, F⟩ := c.d.def_ 24 (d := D_34) (by rfl)
    exact AD.bad (He.glo_ok X G (c.d.fact 23 (f := .glo "_law_lines") (by rfl))) F.kp (bi_34 F) (congrFun hb 34)
  a_35 := by
    obtain ⟨fd, F⟩ := c.d.def_ 25 (d := D_35) (by rfl)
    exact AD.bad (He.glo_ok X G (c.d.fact 24 (f := .glo "_law_all") (by rfl))) F.kp (bi_35 F) (congrFun hb 35)
  a_36 := by
    obtain ⟨fd, F⟩ := c.d.def_ 26 (d := D_36) (by rfl)
    exact AD.bad (He.glo_ok X G (c.d.fact 25 (f := .glo "_law_first") (by rfl))) F.kp (bi_36 F) (congrFun hb 36)
  a_37 := by
    obtain ⟨fd, F⟩ := c.d.def_ 27 (d := D_37) (by rfl)
    exact AD.bad (He.glo_ok X G (c.d.fact 26 (f := .glo "_law_marked") (by rfl))) F.kp (bi_37 F) (congrFun hb 37)
  a_38 := by
    obtain ⟨fd, F⟩ := c.d.def_ 28 (d := D_38) (by rfl)
    exact AD.bad (He.glo_ok X G (c.d.fact 27 (f := .glo "_law_peel") (by rfl))) F.kp (bi_38 F) (congrFun hb 38)
  a_39 := by
    obtain ⟨fd, F⟩ := c.d.def_ 29 (d := D_39) (by rfl)
    exact AD.bad (He.glo_ok X G (c.d.fact 28 (f := .glo "_law_lot_right") (by rfl))) F.kp (bi_39 F) (congrFun hb 39)
  a_41 := by
    obtain ⟨fd, F⟩ := c.d.def_ 31 (d := D_41) (by rfl)
    exact AD.bad (He.glo_ok X G (c.d.fact 30 (f := .glo "_law_ask") (by rfl))) F.kp (bi_41 F) (congrFun hb 41)
  a_42 := by
    obtain ⟨fd, F⟩ := c.d.def_ 32 (d := D_42) (by rfl)
    exact AD.bad (He.glo_ok X G (c.d.fact 31 (f := .glo "_law_right") (by rfl))) F.kp (bi_42 F) (congrFun hb 42)
  a_43 := by
    obtain ⟨fd, F⟩ := c.d.def_ 33 (d := D_43) (by rfl)
    exact AD.bad (He.glo_ok X G (c.d.fact 32 (f := .glo "_law_closed") (by rfl))) F.kp (bi_43 F) (congrFun hb 43)
  a_44 := by
    obtain ⟨fd, F⟩ := c.d.def_ 34 (d := D_44) (by rfl)
    exact AD.bad (He.glo_ok X G (c.d.fact 33 (f := .glo "law") (by rfl))) F.kp (bi_44 F) (congrFun hb 44)
  h_40 := by
    obtain ⟨fd, F⟩ := c.d.def_ 30 (d := D_40) (by rfl)
    exact AX.bad (He.glo_ok X G (c.d.fact 29 (f := .glo "_law_error") (by rfl))) F.kp (bi_40 F) (congrFun hb 1040)
theorem us_of {k : Nat} (h1 : Al w K mg base (k + 1)) (h0 : Al w K mg base k) : Us PR w K mg base ⟨K, clsK K, none⟩ k (run (k + 1)) (run k) where
  f__law_all := h1.a_35.uf
  f__law_ask := h1.a_41.uf
  f__law_closed := h1.a_43.uf
  f__law_contrary := h1.a_31.uf
  f__law_draws := h1.a_25.uf
  f__law_first := h1.a_36.uf
  f__law_fits := h1.a_32.uf
  f__law_line := h1.a_30.uf
  f__law_lines := h1.a_34.uf
  f__law_lot_right := h1.a_39.uf
  f__law_marked := h1.a_37.uf
  f__law_mix := h1.a_24.uf
  f__law_orders := h1.a_29.uf
  f__law_peel := h1.a_38.uf
  f__law_pick := h1.a_26.uf
  f__law_ranking := h1.a_28.uf
  f__law_right := h1.a_42.uf
  f__law_round := h1.a_33.uf
  f__law_same := h1.a_27.uf
  f_bads := h1.a_4.uf
  f_check_consistent := h1.a_19.uf
  f_first_letters := h1.a_22.uf
  f_first_ranking := h1.a_23.uf
  f_goods := h1.a_3.uf
  f_is_row := h1.a_8.uf
  f_least_lot := h1.a_18.uf
  f_mask_of := h1.a_6.uf
  f_masks_consistent := h1.a_17.uf
  f_may_come := h1.a_21.uf
  f_needs_of := h1.a_20.uf
  f_row_masks := h1.a_7.uf
  f_strata_of := h1.a_16.uf
  k_RowBook := h0.a_9.uk
  h__law_error := fun a c d => h1.h_40.ux a c d
theorem al_step (c : Says K) (X : K.In base) (G : base.Ns mainGlobals mg) {k : Nat} (h1 : Al w K mg base (k + 1)) (h0 : Al w K mg base k) : Al w K mg base (k + 2) where
  a_3 := by
    obtain ⟨fd, F⟩ := c.d.def_ 0 (d := D_3) (by rfl)
    have q := fn_vl (G := ⟨K, clsK K, none⟩) (P := PR) (w := w) (mg := mg) (base := base) (k := k + 1) (m := m_3 (run (k + 1)) (run k)) F sc_3 (fun cdv A outer s H E hr tk pp => v_3 (G := ⟨K, clsK K, none⟩) rfl rfl (facts c X G) (us_of h1 h0) hr tk pp)
    exact ⟨_, fd, q, He.glo_ok X G (c.d.fact 0 (f := .glo "goods") (by rfl)), F.kp, bi_3 F⟩
  a_4 := by
    obtain ⟨fd, F⟩ := c.d.def_ 1 (d := D_4) (by rfl)
    have q := fn_vl (G := ⟨K, clsK K, none⟩) (P := PR) (w := w) (mg := mg) (base := base) (k := k + 1) (m := m_4 (run (k + 1)) (run k)) F sc_4 (fun cdv A outer s H E hr tk pp => v_4 (G := ⟨K, clsK K, none⟩) rfl rfl (facts c X G) (us_of h1 h0) hr tk pp)
    exact ⟨_, fd, q, He.glo_ok X G (c.d.fact 1 (f := .glo "bads") (by rfl)), F.kp, bi_4 F⟩
  a_6 := by
    obtain ⟨fd, F⟩ := c.d.def_ 2 (d := D_6) (by rfl)
    have q := fn_vl (G := ⟨K, clsK K, none⟩) (P := PR) (w := w) (mg := mg) (base := base) (k := k + 1) (m := m_6 (run (k + 1)) (run k)) F sc_6 (fun cdv A outer s H E hr tk pp => v_6 (G := ⟨K, clsK K, none⟩) rfl rfl (facts c X G) (us_of h1 h0) hr tk pp)
    exact ⟨_, fd, q, He.glo_ok X G (c.d.fact 2 (f := .glo "mask_of") (by rfl)), F.kp, bi_6 F⟩
  a_7 := by
    obtain ⟨fd, F⟩ := c.d.def_ 3 (d := D_7) (by rfl)
    have q := fn_vl (G := ⟨K, clsK K, none⟩) (P := PR) (w := w) (mg := mg) (base := base) (k := k + 1) (m := m_7 (run (k + 1)) (run k)) F sc_7 (fun cdv A outer s H E hr tk pp => v_7 (G := ⟨K, clsK K, none⟩) rfl rfl (facts c X G) (us_of h1 h0) hr tk pp)
    exact ⟨_, fd, q, He.glo_ok X G (c.d.fact 3 (f := .glo "row_masks") (by rfl)), F.kp, bi_7 F⟩
  a_8 := by
    obtain ⟨fd, F⟩ := c.d.def_ 4 (d := D_8) (by rfl)
    have q := fn_vl (G := ⟨K, clsK K, none⟩) (P := PR) (w := w) (mg := mg) (base := base) (k := k + 1) (m := m_8 (run (k + 1)) (run k)) F sc_8 (fun cdv A outer s H E hr tk pp => v_8 (G := ⟨K, clsK K, none⟩) rfl rfl (facts c X G) (us_of h1 h0) hr tk pp)
    exact ⟨_, fd, q, He.glo_ok X G (c.d.fact 4 (f := .glo "is_row") (by rfl)), F.kp, bi_8 F⟩
  a_9 := by
    obtain ⟨fd, F⟩ := c.d.def_ 5 (d := D_9) (by rfl)
    have q := fn_vl (G := ⟨K, clsK K, none⟩) (P := PR) (w := w) (mg := mg) (base := base) (k := k + 1) (m := m_9 (run (k + 1)) (run k)) F sc_9 (fun cdv A outer s H E hr tk pp => v_9 (G := ⟨K, clsK K, none⟩) rfl rfl (facts c X G) (us_of h1 h0) hr tk pp)
    exact ⟨_, fd, q, He.mkr_ok (c.d.fact 34 (f := .mkr "RowBook") (by rfl)), He.glo_ok X G (c.d.fact 35 (f := .glo "RowBook") (by rfl)), bi_9 F⟩
  a_16 := by
    obtain ⟨fd, F⟩ := c.d.def_ 6 (d := D_16) (by rfl)
    have q := fn_vl (G := ⟨K, clsK K, none⟩) (P := PR) (w := w) (mg := mg) (base := base) (k := k + 1) (m := m_16 (run (k + 1)) (run k)) F sc_16 (fun cdv A outer s H E hr tk pp => v_16 (G := ⟨K, clsK K, none⟩) rfl rfl (facts c X G) (us_of h1 h0) hr tk pp)
    exact ⟨_, fd, q, He.glo_ok X G (c.d.fact 5 (f := .glo "strata_of") (by rfl)), F.kp, bi_16 F⟩
  a_17 := by
    obtain ⟨fd, F⟩ := c.d.def_ 7 (d := D_17) (by rfl)
    have q := fn_vl (G := ⟨K, clsK K, none⟩) (P := PR) (w := w) (mg := mg) (base := base) (k := k + 1) (m := m_17 (run (k + 1)) (run k)) F sc_17 (fun cdv A outer s H E hr tk pp => v_17 (G := ⟨K, clsK K, none⟩) rfl rfl (facts c X G) (us_of h1 h0) hr tk pp)
    exact ⟨_, fd, q, He.glo_ok X G (c.d.fact 6 (f := .glo "masks_consistent") (by rfl)), F.kp, bi_17 F⟩
  a_18 := by
    obtain ⟨fd, F⟩ := c.d.def_ 8 (d := D_18) (by rfl)
    have q := fn_vl (G := ⟨K, clsK K, none⟩) (P := PR) (w := w) (mg := mg) (base := base) (k := k + 1) (m := m_18 (run (k + 1)) (run k)) F sc_18 (fun cdv A outer s H E hr tk pp => v_18 (G := ⟨K, clsK K, none⟩) rfl rfl (facts c X G) (us_of h1 h0) hr tk pp)
    exact ⟨_, fd, q, He.glo_ok X G (c.d.fact 7 (f := .glo "least_lot") (by rfl)), F.kp, bi_18 F⟩
  a_19 := by
    obtain ⟨fd, F⟩ := c.d.def_ 9 (d := D_19) (by rfl)
    have q := fn_vl (G := ⟨K, clsK K, none⟩) (P := PR) (w := w) (mg := mg) (base := base) (k := k + 1) (m := m_19 (run (k + 1)) (run k)) F sc_19 (fun cdv A outer s H E hr tk pp => v_19 (G := ⟨K, clsK K, none⟩) rfl rfl (facts c X G) (us_of h1 h0) hr tk pp)
    exact ⟨_, fd, q, He.glo_ok X G (c.d.fact 8 (f := .glo "check_consistent") (by rfl)), F.kp, bi_19 F⟩
  a_20 := by
    obtain ⟨fd, F⟩ := c.d.def_ 10 (d := D_20) (by rfl)
    have q := fn_vl (G := ⟨K, clsK K, none⟩) (P := PR) (w := w) (mg := mg) (base := base) (k := k + 1) (m := m_20 (run (k + 1)) (run k)) F sc_20 (fun cdv A outer s H E hr tk pp => v_20 (G := ⟨K, clsK K, none⟩) rfl rfl (facts c X G) (us_of h1 h0) hr tk pp)
    exact ⟨_, fd, q, He.glo_ok X G (c.d.fact 9 (f := .glo "needs_of") (by rfl)), F.kp, bi_20 F⟩
  a_21 := by
    obtain ⟨fd, F⟩ := c.d.def_ 11 (d := D_21) (by rfl)
    have q := fn_vl (G := ⟨K, clsK K, none⟩) (P := PR) (w := w) (mg := mg) (base := base) (k := k + 1) (m := m_21 (run (k + 1)) (run k)) F sc_21 (fun cdv A outer s H E hr tk pp => v_21 (G := ⟨K, clsK K, none⟩) rfl rfl (facts c X G) (us_of h1 h0) hr tk pp)
    exact ⟨_, fd, q, He.glo_ok X G (c.d.fact 10 (f := .glo "may_come") (by rfl)), F.kp, bi_21 F⟩
  a_22 := by
    obtain ⟨fd, F⟩ := c.d.def_ 12 (d := D_22) (by rfl)
    have q := fn_vl (G := ⟨K, clsK K, none⟩) (P := PR) (w := w) (mg := mg) (base := base) (k := k + 1) (m := m_22 (run (k + 1)) (run k)) F sc_22 (fun cdv A outer s H E hr tk pp => v_22 (G := ⟨K, clsK K, none⟩) rfl rfl (facts c X G) (us_of h1 h0) hr tk pp)
    exact ⟨_, fd, q, He.glo_ok X G (c.d.fact 11 (f := .glo "first_letters") (by rfl)), F.kp, bi_22 F⟩
  a_23 := by
    obtain ⟨fd, F⟩ := c.d.def_ 13 (d := D_23) (by rfl)
    have q := fn_vl (G := ⟨K, clsK K, none⟩) (P := PR) (w := w) (mg := mg) (base := base) (k := k + 1) (m := m_23 (run (k + 1)) (run k)) F sc_23 (fun cdv A outer s H E hr tk pp => v_23 (G := ⟨K, clsK K, none⟩) rfl rfl (facts c X G) (us_of h1 h0) hr tk pp)
    exact ⟨_, fd, q, He.glo_ok X G (c.d.fact 12 (f := .glo "first_ranking") (by rfl)), F.kp, bi_23 F⟩
  a_24 := by
    obtain ⟨fd, F⟩ := c.d.def_ 14 (d := D_24) (by rfl)
    have q := fn_vl (G := ⟨K, clsK K, none⟩) (P := PR) (w := w) (mg := mg) (base := base) (k := k + 1) (m := m_24 (run (k + 1)) (run k)) F sc_24 (fun cdv A outer s H E hr tk pp => v_24 (G := ⟨K, clsK K, none⟩) rfl rfl (facts c X G) (us_of h1 h0) hr tk pp)
    exact ⟨_, fd, q, He.glo_ok X G (c.d.fact 13 (f := .glo "_law_mix") (by rfl)), F.kp, bi_24 F⟩
  a_25 := by
    obtain ⟨fd, F⟩ := c.d.def_ 15 (d := D_25) (by rfl)
    have q := fn_vl (G := ⟨K, clsK K, none⟩) (P := PR) (w := w) (mg := mg) (base := base) (k := k + 1) (m := m_25 (run (k + 1)) (run k)) F sc_25 (fun cdv A outer s H E hr tk pp => v_25 (G := ⟨K, clsK K, none⟩) rfl rfl (facts c X G) (us_of h1 h0) hr tk pp)
    exact ⟨_, fd, q, He.glo_ok X G (c.d.fact 14 (f := .glo "_law_draws") (by rfl)), F.kp, bi_25 F⟩
  a_26 := by
    obtain ⟨fd, F⟩ := c.d.def_ 16 (d := D_26) (by rfl)
    have q := fn_vl (G := ⟨K, clsK K, none⟩) (P := PR) (w := w) (mg := mg) (base := base) (k := k + 1) (m := m_26 (run (k + 1)) (run k)) F sc_26 (fun cdv A outer s H E hr tk pp => v_26 (G := ⟨K, clsK K, none⟩) rfl rfl (facts c X G) (us_of h1 h0) hr tk pp)
    exact ⟨_, fd, q, He.glo_ok X G (c.d.fact 15 (f := .glo "_law_pick") (by rfl)), F.kp, bi_26 F⟩
  a_27 := by
    obtain ⟨fd, F⟩ := c.d.def_ 17 (d := D_27) (by rfl)
    have q := fn_vl (G := ⟨K, clsK K, none⟩) (P := PR) (w := w) (mg := mg) (base := base) (k := k + 1) (m := m_27 (run (k + 1)) (run k)) F sc_27 (fun cdv A outer s H E hr tk pp => v_27 (G := ⟨K, clsK K, none⟩) rfl rfl (facts c X G) (us_of h1 h0) hr tk pp)
    exact ⟨_, fd, q, He.glo_ok X G (c.d.fact 16 (f := .glo "_law_same") (by rfl)), F.kp, bi_27 F⟩
  a_28 := by
    obtain ⟨fd, F⟩ := c.d.def_ 18 (d := D_28) (by rfl)
    have q := fn_vl (G := ⟨K, clsK K, none⟩) (P := PR) (w := w) (mg := mg) (base := base) (k := k + 1) (m := m_28 (run (k + 1)) (run k)) F sc_28 (fun cdv A outer s H E hr tk pp => v_28 (G := ⟨K, clsK K, none⟩) rfl rfl (facts c X G) (us_of h1 h0) hr tk pp)
    exact ⟨_, fd, q, He.glo_ok X G (c.d.fact 17 (f := .glo "_law_ranking") (by rfl)), F.kp, bi_28 F⟩
  a_29 := by
    obtain ⟨fd, F⟩ := c.d.def_ 19 (d := D_29) (by rfl)
    have q := fn_vl (G := ⟨K, clsK K, none⟩) (P := PR) (w := w) (mg := mg) (base := base) (k := k + 1) (m := m_29 (run (k + 1)) (run k)) F sc_29 (fun cdv A outer s H E hr tk pp => v_29 (G := ⟨K, clsK K, none⟩) rfl rfl (facts c X G) (us_of h1 h0) hr tk pp)
    exact ⟨_, fd, q, He.glo_ok X G (c.d.fact 18 (f := .glo "_law_orders") (by rfl)), F.kp, bi_29 F⟩
  a_30 := by
    obtain ⟨fd, F⟩ := c.d.def_ 20 (d := D_30) (by rfl)
    have q := fn_vl (G := ⟨K, clsK K, none⟩) (P := PR) (w := w) (mg := mg) (base := base) (k := k + 1) (m := m_30 (run (k + 1)) (run k)) F sc_30 (fun cdv A outer s H E hr tk pp => v_30 (G := ⟨K, clsK K, none⟩) rfl rfl (facts c X G) (us_of h1 h0) hr tk pp)
    exact ⟨_, fd, q, He.glo_ok X G (c.d.fact 19 (f := .glo "_law_line") (by rfl)), F.kp, bi_30 F⟩
  a_31 := by
    obtain ⟨fd, F⟩ := c.d.def_ 21 (d := D_31) (by rfl)
    have q := fn_vl (G := ⟨K, clsK K, none⟩) (P := PR) (w := w) (mg := mg) (base := base) (k := k + 1) (m := m_31 (run (k + 1)) (run k)) F sc_31 (fun cdv A outer s H E hr tk pp => v_31 (G := ⟨K, clsK K, none⟩) rfl rfl (facts c X G) (us_of h1 h0) hr tk pp)
    exact ⟨_, fd, q, He.glo_ok X G (c.d.fact 20 (f := .glo "_law_contrary") (by rfl)), F.kp, bi_31 F⟩
  a_32 := by
    obtain ⟨fd, F⟩ := c.d.def_ 22 (d := D_32) (by rfl)
    have q := fn_vl (G := ⟨K, clsK K, none⟩) (P := PR) (w := w) (mg := mg) (base := base) (k := k + 1) (m := m_32 (run (k + 1)) (run k)) F sc_32 (fun cdv A outer s H E hr tk pp => v_32 (G := ⟨K, clsK K, none⟩) rfl rfl (facts c X G) (us_of h1 h0) hr tk pp)
    exact ⟨_, fd, q, He.glo_ok X G (c.d.fact 21 (f := .glo "_law_fits") (by rfl)), F.kp, bi_32 F⟩
  a_33 := by
    obtain ⟨fd, F⟩ := c.d.def_ 23 (d := D_33) (by rfl)
    have q := fn_vl (G := ⟨K, clsK K, none⟩) (P := PR) (w := w) (mg := mg) (base := base) (k := k + 1) (m := m_33 (run (k + 1)) (run k)) F sc_33 (fun cdv A outer s H E hr tk pp => v_33 (G := ⟨K, clsK K, none⟩) rfl rfl (facts c X G) (us_of h1 h0) hr tk pp)
    exact ⟨_, fd, q, He.glo_ok X G (c.d.fact 22 (f := .glo "_law_round") (by rfl)), F.kp, bi_33 F⟩
  a_34 := by
    obtain ⟨fd, F⟩ := c.d.def_ 24 (d := D_34) (by rfl)
    have q := fn_vl (G := ⟨K, clsK K, none⟩) (P := PR) (w := w) (mg := mg) (base := base) (k := k + 1) (m := m_34 (run (k + 1)) (run k)) F sc_34 (fun cdv A outer s H E hr tk pp => v_34 (G := ⟨K, clsK K, none⟩) rfl rfl (facts c X G) (us_of h1 h0) hr tk pp)
    exact ⟨_, fd, q, He.glo_ok X G (c.d.fact 23 (f := .glo "_law_lines") (by rfl)), F.kp, bi_34 F⟩
  a_35 := by
    obtain ⟨fd, F⟩ := c.d.def_ 25 (d := D_35) (by rfl)
    have q := fn_vl (G := ⟨K, clsK K, none⟩) (P := PR) (w := w) (mg := mg) (base := base) (k := k + 1) (m := m_35 (run (k + 1)) (run k)) F sc_35 (fun cdv A outer s H E hr tk pp => v_35 (G := ⟨K, clsK K, none⟩) rfl rfl (facts c X G) (us_of h1 h0) hr tk pp)
    exact ⟨_, fd, q, He.glo_ok X G (c.d.fact 24 (f := .glo "_law_all") (by rfl)), F.kp, bi_35 F⟩
  a_36 := by
    obtain ⟨fd, F⟩ := c.d.def_ 26 (d := D_36) (by rfl)
    have q := fn_vl (G := ⟨K, clsK K, none⟩) (P := PR) (w := w) (mg := mg) (base := base) (k := k + 1) (m := m_36 (run (k + 1)) (run k)) F sc_36 (fun cdv A outer s H E hr tk pp => v_36 (G := ⟨K, clsK K, none⟩) rfl rfl (facts c X G) (us_of h1 h0) hr tk pp)
    exact ⟨_, fd, q, He.glo_ok X G (c.d.fact 25 (f := .glo "_law_first") (by rfl)), F.kp, bi_36 F⟩
  a_37 := by
    obtain ⟨fd, F⟩ := c.d.def_ 27 (d := D_37) (by rfl)
    have q := fn_vl (G := ⟨K, clsK K, none⟩) (P := PR) (w := w) (mg := mg) (base := base) (k := k + 1) (m := m_37 (run (k + 1)) (run k)) F sc_37 (fun cdv A outer s H E hr tk pp => v_37 (G := ⟨K, clsK K, none⟩) rfl rfl (facts c X G) (us_of h1 h0) hr tk pp)
    exact ⟨_, fd, q, He.glo_ok X G (c.d.fact 26 (f := .glo "_law_marked") (by rfl)), F.kp, bi_37 F⟩
  a_38 := by
    obtain ⟨fd, F⟩ := c.d.def_ 28 (d := D_38) (by rfl)
    have q := fn_vl (G := ⟨K, clsK K, none⟩) (P := PR) (w := w) (mg := mg) (base := base) (k := k + 1) (m := m_38 (run (k + 1)) (run k)) F sc_38 (fun cdv A outer s H E hr tk pp => v_38 (G := ⟨K, clsK K, none⟩) rfl rfl (facts c X G) (us_of h1 h0) hr tk pp)
    exact ⟨_, fd, q, He.glo_ok X G (c.d.fact 27 (f := .glo "_law_peel") (by rfl)), F.kp, bi_38 F⟩
  a_39 := by
    obtain ⟨fd, F⟩ := c.d.def_ 29 (d := D_39) (by rfl)
    have q := fn_vl (G := ⟨K, clsK K, none⟩) (P := PR) (w := w) (mg := mg) (base := base) (k := k + 1) (m := m_39 (run (k + 1)) (run k)) F sc_39 (fun cdv A outer s H E hr tk pp => v_39 (G := ⟨K, clsK K, none⟩) rfl rfl (facts c X G) (us_of h1 h0) hr tk pp)
    exact ⟨_, fd, q, He.glo_ok X G (c.d.fact 28 (f := .glo "_law_lot_right") (by rfl)), F.kp, bi_39 F⟩
  a_41 := by
    obtain ⟨fd, F⟩ := c.d.def_ 31 (d := D_41) (by rfl)
    have q := fn_vl (G := ⟨K, clsK K, none⟩) (P := PR) (w := w) (mg := mg) (base := base) (k := k + 1) (m := m_41 (run (k + 1)) (run k)) F sc_41 (fun cdv A outer s H E hr tk pp => v_41 (G := ⟨K, clsK K, none⟩) rfl rfl (facts c X G) (us_of h1 h0) hr tk pp)
    exact ⟨_, fd, q, He.glo_ok X G (c.d.fact 30 (f := .glo "_law_ask") (by rfl)), F.kp, bi_41 F⟩
  a_42 := by
    obtain ⟨fd, F⟩ := c.d.def_ 32 (d := D_42) (by rfl)
    have q := fn_vl (G := ⟨K, clsK K, none⟩) (P := PR) (w := w) (mg := mg) (base := base) (k := k + 1) (m := m_42 (run (k + 1)) (run k)) F sc_42 (fun cdv A outer s H E hr tk pp => v_42 (G := ⟨K, clsK K, none⟩) rfl rfl (facts c X G) (us_of h1 h0) hr tk pp)
    exact ⟨_, fd, q, He.glo_ok X G (c.d.fact 31 (f := .glo "_law_right") (by rfl)), F.kp, bi_42 F⟩
  a_43 := by
    obtain ⟨fd, F⟩ := c.d.def_ 33 (d := D_43) (by rfl)
    have q := fn_vl (G := ⟨K, clsK K, none⟩) (P := PR) (w := w) (mg := mg) (base := base) (k := k + 1) (m := m_43 (run (k + 1)) (run k)) F sc_43 (fun cdv A outer s H E hr tk pp => v_43 (G := ⟨K, clsK K, none⟩) rfl rfl (facts c X G) (us_of h1 h0) hr tk pp)
    exact ⟨_, fd, q, He.glo_ok X G (c.d.fact 32 (f := .glo "_law_closed") (by rfl)), F.kp, bi_43 F⟩
  a_44 := by
    obtain ⟨fd, F⟩ := c.d.def_ 34 (d := D_44) (by rfl)
    have q := fn_vl (G := ⟨K, clsK K, none⟩) (P := PR) (w := w) (mg := mg) (base := base) (k := k + 1) (m := m_44 (run (k + 1)) (run k)) F sc_44 (fun cdv A outer s H E hr tk pp => v_44 (G := ⟨K, clsK K, none⟩) rfl rfl (facts c X G) (us_of h1 h0) hr tk pp)
    exact ⟨_, fd, q, He.glo_ok X G (c.d.fact 33 (f := .glo "law") (by rfl)), F.kp, bi_44 F⟩
  h_40 := by
    obtain ⟨fd, F⟩ := c.d.def_ 30 (d := D_40) (by rfl)
    have q := fun g => fn_vlX (G := ⟨K, clsK K, g⟩) (P := PR) (w := w) (mg := mg) (base := base) (k := k + 1) (m := mh_40 (run (k + 1)) (run k)) F sc_40 (fun cdv A outer s H E p0 hot hr tk pp => vh_40 (G := ⟨K, clsK K, g⟩) rfl (facts c X G) hot hr tk)
    exact ⟨fun g => ⟨_, fd, q g, He.glo_ok X G (c.d.fact 29 (f := .glo "_law_error") (by rfl)), F.kp, bi_40 F⟩⟩
theorem al_both (c : Says K) (X : K.In base) (G : base.Ns mainGlobals mg) : ∀ k, Al w K mg base k ∧ Al w K mg base (k + 1)
  | 0 => ⟨al_bad c X G 0 rfl, al_bad c X G 1 rfl⟩
  | k + 1 => ⟨(al_both c X G k).2, al_step c X G (al_both c X G k).2 (al_both c X G k).1⟩
end
/-- the law, from what its meaning gives -/
theorem ends {w : World} {K : Fr} {mg : PySem.Str → Option Value} {h : Heap} {fa0 : Addr} {n : Nat} (c : Says K) (X : K.In h) (G : h.Ns mainGlobals mg) (hfa : mg ("law" : PySem.Str) = some (.ref fa0)) (hm : ∀ ns : List Int, ns.length ≤ 63 → run (n + 2) 44 [(.sh, .scr ns)] = .ok (.sh (.bl true)) none) :
    ∃ (K : PySem.W.Frag) (fd : FuncData) (sp : Sp), K.In h ∧ (∀ (s : Shared) (u : Value), BindsTo s fd ⟨[u], []⟩ [("script", u)]) ∧
        (∀ (H : Hp) (a : Addr) (ns : List Int), ns.length ≤ 63 → Only H → SqL K H a (ns.map V.int) → sp [.ref a] H (fun v _ => v = .bl true) fun _ _ _ => False) ∧
        ∀ base : Heap, K.In base → base.Ns mainGlobals mg → FnOk PR w K mg base (L2N.CX PR w) (n + 2) fa0 fd ["script"] sp := by
  obtain ⟨fd, F⟩ := c.d.def_ 34 (d := D_44) (by rfl)
  have e := hfa.symm.trans (He.glo_ok X G (c.d.fact 33 (f := .glo "law") (by rfl)))
  cases e
  have b := FunD.bindsA (ps := ["script"]) F fun _ _ _ _ _ _ us hl => match us, hl with | [_], _ => by rfl
  refine ⟨K, fd, spG ⟨K, clsK K, none⟩ 1 (run (n + 2) 44), X, fun s v => b s [v] rfl, fun H a ns hl _ hS => law_sp hS (hm ns hl), fun base X2 G2 => ?_⟩
  exact fn_vl (G := ⟨K, clsK K, none⟩) (P := PR) (w := w) (mg := mg) (base := base) (k := n + 1) (m := m_44 (run (n + 1)) (run n)) F sc_44 (fun cdv A outer s H E hr tk pp => v_44 (G := ⟨K, clsK K, none⟩) rfl rfl (facts c X2 G2) (us_of (al_both c X2 G2 n).2 (al_both c X2 G2 n).1) hr tk pp)
end LW

set_option maxHeartbeats 200000
/-! Rows and rankings, plainly. -/
namespace PT
/-- a row: where it is good, where it is bad -/
abbrev AR : Type := (Nat → Bool) × (Nat → Bool)
def fitsA : List Nat → AR → Bool
  | [], _ => true
  | x :: o, r => if r.1 x = true then true else if r.2 x = true then false else fitsA o r
def Neu (r : AR) (x : Nat) : Prop := r.1 x = false ∧ r.2 x = false
def Dj (L : List AR) : Prop := ∀ r ∈ L, ∀ x, r.2 x = true → r.1 x = false
def fitsAll (o : List Nat) (L : List AR) : Bool := L.all (fitsA o)
def ConsW (W : List Nat) (L : List AR) : Prop := ∃ o : List Nat, o.Perm W ∧ fitsAll o L = true
theorem fits_filter {r : AR} {p : Nat → Bool} : ∀ {o : List Nat}, (∀ x ∈ o, p x = false → Neu r x) → fitsA (o.filter p) r = fitsA o r
  | [], _ => rfl
  | x :: o, h => by
    have ih := fits_filter (o := o) fun y hy => h y (List.mem_cons_of_mem _ hy)
    cases hp : p x with
    | true => rw [List.filter_cons_of_pos hp, fitsA, fitsA, ih]
    | false =>
      obtain ⟨h1, h2⟩ := h x List.mem_cons_self hp
      rw [List.filter_cons_of_neg (by simp [hp]), ih]
      simp [fitsA, h1, h2]
theorem fits_neu {r : AR} {o : List Nat} : ∀ {F : List Nat}, (∀ x ∈ F, Neu r x) → fitsA (F ++ o) r = fitsA o r
  | [], _ => rfl
  | x :: F, h => by
    obtain ⟨h1, h2⟩ := h x List.mem_cons_self
    have ih := fits_neu (o := o) (F := F) fun y hy => h y (List.mem_cons_of_mem _ hy)
    simp [fitsA, h1, h2, ih]
theorem fits_good {r : AR} {o : List Nat} : ∀ {F : List Nat}, (∀ x ∈ F, r.2 x = false) → (∃ x ∈ F, r.1 x = true) → fitsA (F ++ o) r = true
  | [], _, ⟨_, h, _⟩ => by cases h
  | x :: F, h, ⟨y, hy, hg⟩ => by
    have h2 := h x List.mem_cons_self
    cases h1 : r.1 x with
    | true => simp [fitsA, h1]
    | false =>
      have ih := fits_good (o := o) (F := F) (fun z hz => h z (List.mem_cons_of_mem _ hz)) (by
        rcases List.mem_cons.mp hy with rfl | hy
        · rw [h1] at hg; cases hg
        · exact ⟨y, hy, hg⟩)
      simp [fitsA, h1, h2, ih]
def free (L : List AR) (x : Nat) : Bool := L.all fun r => !r.2 x
def freeW (W : List Nat) (L : List AR) : List Nat := W.filter (free L)
def restW (W : List Nat) (L : List AR) : List Nat := W.filter fun x => !free L x
def keepL (W : List Nat) (L : List AR) : List AR := L.filter fun r => (freeW W L).all fun x => !r.1 x
theorem keep_neu {W : List Nat} {L : List AR} {r : AR} (h : r ∈ keepL W L) {x : Nat} (hx : x ∈ freeW W L) : Neu r x := by
  obtain ⟨h1, h2⟩ := List.mem_filter.mp h
  have a := List.all_eq_true.mp h2 x hx
  have b := List.all_eq_true.mp (List.mem_filter.mp hx).2 r h1
  exact ⟨by simpa using a, by simpa using b⟩
theorem cons_step {W : List Nat} {L : List AR} : ConsW W L ↔ ConsW (restW W L) (keepL W L) := by
  constructor
  · rintro ⟨o, hp, hf⟩
    refine ⟨o.filter fun x => !free L x, hp.filter _, ?_⟩
    unfold fitsAll at hf ⊢
    rw [List.all_eq_true] at hf ⊢
    intro r hr
    rw [fits_filter]
    · exact hf r (List.mem_filter.mp hr).1
    · intro x hx hq
      exact keep_neu hr (List.mem_filter.mpr ⟨hp.mem_iff.mp hx, by simpa using hq⟩)
  · rintro ⟨o, hp, hf⟩
    refine ⟨freeW W L ++ o, ?_, ?_⟩
    · exact (List.Perm.append_left _ hp).trans (List.filter_append_perm (free L) W)
    · unfold fitsAll at hf ⊢
      rw [List.all_eq_true] at hf ⊢
      intro r hr
      cases hk : (freeW W L).all fun x => !r.1 x with
      | true =>
        have hm : r ∈ keepL W L := List.mem_filter.mpr ⟨hr, hk⟩
        rw [fits_neu fun x hx => keep_neu hm hx]
        exact hf r hm
      | false =>
        refine fits_good (fun x hx => ?_) ?_
        · simpa using List.all_eq_true.mp (List.mem_filter.mp hx).2 r hr
        · obtain ⟨x, hx, h⟩ := List.all_eq_false.mp hk
          exact ⟨x, hx, by simpa using h⟩
theorem cons_nil {L : List AR} : ConsW [] L := ⟨[], .nil, by simp [fitsAll, fitsA]⟩
theorem cons_stuck {W : List Nat} {L : List AR} (hd : Dj L) (hf : freeW W L = []) (hW : W ≠ []) : ¬ ConsW W L := by
  rintro ⟨o, hp, h⟩
  cases o with
  | nil => exact hW hp.symm.eq_nil
  | cons x o =>
    have hx : x ∈ W := hp.mem_iff.mp List.mem_cons_self
    have hn := List.filter_eq_nil_iff.mp hf x hx
    unfold free at hn
    rw [Bool.not_eq_true, List.all_eq_false] at hn
    obtain ⟨r, hr, hb⟩ := hn
    have hb : r.2 x = true := by simpa using hb
    have := List.all_eq_true.mp h r hr
    rw [fitsA, hd r hr x hb, hb] at this
    simp at this
/-- rules that are neutral in all rows may be left out -/
theorem cons_sub {W : List Nat} {L : List AR} {p : Nat → Bool} (hn : ∀ r ∈ L, ∀ x ∈ W, p x = false → Neu r x) : ConsW W L ↔ ConsW (W.filter p) L := by
  constructor
  · rintro ⟨o, hp, hf⟩
    refine ⟨o.filter p, hp.filter _, ?_⟩
    unfold fitsAll at hf ⊢
    rw [List.all_eq_true] at hf ⊢
    intro r hr
    rw [fits_filter fun x hx => hn r hr x (hp.mem_iff.mp hx)]
    exact hf r hr
  · rintro ⟨o, hp, hf⟩
    refine ⟨W.filter (fun x => !p x) ++ o, ?_, ?_⟩
    · have := List.filter_append_perm (fun x => !p x) W
      simp only [Bool.not_not] at this
      exact (List.Perm.append_left _ hp).trans this
    · unfold fitsAll at hf ⊢
      rw [List.all_eq_true] at hf ⊢
      intro r hr
      rw [fits_neu]
      · exact hf r hr
      · intro x hx
        obtain ⟨h1, h2⟩ := List.mem_filter.mp hx
        exact hn r hr x h1 (by simpa using h2)
theorem cons_mono {W : List Nat} {L L' : List AR} (h : ∀ r ∈ L', r ∈ L) : ConsW W L → ConsW W L' := by
  rintro ⟨o, hp, hf⟩
  refine ⟨o, hp, ?_⟩
  unfold fitsAll at hf ⊢
  rw [List.all_eq_true] at hf ⊢
  exact fun r hr => hf r (h r hr)
/-! ### rounds of peeling -/
def peelN : Nat → List Nat → List AR → List Nat × List AR
  | 0, W, L => (W, L)
  | n + 1, W, L => peelN n (restW W L) (keepL W L)
theorem rest_stuck {W : List Nat} {L : List AR} (hf : freeW W L = []) : restW W L = W := by
  unfold restW
  rw [List.filter_eq_self]
  intro x hx
  have := List.filter_eq_nil_iff.mp hf x hx
  simpa using this
theorem keep_stuck {W : List Nat} {L : List AR} (hf : freeW W L = []) : keepL W L = L := by
  unfold keepL
  rw [hf]
  exact List.filter_eq_self.mpr (by simp)
theorem peel_stuck {W : List Nat} {L : List AR} (hf : freeW W L = []) : ∀ n, peelN n W L = (W, L)
  | 0 => rfl
  | n + 1 => by rw [peelN, rest_stuck hf, keep_stuck hf, peel_stuck hf n]
theorem rest_lt {W : List Nat} {L : List AR} (hf : freeW W L ≠ []) : (restW W L).length < W.length := by
  have := (List.filter_append_perm (free L) W).length_eq
  rw [List.length_append] at this
  have h2 : 0 < (freeW W L).length := List.length_pos_iff.mpr hf
  unfold freeW at h2
  unfold restW
  omega
theorem Dj.sub {L L' : List AR} (hd : Dj L) (h : ∀ r ∈ L', r ∈ L) : Dj L' := fun r hr => hd r (h r hr)
theorem keep_sub {W : List Nat} {L : List AR} : ∀ r ∈ keepL W L, r ∈ L := fun r hr => (List.mem_filter.mp hr).1
theorem peel_cons : ∀ {n : Nat} {W : List Nat} {L : List AR}, Dj L → W.length ≤ n → ((peelN n W L).1 = [] ↔ ConsW W L)
  | 0, W, L, hd, h => by
    have : W = [] := List.length_eq_zero_iff.mp (by omega)
    subst this
    exact ⟨fun _ => cons_nil, fun _ => rfl⟩
  | n + 1, W, L, hd, h => by
    by_cases hf : freeW W L = []
    · rw [peel_stuck hf]
      by_cases hW : W = []
      · subst hW
        exact ⟨fun _ => cons_nil, fun _ => rfl⟩
      · exact ⟨fun z => absurd z hW, fun z => absurd z (cons_stuck hd hf hW)⟩
    · rw [peelN, peel_cons (n := n) (hd.sub keep_sub) (by have := rest_lt hf; omega)]
      exact cons_step.symm
/-! ### which rule may come next -/
def mayN (L : List AR) (pre : List Nat) (x : Nat) : Bool := L.all fun r => !r.2 x || pre.any r.1
def legal (L : List AR) : List Nat → List Nat → Bool
  | _, [] => true
  | pre, x :: o => mayN L pre x && legal L (pre ++ [x]) o
theorem legal_app {L : List AR} : ∀ {o pre : List Nat} {x : Nat}, legal L pre (o ++ [x]) = (legal L pre o && mayN L (pre ++ o) x)
  | [], pre, x => by simp [legal]
  | y :: o, pre, x => by
    rw [List.cons_append, legal, legal_app, legal, Bool.and_assoc]
    simp
theorem legal_any {r : AR} {L : List AR} (hr : r ∈ L) : ∀ {o pre : List Nat}, legal L pre o = true → pre.any r.1 = false → (∀ x ∈ pre, r.2 x = false) → Dj L → fitsA o r = true
  | [], pre, _, _, _, _ => rfl
  | x :: o, pre, h, h1, h2, hd => by
    rw [legal, Bool.and_eq_true] at h
    have hx := List.all_eq_true.mp h.1 r hr
    rw [h1, Bool.or_false] at hx
    have hx : r.2 x = false := by simpa using hx
    cases hg : r.1 x with
    | true => simp [fitsA, hg]
    | false =>
      have := legal_any hr (o := o) (pre := pre ++ [x]) h.2 (by simp [h1, hg]) (by
        intro y hy
        rcases List.mem_append.mp hy with hy | hy
        · exact h2 y hy
        · rw [List.mem_singleton.mp hy]; exact hx) hd
      simp [fitsA, hg, hx, this]
theorem fits_legal {L : List AR} (hd : Dj L) : ∀ {o pre : List Nat}, (∀ r ∈ L, fitsA (pre ++ o) r = true) → legal L pre o = true
  | [], pre, _ => rfl
  | x :: o, pre, h => by
    rw [legal, Bool.and_eq_true]
    constructor
    · unfold mayN
      rw [List.all_eq_true]
      intro r hr
      cases hb : r.2 x with
      | false => simp
      | true =>
        have hg := hd r hr x hb
        cases ha : pre.any r.1 with
        | true => simp
        | false =>
          have hf := h r hr
          have key : ∀ {pre : List Nat}, pre.any r.1 = false → fitsA (pre ++ x :: o) r = false := by
            intro pre
            induction pre with
            | nil => intro _; simp [fitsA, hg, hb]
            | cons y pre ih =>
              intro hy
              rw [List.any_cons, Bool.or_eq_false_iff] at hy
              rw [List.cons_append, fitsA, hy.1, ih hy.2]
              simp
          rw [key ha] at hf
          cases hf
    · exact fits_legal hd fun r hr => by rw [List.append_assoc]; exact h r hr
theorem legal_iff {L : List AR} (hd : Dj L) {o : List Nat} : legal L [] o = fitsAll o L := by
  rw [Bool.eq_iff_iff]
  constructor
  · intro h
    unfold fitsAll
    rw [List.all_eq_true]
    exact fun r hr => legal_any hr h rfl (by simp) hd
  · intro h
    exact fits_legal hd fun r hr => List.all_eq_true.mp h r hr
/-- all rankings' beginnings, in order -/
def ords (m : Nat) : Nat → List (List Nat)
  | 0 => [[]]
  | k + 1 => (ords m k).flatMap fun t => ((List.range m).filter fun x => !t.contains x).map fun x => t ++ [x]
structure Beg (m k : Nat) (t : List Nat) : Prop where
  nd : t.Nodup
  len : t.length = k
  lt : ∀ x ∈ t, x < m
theorem ords_beg {m : Nat} : ∀ {k : Nat} {t : List Nat}, t ∈ ords m k → Beg m k t
  | 0, t, h => by
    rw [ords, List.mem_singleton] at h
    subst h
    exact ⟨by simp, rfl, by simp⟩
  | k + 1, t, h => by
    rw [ords, List.mem_flatMap] at h
    obtain ⟨s, hs, ht⟩ := h
    obtain ⟨x, hx, rfl⟩ := List.mem_map.mp ht
    obtain ⟨h1, h2⟩ := List.mem_filter.mp hx
    obtain ⟨b1, b2, b3⟩ := ords_beg hs
    have hn : x ∉ s := by simpa using h2
    refine ⟨?_, by simp [b2], ?_⟩
    · rw [List.nodup_append]
      refine ⟨b1, by simp, ?_⟩
      intro a ha b hb
      rw [List.mem_singleton.mp hb]
      exact fun e => hn (e ▸ ha)
    · intro y hy
      rcases List.mem_append.mp hy with hy | hy
      · exact b3 y hy
      · rw [List.mem_singleton.mp hy]; exact List.mem_range.mp h1
end PT

set_option maxHeartbeats 200000
namespace PT
theorem beg_not_all {m k : Nat} {t : List Nat} (h : Beg m k t) (hk : k < m) {o : List Nat} (ho : o.Perm (List.range m)) : ∃ x o', o.filter (fun y => !t.contains y) = x :: o' := by
  cases e : o.filter (fun y => !t.contains y) with
  | cons x o' => exact ⟨x, o', rfl⟩
  | nil =>
    have hs : (List.range m) ⊆ t := by
      intro y hy
      have hyo := ho.mem_iff.mpr hy
      have := List.filter_eq_nil_iff.mp e y hyo
      simpa using this
    have := List.Nodup.length_le_of_subset (List.nodup_range (n := m)) hs
    rw [List.length_range, h.len] at this
    omega
theorem next_is {m k : Nat} {t : List Nat} {L : List AR} (hd : Dj L) (hc : ConsW (List.range m) L) (h : Beg m k t) (hk : k < m) (hl : legal L [] t = true) : ∃ x, x < m ∧ x ∉ t ∧ mayN L t x = true := by
  obtain ⟨o, hp, hf⟩ := hc
  obtain ⟨x, o', e⟩ := beg_not_all h hk hp
  have hx : x ∈ o.filter (fun y => !t.contains y) := by rw [e]; exact List.mem_cons_self
  obtain ⟨h1, h2⟩ := List.mem_filter.mp hx
  refine ⟨x, List.mem_range.mp (hp.mem_iff.mp h1), by simpa using h2, ?_⟩
  unfold mayN
  rw [List.all_eq_true]
  intro r hr
  cases hb : r.2 x with
  | false => simp
  | true =>
    cases ha : t.any r.1 with
    | true => simp
    | false =>
      -- the row is neutral at the beginning
      have hg : ∀ y ∈ t, r.1 y = false := fun y hy => by
        have := List.any_eq_false.mp ha y hy
        simpa using this
      have hfit : fitsA t r = true := legal_any hr hl rfl (by simp) hd
      have hbad : ∀ y ∈ t, r.2 y = false := by
        have key : ∀ {s : List Nat}, (∀ y ∈ s, r.1 y = false) → fitsA s r = true → ∀ y ∈ s, r.2 y = false := by
          intro s
          induction s with
          | nil => intro _ _ y hy; cases hy
          | cons z s ih =>
            intro g f y hy
            have gz := g z List.mem_cons_self
            rw [fitsA, gz] at f
            cases hz : r.2 z with
            | true => rw [hz] at f; simp at f
            | false =>
              rw [hz] at f
              rcases List.mem_cons.mp hy with rfl | hy
              · exact hz
              · exact ih (fun w hw => g w (List.mem_cons_of_mem _ hw)) (by simpa using f) y hy
        exact key hg hfit
      have f1 := List.all_eq_true.mp hf r hr
      rw [← fits_filter (p := fun y => !t.contains y) (fun y hy hq => ⟨hg y (by simpa using hq), hbad y (by simpa using hq)⟩), e, fitsA, hd r hr x hb, hb] at f1
      simp at f1
def nextG (m : Nat) (L : List AR) (t : List Nat) : Nat := ((List.range m).find? fun x => !t.contains x && mayN L t x).getD 0
def greedy (m : Nat) (L : List AR) : Nat → List Nat
  | 0 => []
  | k + 1 => greedy m L k ++ [nextG m L (greedy m L k)]
theorem findSome_of {α β : Type} {g : α → Option β} {p : α → Bool} {t0 : α} {v : β} : ∀ {l : List α}, l.find? p = some t0 → (∀ a, p a = false → g a = none) → g t0 = some v → l.findSome? g = some v
  | [], h, _, _ => by cases h
  | a :: l, h, h1, h2 => by
    rw [List.find?_cons] at h
    cases hp : p a with
    | true =>
      rw [hp] at h
      obtain rfl : a = t0 := Option.some.inj h
      simp [List.findSome?_cons, h2]
    | false =>
      rw [hp] at h
      simp [List.findSome?_cons, h1 a hp, findSome_of h h1 h2]
theorem find_none {α : Type} {p : α → Bool} {l : List α} (h : ∀ a ∈ l, p a = false) : l.find? p = none := by
  rw [List.find?_eq_none]
  intro a ha
  rw [h a ha]
  simp
theorem first_ords {m : Nat} {L : List AR} (hd : Dj L) (hc : ConsW (List.range m) L) : ∀ {k : Nat}, k ≤ m → (ords m k).find? (legal L []) = some (greedy m L k)
  | 0, _ => rfl
  | k + 1, hk => by
    have ih := first_ords hd hc (k := k) (by omega)
    have hm := List.mem_of_find?_eq_some ih
    have hl := List.find?_some ih
    have hb := ords_beg hm
    obtain ⟨x, x1, x2, x3⟩ := next_is hd hc hb (by omega) hl
    rw [ords, List.find?_flatMap]
    refine findSome_of ih (fun t ht => ?_) ?_
    · apply find_none
      intro s hs
      obtain ⟨y, _, rfl⟩ := List.mem_map.mp hs
      rw [legal_app, ht, Bool.false_and]
    · rw [List.find?_map]
      have hfil : ((List.range m).filter fun x => !(greedy m L k).contains x).find? ((legal L []) ∘ fun x => greedy m L k ++ [x]) = (List.range m).find? fun x => !(greedy m L k).contains x && mayN L (greedy m L k) x := by
        rw [List.find?_filter]
        congr 1
        funext y
        simp only [Function.comp_def, legal_app, hl, Bool.true_and, List.nil_append]
        rw [Bool.eq_iff_iff]
        simp
      rw [hfil]
      cases hf : (List.range m).find? (fun x => !(greedy m L k).contains x && mayN L (greedy m L k) x) with
      | none =>
        have := List.find?_eq_none.mp hf x (List.mem_range.mpr x1)
        simp [x2, x3] at this
      | some y =>
        have : nextG m L (greedy m L k) = y := by unfold nextG; rw [hf]; rfl
        rw [greedy, this]
        rfl
theorem greedy_beg {m : Nat} {L : List AR} (hd : Dj L) (hc : ConsW (List.range m) L) {k : Nat} (hk : k ≤ m) : Beg m k (greedy m L k) ∧ legal L [] (greedy m L k) = true :=
  ⟨ords_beg (List.mem_of_find?_eq_some (first_ords hd hc hk)), List.find?_some (first_ords hd hc hk)⟩
theorem beg_perm {m : Nat} {t : List Nat} (h : Beg m m t) : t.Perm (List.range m) := by
  rw [List.perm_ext_iff_of_nodup h.nd List.nodup_range]
  intro x
  constructor
  · intro hx
    exact List.mem_range.mpr (h.lt x hx)
  · intro hx
    cases hc : decide (x ∈ t) with
    | true => exact of_decide_eq_true hc
    | false =>
      have hn := of_decide_eq_false hc
      have hs : (x :: t) ⊆ List.range m := by
        intro y hy
        rcases List.mem_cons.mp hy with rfl | hy
        · exact hx
        · exact List.mem_range.mpr (h.lt y hy)
      have := List.Nodup.length_le_of_subset (List.nodup_cons.mpr ⟨hn, h.nd⟩) hs
      rw [List.length_cons, h.len, List.length_range] at this
      omega
/-- the first ranking that fits -/
def firstFit (m : Nat) (L : List AR) : Option (List Nat) := (ords m m).find? fun o => fitsAll o L
theorem first_some {m : Nat} {L : List AR} (hd : Dj L) (hc : ConsW (List.range m) L) : firstFit m L = some (greedy m L m) := by
  have := first_ords hd hc (Nat.le_refl m)
  rw [← this]
  unfold firstFit
  congr 1
  funext o
  exact (legal_iff hd).symm
theorem first_none {m : Nat} {L : List AR} (hc : ¬ ConsW (List.range m) L) : firstFit m L = none := by
  apply find_none
  intro o ho
  cases h : fitsAll o L with
  | false => rfl
  | true => exact absurd ⟨o, beg_perm (ords_beg ho), h⟩ hc
theorem ords_ne (m : Nat) : ∃ o r, ords m m = o :: r := by
  have := first_ords (m := m) (L := []) (fun r hr => by cases hr) ⟨List.range m, .refl _, rfl⟩ (Nat.le_refl m)
  cases h : ords m m with
  | nil => rw [h] at this; cases this
  | cons o r => exact ⟨o, r, rfl⟩
/-! ### masks -/
def bits (R : Nat) : List Nat := (List.range 6).filter R.testBit
def mAR (p : Nat × Nat) : AR := (p.1.testBit, p.2.testBit)
theorem tb_sub : ∀ a < 64, ∀ b < 64, ∀ i < 6, (a - (a &&& b)).testBit i = (a.testBit i && !b.testBit i) := by decide +kernel
theorem tb_zero : ∀ a < 64, ∀ b < 64, ((a &&& b = 0) ↔ ∀ i < 6, ¬ (a.testBit i = true ∧ b.testBit i = true)) := by decide +kernel
theorem tb_ne : ∀ a < 64, a ≠ 0 → ∃ i < 6, a.testBit i = true := by decide +kernel
theorem and_lt {a b : Nat} (h : a < 64) : a &&& b < 64 := Nat.lt_of_le_of_lt Nat.and_le_left h
/-- the rules of R that are bad in none of these rows -/
def strat (M : List (Nat × Nat)) (R : Nat) (left : List Nat) : Nat := left.foldl (fun s j => s - (s &&& (M.getD j (0, 0)).2)) R
def MOk (M : List (Nat × Nat)) : Prop := ∀ p ∈ M, p.1 < 64 ∧ p.2 < 64 ∧ p.1 &&& p.2 = 0
theorem MOk.at {M : List (Nat × Nat)} (h : MOk M) (j : Nat) : (M.getD j (0, 0)).1 < 64 ∧ (M.getD j (0, 0)).2 < 64 ∧ (M.getD j (0, 0)).1 &&& (M.getD j (0, 0)).2 = 0 := by
  by_cases hj : j < M.length
  · have : M.getD j (0, 0) = M[j] := by simp [hj]
    rw [this]
    exact h _ (List.getElem_mem hj)
  · have : M.getD j (0, 0) = (0, 0) := by simp [List.getD_eq_getElem?_getD, List.getElem?_eq_none (Nat.not_lt.mp hj)]
    rw [this]
    decide
theorem strat_ok {M : List (Nat × Nat)} (h : MOk M) : ∀ {left : List Nat} {R : Nat}, R < 64 → strat M R left < 64 ∧ ∀ i < 6, (strat M R left).testBit i = (R.testBit i && left.all fun j => !(M.getD j (0, 0)).2.testBit i)
  | [], R, hR => ⟨hR, fun i _ => by simp [strat]⟩
  | j :: left, R, hR => by
    have hj := h.at j
    have h2 : R - (R &&& (M.getD j (0, 0)).2) < 64 := by omega
    obtain ⟨i1, i2⟩ := strat_ok h (left := left) h2
    refine ⟨i1, fun i hi => ?_⟩
    rw [List.all_cons, ← Bool.and_assoc, ← tb_sub _ hR _ hj.2.1 i hi]
    exact i2 i hi
def rowsM (M : List (Nat × Nat)) (left : List Nat) : List AR := left.map fun j => mAR (M.getD j (0, 0))
theorem bits_lt {R i : Nat} (h : i ∈ bits R) : i < 6 ∧ R.testBit i = true := by
  obtain ⟨h1, h2⟩ := List.mem_filter.mp h
  exact ⟨List.mem_range.mp h1, h2⟩
theorem mem_bits {R i : Nat} : i ∈ bits R ↔ i < 6 ∧ R.testBit i = true := by
  constructor
  · exact bits_lt
  · rintro ⟨h1, h2⟩
    exact List.mem_filter.mpr ⟨List.mem_range.mpr h1, h2⟩
theorem filter_range {p q : Nat → Bool} {n : Nat} (h : ∀ i < n, p i = q i) : (List.range n).filter p = (List.range n).filter q := by
  apply List.filter_congr
  intro i hi
  exact h i (List.mem_range.mp hi)
theorem strat_bits {M : List (Nat × Nat)} (h : MOk M) {left : List Nat} {R : Nat} (hR : R < 64) : bits (strat M R left) = freeW (bits R) (rowsM M left) := by
  unfold bits freeW
  rw [List.filter_filter]
  apply filter_range
  intro i hi
  rw [(strat_ok h hR).2 i hi, Bool.and_comm]
  congr 1
  unfold free rowsM
  rw [List.all_map]
  rfl
theorem strat_sub {M : List (Nat × Nat)} (h : MOk M) {left : List Nat} {R : Nat} : strat M R left ≤ R := by
  unfold strat
  induction left generalizing R with
  | nil => exact Nat.le_refl _
  | cons j left ih => exact Nat.le_trans ih (Nat.sub_le _ _)
theorem rest_bits {M : List (Nat × Nat)} (h : MOk M) {left : List Nat} {R : Nat} (hR : R < 64) : bits (R - strat M R left) = restW (bits R) (rowsM M left) := by
  have hs := strat_ok h (left := left) hR
  have e : R &&& strat M R left = strat M R left := by
    have key : ∀ a < 64, ∀ b < 64, (∀ i < 6, b.testBit i = true → a.testBit i = true) → a &&& b = b := by decide +kernel
    refine key R hR _ hs.1 fun i hi hb => ?_
    rw [hs.2 i hi, Bool.and_eq_true] at hb
    exact hb.1
  unfold bits restW
  rw [List.filter_filter]
  apply filter_range
  intro i hi
  rw [← e, tb_sub R hR _ hs.1 i hi, hs.2 i hi]
  have : free (rowsM M left) i = left.all fun j => !(M.getD j (0, 0)).2.testBit i := by
    unfold free rowsM
    rw [List.all_map]
    rfl
  show (R.testBit i && !(R.testBit i && left.all fun j => !(M.getD j (0, 0)).2.testBit i)) = (!free (rowsM M left) i && R.testBit i)
  rw [this]
  cases R.testBit i <;> cases (left.all fun j => !(M.getD j (0, 0)).2.testBit i) <;> rfl
def keepM (M : List (Nat × Nat)) (s : Nat) (left : List Nat) : List Nat := left.filter fun j => decide ((M.getD j (0, 0)).1 &&& s = 0)
theorem keep_rows {M : List (Nat × Nat)} (h : MOk M) {left : List Nat} {R : Nat} (hR : R < 64) : rowsM M (keepM M (strat M R left) left) = keepL (bits R) (rowsM M left) := by
  unfold rowsM keepM keepL
  rw [List.filter_map]
  congr 1
  apply List.filter_congr
  intro j _
  have hs := strat_ok h (left := left) hR
  show decide _ = (freeW (bits R) (rowsM M left)).all fun x => !(M.getD j (0, 0)).1.testBit x
  rw [← strat_bits h hR, Bool.eq_iff_iff, decide_eq_true_eq, tb_zero _ (h.at j).1 _ hs.1, List.all_eq_true]
  constructor
  · intro q i hi
    obtain ⟨i1, i2⟩ := bits_lt hi
    have := q i i1
    simp [i2] at this
    simp [this]
  · rintro q i hi ⟨h1, h2⟩
    have := q i (mem_bits.mpr ⟨hi, h2⟩)
    rw [h1] at this
    cases this
/-- a state of the peeling -/
structure St (M : List (Nat × Nat)) (acc : List Nat) (R : Nat) (left : List Nat) : Prop where
  lt : R < 64
  sum : acc.sum + R = 63
  con : ConsW (List.range 6) (rowsM M (List.range M.length)) ↔ ConsW (bits R) (rowsM M left)
  neu : ∀ j ∈ left, ∀ i < 6, i ∉ bits R → Neu (mAR (M.getD j (0, 0))) i
  sub : left.Sublist (List.range M.length)
theorem bits63 : bits 63 = List.range 6 := by decide +kernel
theorem St.start (M : List (Nat × Nat)) : St M [] 63 (List.range M.length) :=
  ⟨by decide, rfl, by rw [bits63], fun j _ i hi h => absurd (by rw [bits63]; exact List.mem_range.mpr hi) h, List.Sublist.refl _⟩
theorem St.step {M : List (Nat × Nat)} (h : MOk M) {acc : List Nat} {R : Nat} {left : List Nat} (s : St M acc R left) : St M (acc ++ [strat M R left]) (R - strat M R left) (keepM M (strat M R left) left) where
  lt := by have := s.lt; omega
  sum := by
    have := s.sum
    have h2 := strat_sub h (left := left) (R := R)
    rw [List.sum_append]
    simp
    omega
  con := by rw [s.con, cons_step, rest_bits h s.lt, keep_rows h s.lt]
  neu := by
    intro j hj i hi hn
    have hm : mAR (M.getD j (0, 0)) ∈ keepL (bits R) (rowsM M left) := by
      rw [← keep_rows h s.lt]
      exact List.mem_map.mpr ⟨j, hj, rfl⟩
    by_cases hb : i ∈ bits R
    · refine keep_neu hm ?_
      cases hc : decide (i ∈ freeW (bits R) (rowsM M left)) with
      | true => exact of_decide_eq_true hc
      | false =>
        have hc := of_decide_eq_false hc
        refine absurd ?_ hn
        rw [rest_bits h s.lt]
        unfold restW
        refine List.mem_filter.mpr ⟨hb, ?_⟩
        cases hq : free (rowsM M left) i with
        | false => rfl
        | true => exact absurd (List.mem_filter.mpr ⟨hb, hq⟩) hc
    · exact s.neu j (List.mem_filter.mp hj).1 i hi hb
  sub := (List.filter_sublist).trans s.sub
theorem MOk.dj {M : List (Nat × Nat)} (h : MOk M) (left : List Nat) : Dj (rowsM M left) := by
  intro r hr x hb
  obtain ⟨j, _, rfl⟩ := List.mem_map.mp hr
  have hj := h.at j
  have : ((M.getD j (0, 0)).1 &&& (M.getD j (0, 0)).2).testBit x = false := by rw [hj.2.2]; simp
  rw [Nat.testBit_and] at this
  have hb : (M.getD j (0, 0)).2.testBit x = true := hb
  rw [hb, Bool.and_true] at this
  exact this
/-- where the peeling ends -/
structure Fin (M : List (Nat × Nat)) (acc : List Nat) (R : Nat) (left : List Nat) : Prop extends St M acc R left where
  stop : R = 0 ∨ freeW (bits R) (rowsM M left) = []
theorem bits_ne {R : Nat} (h : R < 64) (h0 : R ≠ 0) : bits R ≠ [] := by
  obtain ⟨i, hi, hb⟩ := tb_ne R h h0
  intro e
  have := mem_bits.mpr ⟨hi, hb⟩
  rw [e] at this
  cases this
theorem Fin.iff {M : List (Nat × Nat)} (h : MOk M) {acc : List Nat} {R : Nat} {left : List Nat} (s : Fin M acc R left) : R = 0 ↔ ConsW (List.range 6) (rowsM M (List.range M.length)) := by
  rw [s.con]
  constructor
  · intro e
    subst e
    have : bits 0 = [] := by decide +kernel
    rw [this]
    exact cons_nil
  · intro hc
    rcases s.stop with e | hf
    · exact e
    · cases hd : decide (R = 0) with
      | true => exact of_decide_eq_true hd
      | false => exact absurd hc (cons_stuck (h.dj left) hf (bits_ne s.lt (of_decide_eq_false hd)))
end PT

set_option maxHeartbeats 200000
namespace PT
/-! ### least lots -/
def covStep (M : List (Nat × Nat)) (s : List Nat × Nat) (j : Nat) : List Nat × Nat :=
  if (M.getD j (0, 0)).2 &&& s.2 = 0 then s else (s.1 ++ [j], s.2 - ((M.getD j (0, 0)).2 &&& s.2))
theorem bits_cut {S b : Nat} (hS : S < 64) (hb : b < 64) : bits (S - (b &&& S)) = (bits S).filter fun i => !b.testBit i := by
  unfold bits
  rw [List.filter_filter]
  apply filter_range
  intro i hi
  rw [Nat.and_comm b S, tb_sub S hS b hb i hi, Bool.and_comm]
theorem cut_lt {S b : Nat} (hS : S < 64) (hb : b < 64) (hf : ¬ b &&& S = 0) : (bits (S - (b &&& S))).length < (bits S).length := by
  rw [bits_cut hS hb]
  have hx : ¬ ∀ i < 6, ¬ (b.testBit i = true ∧ S.testBit i = true) := fun z => hf ((tb_zero _ hb _ hS).mpr z)
  have hx2 : ∃ i, i < 6 ∧ b.testBit i = true ∧ S.testBit i = true := by
    apply Classical.byContradiction
    intro z
    exact hx fun i hi hc => z ⟨i, hi, hc.1, hc.2⟩
  obtain ⟨i, i1, i2, i3⟩ := hx2
  rw [List.length_filter_lt_length_iff_exists]
  exact ⟨i, mem_bits.mpr ⟨i1, i3⟩, by rw [i2]; simp⟩
theorem bits_le {S : Nat} : (bits S).length ≤ 6 := by
  have := List.length_filter_le S.testBit (List.range 6)
  rwa [List.length_range] at this
structure CovOk (M : List (Nat × Nat)) (left : List Nat) (S : Nat) (new : List Nat) (S' : Nat) : Prop where
  sub : new.Sublist left
  lt : S' < 64
  cov : ∀ i, i ∈ bits S → i ∈ bits S' ∨ ∃ j ∈ new, (M.getD j (0, 0)).2.testBit i = true
  rest : ∀ i, i ∈ bits S' → i ∈ bits S ∧ ∀ j ∈ left, (M.getD j (0, 0)).2.testBit i = false
  len : new.length + (bits S').length ≤ (bits S).length
theorem cov_ok {M : List (Nat × Nat)} (h : MOk M) : ∀ {left lot : List Nat} {S : Nat}, S < 64 → ∃ new, (left.foldl (covStep M) (lot, S)).1 = lot ++ new ∧ CovOk M left S new (left.foldl (covStep M) (lot, S)).2
  | [], lot, S, hS => ⟨[], by simp, ⟨List.Sublist.refl _, hS, fun i hi => .inl hi, fun i hi => ⟨hi, fun j hj => by cases hj⟩, by simp⟩⟩
  | j :: left, lot, S, hS => by
    have hj := h.at j
    rw [List.foldl_cons]
    by_cases hf : (M.getD j (0, 0)).2 &&& S = 0
    · have e : covStep M (lot, S) j = (lot, S) := if_pos hf
      rw [e]
      obtain ⟨new, h1, h2⟩ := cov_ok h (left := left) (lot := lot) hS
      refine ⟨new, h1, ⟨h2.sub.cons _, h2.lt, h2.cov, fun i hi => ⟨(h2.rest i hi).1, fun k hk => ?_⟩, h2.len⟩⟩
      rcases List.mem_cons.mp hk with rfl | hk
      · obtain ⟨i1, i2⟩ := bits_lt (h2.rest i hi).1
        have := (tb_zero _ hj.2.1 _ hS).mp hf i i1
        cases hq : (M.getD k (0, 0)).2.testBit i with
        | false => rfl
        | true => exact absurd ⟨hq, i2⟩ this
      · exact (h2.rest i hi).2 k hk
    · have e : covStep M (lot, S) j = (lot ++ [j], S - ((M.getD j (0, 0)).2 &&& S)) := if_neg hf
      rw [e]
      obtain ⟨new, h1, h2⟩ := cov_ok h (left := left) (lot := lot ++ [j]) (S := S - ((M.getD j (0, 0)).2 &&& S)) (by omega)
      have hb := bits_cut hS hj.2.1
      refine ⟨j :: new, by rw [h1]; simp, ⟨h2.sub.cons₂ _, h2.lt, fun i hi => ?_, fun i hi => ?_, ?_⟩⟩
      · cases hq : (M.getD j (0, 0)).2.testBit i with
        | true => exact .inr ⟨j, List.mem_cons_self, hq⟩
        | false =>
          rcases h2.cov i (by rw [hb]; exact List.mem_filter.mpr ⟨hi, by simpa using hq⟩) with z | ⟨k, hk, z⟩
          · exact .inl z
          · exact .inr ⟨k, List.mem_cons_of_mem _ hk, z⟩
      · obtain ⟨r1, r2⟩ := h2.rest i hi
        rw [hb] at r1
        obtain ⟨r3, r4⟩ := List.mem_filter.mp r1
        refine ⟨r3, fun k hk => ?_⟩
        rcases List.mem_cons.mp hk with rfl | hk
        · simpa using r4
        · exact r2 k hk
      · have hlt : (bits (S - ((M.getD j (0, 0)).2 &&& S))).length < (bits S).length := by
          rw [hb]
          have hx : ¬ ∀ i < 6, ¬ ((M.getD j (0, 0)).2.testBit i = true ∧ S.testBit i = true) := fun z => hf ((tb_zero _ hj.2.1 _ hS).mpr z)
          have hx2 : ∃ i, i < 6 ∧ (M.getD j (0, 0)).2.testBit i = true ∧ S.testBit i = true := by
            apply Classical.byContradiction
            intro z
            exact hx fun i hi hc => z ⟨i, hi, hc.1, hc.2⟩
          obtain ⟨i, i1, i2, i3⟩ := hx2
          rw [List.length_filter_lt_length_iff_exists]
          exact ⟨i, mem_bits.mpr ⟨i1, i3⟩, by rw [i2]; simp⟩
        have := h2.len
        rw [List.length_cons]
        omega
noncomputable def consB (L : List AR) : Bool := @decide (ConsW (List.range 6) L) (Classical.propDecidable _)
theorem consB_iff {L : List AR} : consB L = true ↔ ConsW (List.range 6) L := by
  unfold consB
  exact @decide_eq_true_iff _ (Classical.propDecidable _)
noncomputable def minStep (M : List (Nat × Nat)) (cur : List Nat) (p : Nat) : List Nat := if consB (rowsM M (cur.filter fun o => decide (o ≠ p))) = true then cur else cur.filter fun o => decide (o ≠ p)
theorem rows_sub {M : List (Nat × Nat)} {a b : List Nat} (h : a.Sublist b) : consB (rowsM M b) = true → consB (rowsM M a) = true := by
  rw [consB_iff, consB_iff]
  refine cons_mono fun r hr => ?_
  obtain ⟨j, hj, rfl⟩ := List.mem_map.mp hr
  exact List.mem_map.mpr ⟨j, h.subset hj, rfl⟩
theorem min_ok {M : List (Nat × Nat)} : ∀ {ps cur : List Nat}, consB (rowsM M cur) = false → (ps.foldl (minStep M) cur).Sublist cur ∧ consB (rowsM M (ps.foldl (minStep M) cur)) = false ∧ ∀ p ∈ ps, p ∈ ps.foldl (minStep M) cur → consB (rowsM M ((ps.foldl (minStep M) cur).filter fun o => decide (o ≠ p))) = true
  | [], cur, h => ⟨List.Sublist.refl _, h, fun p hp => by cases hp⟩
  | p :: ps, cur, h => by
    rw [List.foldl_cons]
    cases hc : consB (rowsM M (cur.filter fun o => decide (o ≠ p))) with
    | true =>
      have e : minStep M cur p = cur := if_pos hc
      rw [e]
      obtain ⟨h1, h2, h3⟩ := min_ok (ps := ps) h
      refine ⟨h1, h2, fun q hq hm => ?_⟩
      rcases List.mem_cons.mp hq with rfl | hq
      · exact rows_sub (h1.filter _) hc
      · exact h3 q hq hm
    | false =>
      have e : minStep M cur p = cur.filter fun o => decide (o ≠ p) := if_neg (by rw [hc]; simp)
      rw [e]
      obtain ⟨h1, h2, h3⟩ := min_ok (ps := ps) hc
      refine ⟨h1.trans List.filter_sublist, h2, fun q hq hm => ?_⟩
      rcases List.mem_cons.mp hq with rfl | hq
      · have := (List.mem_filter.mp (h1.subset hm)).2
        simp at this
      · exact h3 q hq hm
noncomputable def lotOf (M : List (Nat × Nat)) (R : Nat) (left : List Nat) : List Nat := ((left.foldl (covStep M) ([], R)).1).foldl (minStep M) (left.foldl (covStep M) ([], R)).1
/-- what is known of a lot -/
structure LotOk (M : List (Nat × Nat)) (lot : List Nat) : Prop where
  sub : lot.Sublist (List.range M.length)
  odds : ¬ ConsW (List.range 6) (rowsM M lot)
  least : ∀ p ∈ lot, ConsW (List.range 6) (rowsM M (lot.filter fun o => decide (o ≠ p)))
theorem lot_zero {M : List (Nat × Nat)} {left : List Nat} : lotOf M 0 left = [] := by
  have : ∀ lot, (left.foldl (covStep M) (lot, 0)) = (lot, 0) := by
    induction left with
    | nil => intro lot; rfl
    | cons j left ih =>
      intro lot
      rw [List.foldl_cons]
      have e : covStep M (lot, 0) j = (lot, 0) := if_pos (by simp)
      rw [e, ih]
  unfold lotOf
  rw [this]
  rfl
theorem lot_ok {M : List (Nat × Nat)} (h : MOk M) {acc : List Nat} {R : Nat} {left : List Nat} (s : Fin M acc R left) (hR : R ≠ 0) : LotOk M (lotOf M R left) ∧ (lotOf M R left).length ≤ (bits R).length ∧ lotOf M R left ≠ [] := by
  obtain ⟨new, h1, h2⟩ := cov_ok h (left := left) (lot := []) s.lt
  rw [List.nil_append] at h1
  have hf : freeW (bits R) (rowsM M left) = [] := s.stop.resolve_left hR
  have hS : bits (left.foldl (covStep M) ([], R)).2 = [] := by
    cases e : bits (left.foldl (covStep M) ([], R)).2 with
    | nil => rfl
    | cons i r =>
      have hi : i ∈ bits (left.foldl (covStep M) ([], R)).2 := by rw [e]; exact List.mem_cons_self
      obtain ⟨r1, r2⟩ := h2.rest i hi
      have hn := List.filter_eq_nil_iff.mp hf i r1
      refine absurd ?_ hn
      unfold free rowsM
      rw [List.all_map, List.all_eq_true]
      intro j hj
      show (!(M.getD j (0, 0)).2.testBit i) = true
      rw [r2 j hj]
      rfl
  have hodds : ¬ ConsW (List.range 6) (rowsM M new) := by
    intro hc
    have hsub := (cons_sub (p := R.testBit) (fun r hr x hx hp => ?_)).mp hc
    · refine cons_stuck (h.dj new) ?_ (bits_ne s.lt hR) hsub
      show (bits R).filter _ = []
      rw [List.filter_eq_nil_iff]
      intro i hi hfree
      rcases h2.cov i hi with z | ⟨j, hj, z⟩
      · rw [hS] at z
        cases z
      · have := List.all_eq_true.mp hfree (mAR (M.getD j (0, 0))) (List.mem_map.mpr ⟨j, hj, rfl⟩)
        have z : (mAR (M.getD j (0, 0))).2 i = true := z
        rw [z] at this
        cases this
    · obtain ⟨j, hj, rfl⟩ := List.mem_map.mp hr
      refine s.neu j (h2.sub.subset hj) x (List.mem_range.mp hx) fun hb => ?_
      have := (bits_lt hb).2
      rw [hp] at this
      cases this
  have hcb : consB (rowsM M new) = false := by
    cases e : consB (rowsM M new) with
    | false => rfl
    | true => exact absurd (consB_iff.mp e) hodds
  obtain ⟨m1, m2, m3⟩ := min_ok (M := M) (ps := new) hcb
  have e : lotOf M R left = new.foldl (minStep M) new := by unfold lotOf; rw [h1]
  rw [e]
  have hod : ¬ ConsW (List.range 6) (rowsM M (new.foldl (minStep M) new)) := fun hc => by rw [consB_iff.mpr hc] at m2; cases m2
  refine ⟨⟨(m1.trans h2.sub).trans s.sub, hod, fun p hp => consB_iff.mp (m3 p (m1.subset hp) hp)⟩, ?_, ?_⟩
  · have := m1.length_le
    have := h2.len
    omega
  · intro z
    rw [z] at hod
    exact hod ⟨List.range 6, .refl _, rfl⟩
theorem bits_bound {M : List (Nat × Nat)} (h : MOk M) {m : Nat} {acc : List Nat} {R : Nat} {left : List Nat} (s : Fin M acc R left) (hR : R ≠ 0) (hm : ∀ p ∈ M, ∀ i, p.2.testBit i = true → i < m) : (bits R).length ≤ m := by
  have hf : freeW (bits R) (rowsM M left) = [] := s.stop.resolve_left hR
  have hs : bits R ⊆ List.range m := by
    intro i hi
    have hn := List.filter_eq_nil_iff.mp hf i hi
    unfold free rowsM at hn
    rw [List.all_map, Bool.not_eq_true, List.all_eq_false] at hn
    obtain ⟨j, hj, hb⟩ := hn
    have hb : (M.getD j (0, 0)).2.testBit i = true := by
      cases q : (M.getD j (0, 0)).2.testBit i with
      | true => rfl
      | false =>
        refine absurd ?_ hb
        show (!(M.getD j (0, 0)).2.testBit i) = true
        rw [q]
        rfl
    have hjl : j < M.length := List.mem_range.mp (s.sub.subset hj)
    have hmem : M.getD j (0, 0) ∈ M := by simp [hjl]
    exact List.mem_range.mpr (hm _ hmem i hb)
  have hnd : (bits R).Nodup := by unfold bits; exact List.Sublist.nodup List.filter_sublist List.nodup_range
  have := List.Nodup.length_le_of_subset hnd hs
  rwa [List.length_range] at this
end PT

set_option maxHeartbeats 200000
namespace PT
/-! ### rows as texts -/
def codeAR (r : List Nat) : AR := (fun i => decide (r[i]? = some 43), fun i => decide (r[i]? = some 45))
structure RowOk (m : Nat) (r : List Nat) : Prop where
  len : r.length = m
  mks : ∀ c ∈ r, c = 43 ∨ c = 45 ∨ c = 46
def gl (r : List Nat) (c : Nat) : List Nat := (List.range 6).filter fun i => decide (r[i]? = some c)
def orB (a i : Nat) : Nat := a ||| 2 ^ i
def maskI (is : List Nat) : Nat := is.foldl orB 0
def mskR (r : List Nat) : Nat × Nat := (maskI (gl r 43), maskI (gl r 45))
theorem fold_tb {i : Nat} : ∀ {is : List Nat} {a : Nat}, (is.foldl orB a).testBit i = (a.testBit i || decide (i ∈ is))
  | [], a => by simp
  | j :: is, a => by
    rw [List.foldl_cons, fold_tb]
    unfold orB
    rw [Nat.testBit_or, Nat.testBit_two_pow, Bool.or_assoc]
    congr 1
    rw [Bool.eq_iff_iff]
    simp
    constructor
    · rintro (h | h)
      · exact .inl h.symm
      · exact .inr h
    · rintro (h | h)
      · exact .inl h.symm
      · exact .inr h
theorem mask_tb {i : Nat} {is : List Nat} : (maskI is).testBit i = decide (i ∈ is) := by
  unfold maskI
  rw [fold_tb]
  simp
theorem fold_lt : ∀ {is : List Nat} {a : Nat}, a < 64 → (∀ i ∈ is, i < 6) → is.foldl orB a < 64
  | [], a, h, _ => h
  | j :: is, a, h, hi => by
    rw [List.foldl_cons]
    refine fold_lt (Nat.or_lt_two_pow (n := 6) h ?_) fun i h2 => hi i (List.mem_cons_of_mem _ h2)
    exact Nat.pow_lt_pow_right (by omega) (hi j List.mem_cons_self)
theorem mask_lt {is : List Nat} (h : ∀ i ∈ is, i < 6) : maskI is < 64 := fold_lt (by decide) h
theorem gl_lt {r : List Nat} {c i : Nat} (h : i ∈ gl r c) : i < 6 ∧ r[i]? = some c := by
  obtain ⟨h1, h2⟩ := List.mem_filter.mp h
  exact ⟨List.mem_range.mp h1, by simpa using h2⟩
theorem gl_iff {r : List Nat} {c i : Nat} (hl : r.length ≤ 6) : i ∈ gl r c ↔ r[i]? = some c := by
  constructor
  · exact fun h => (gl_lt h).2
  · intro h
    have := (List.getElem?_eq_some_iff.mp h).1
    exact List.mem_filter.mpr ⟨List.mem_range.mpr (by omega), by simpa using h⟩
theorem mskR_AR {r : List Nat} (hl : r.length ≤ 6) : mAR (mskR r) = codeAR r := by
  unfold mAR mskR codeAR
  refine Prod.ext ?_ ?_
  · funext i
    show (maskI (gl r 43)).testBit i = _
    rw [mask_tb, Bool.eq_iff_iff]
    simp [gl_iff hl]
  · funext i
    show (maskI (gl r 45)).testBit i = _
    rw [mask_tb, Bool.eq_iff_iff]
    simp [gl_iff hl]
theorem mskR_ok (r : List Nat) : (mskR r).1 < 64 ∧ (mskR r).2 < 64 ∧ (mskR r).1 &&& (mskR r).2 = 0 := by
  have h1 : (mskR r).1 < 64 := mask_lt fun i h => (gl_lt h).1
  have h2 : (mskR r).2 < 64 := mask_lt fun i h => (gl_lt h).1
  refine ⟨h1, h2, (tb_zero _ h1 _ h2).mpr ?_⟩
  rintro i hi ⟨a, b⟩
  have a : (maskI (gl r 43)).testBit i = true := a
  have b : (maskI (gl r 45)).testBit i = true := b
  rw [mask_tb, decide_eq_true_eq] at a b
  have := (gl_lt a).2.symm.trans (gl_lt b).2
  cases this
theorem mok_of (L : List (List Nat)) : MOk (L.map mskR) := by
  intro p hp
  obtain ⟨r, _, rfl⟩ := List.mem_map.mp hp
  exact mskR_ok r
theorem zip_from {c : Nat} : ∀ {r : List Nat} {k n : Nat}, ((((List.range' k n).map (65 + ·)).zip r).filter fun q => decide (q.2 = c)).map (·.1) = ((List.range' k n).filter fun i => decide (r[i - k]? = some c)).map (65 + ·)
  | [], k, n => by simp
  | d :: r, k, 0 => by simp
  | d :: r, k, n + 1 => by
    rw [List.range'_succ, List.map_cons, List.zip_cons_cons, List.filter_cons, List.filter_cons]
    have ih := zip_from (c := c) (r := r) (k := k + 1) (n := n)
    have e : (List.range' (k + 1) n).filter (fun i => decide ((d :: r)[i - k]? = some c)) = (List.range' (k + 1) n).filter fun i => decide (r[i - (k + 1)]? = some c) := by
      apply List.filter_congr
      intro i hi
      have := (List.mem_range'_1.mp hi).1
      have e1 : i - k = (i - (k + 1)) + 1 := by omega
      rw [e1, List.getElem?_cons_succ]
    rw [e]
    by_cases hd : d = c
    · simp [hd, ih]
    · simp [hd, ih]
theorem zip_gl {r : List Nat} {c : Nat} : ((([65, 66, 67, 68, 69, 70] : List Nat).zip r).filter fun q => decide (q.2 = c)).map (·.1) = (gl r c).map (65 + ·) := by
  have := zip_from (c := c) (r := r) (k := 0) (n := 6)
  have e : (List.range' 0 6).map (65 + ·) = [65, 66, 67, 68, 69, 70] := rfl
  rw [e] at this
  rw [this]
  unfold gl
  rw [List.range_eq_range']
  simp
/-- the rows of a book -/
def arL (L : List (List Nat)) : List AR := L.map codeAR
theorem rows_all {L : List (List Nat)} (hl : ∀ r ∈ L, r.length ≤ 6) : rowsM (L.map mskR) (List.range (L.map mskR).length) = arL L := by
  unfold rowsM arL
  apply List.ext_getElem
  · simp
  · intro i h1 h2
    have hi : i < L.length := by simpa using h2
    simp [hi, mskR_AR (hl _ (List.getElem_mem hi))]
theorem dj_code (L : List (List Nat)) : Dj (arL L) := by
  intro r hr x hb
  obtain ⟨s, _, rfl⟩ := List.mem_map.mp hr
  have hb : s[x]? = some 45 := by simpa [codeAR] using hb
  show decide (s[x]? = some 43) = false
  rw [hb]
  rfl
theorem cons_m {m : Nat} (hm : m ≤ 6) {L : List (List Nat)} (hl : ∀ r ∈ L, r.length = m) : ConsW (List.range 6) (arL L) ↔ ConsW (List.range m) (arL L) := by
  rw [cons_sub (p := fun i => decide (i < m)) (fun r hr x _ hp => ?_)]
  · have : (List.range 6).filter (fun i => decide (i < m)) = List.range m := by
      match m, hm with
      | 0, _ => rfl
      | 1, _ => rfl
      | 2, _ => rfl
      | 3, _ => rfl
      | 4, _ => rfl
      | 5, _ => rfl
      | 6, _ => rfl
    rw [this]
  · obtain ⟨s, hs, rfl⟩ := List.mem_map.mp hr
    have hx : ¬ x < m := by simpa using hp
    have : s[x]? = none := List.getElem?_eq_none (by rw [hl s hs]; omega)
    exact ⟨by show decide (s[x]? = some 43) = false; rw [this]; rfl, by show decide (s[x]? = some 45) = false; rw [this]; rfl⟩
end PT

set_option maxHeartbeats 200000
set_option maxHeartbeats 400000
namespace LW
open PySem PySem.Spec L2 VL
open PT (RowOk gl maskI mskR codeAR orB)
theorem filt_t {α : Type} (xs : List α) : xs.filter (fun _ => true) = xs := List.filter_eq_self.mpr (by simp)
theorem seq_nx {s : SR} : s.seq sNext = s := by cases s <;> rfl
theorem hlim : lim = 1000000 := rfl
abbrev ABC : List Nat := [65, 66, 67, 68, 69, 70]
theorem sabc (i : Nat) (h : i < 6) : sindexD (.str [65, 66, 67, 68, 69, 70]) [.str [65 + i]] = some (.sh (.int (i : Nat))) := by
  match i, h with
  | 0, _ => kernel_rfl
  | 1, _ => kernel_rfl
  | 2, _ => kernel_rfl
  | 3, _ => kernel_rfl
  | 4, _ => kernel_rfl
  | 5, _ => kernel_rfl
@[simp] theorem tyS_s {α : Type} {s : List Nat} {r : Res α} : tyS .str (some (.str s)) r = r := id rfl
theorem for_foldR {α σ : Type} {f : D → VEnv → Option VEnv} {b : SM} {R : SR → Prop} {rest : SM} (step : σ → α → σ) (e : α → D) (st : σ → VEnv → Prop) : ∀ (xs : List α) (s : σ) (ρ : VEnv), st s ρ →
    (∀ x ∈ xs, ∀ s ρ, st s ρ → ∃ ρ1, f (e x) ρ = some ρ1 ∧ ∃ ρ2, b ρ1 = .nx ρ2 ∧ st (step s x) ρ2) → (∀ ρ, st (xs.foldl step s) ρ → R (rest ρ)) → R ((VL.forS f b (xs.map e) ρ).seq rest)
  | [], s, ρ, h0, _, hend => hend ρ h0
  | x :: xs, s, ρ, h0, hs, hend => by
    obtain ⟨ρ1, h1, ρ2, h2, h3⟩ := hs x List.mem_cons_self s ρ h0
    rw [List.map_cons]
    unfold VL.forS
    rw [h1]
    simp only [h2]
    exact for_foldR step e st xs (step s x) ρ2 h3 (fun y hy => hs y (List.mem_cons_of_mem _ hy)) hend
theorem for_fold {α σ : Type} {f : D → VEnv → Option VEnv} {b : SM} (step : σ → α → σ) (e : α → D) (st : σ → VEnv → Prop) : ∀ (xs : List α) (s : σ) (ρ : VEnv), st s ρ →
    (∀ x ∈ xs, ∀ s ρ, st s ρ → ∃ ρ1, f (e x) ρ = some ρ1 ∧ ∃ ρ2, b ρ1 = .nx ρ2 ∧ st (step s x) ρ2) → ∃ ρ2, VL.forS f b (xs.map e) ρ = .nx ρ2 ∧ st (xs.foldl step s) ρ2
  | [], s, ρ, h0, _ => ⟨ρ, rfl, h0⟩
  | x :: xs, s, ρ, h0, hs => by
    obtain ⟨ρ1, h1, ρ2, h2, h3⟩ := hs x List.mem_cons_self s ρ h0
    rw [List.map_cons]
    unfold VL.forS
    rw [h1]
    simp only [h2]
    exact for_fold step e st xs (step s x) ρ2 h3 fun y hy => hs y (List.mem_cons_of_mem _ hy)
theorem not_not (x : Int) : Builtin.bitNot (Builtin.bitNot x) = x := by unfold Builtin.bitNot; omega
theorem bitAnd_n (a b : Nat) : Builtin.bitAnd (a : Int) (b : Int) = ((a &&& b : Nat) : Int) := by
  have h1 : decide ((0 : Int) ≤ (a : Int)) = true := by simp
  have h2 : decide ((0 : Int) ≤ (b : Int)) = true := by simp
  unfold Builtin.bitAnd
  rw [h1, h2]
  simp
theorem bitOr_n (a b : Nat) : Builtin.bitOr (a : Int) (b : Int) = ((a ||| b : Nat) : Int) := by
  have h1 : decide ((0 : Int) ≤ Builtin.bitNot (a : Int)) = false := by
    rw [decide_eq_false_iff_not]
    unfold Builtin.bitNot
    omega
  have h2 : decide ((0 : Int) ≤ Builtin.bitNot (b : Int)) = false := by
    rw [decide_eq_false_iff_not]
    unfold Builtin.bitNot
    omega
  unfold Builtin.bitOr Builtin.bitAnd
  rw [h1, h2]
  simp only [not_not, Int.toNat_natCast]
/-! ### a parameter that is frozen or borrowed -/
def vm (m : Md) (i : Nat) (d : D) : Rv := match m with
  | .sh => .sh d
  | _ => .pk i
section
variable {m : Md} {i : Nat} {d : D} {ρ : VEnv}
theorem varR_rm (hm : Rm m) : varR i (some (some (m, d))) ρ = .ok (vm m i d) ρ := by rcases hm with rfl | rfl <;> rfl
theorem frzR_rm (hm : Rm m) : frzR i (some (some (m, d))) ρ = .ok (vm m i d) ρ := by rcases hm with rfl | rfl <;> rfl
theorem rd_vm (hm : Rm m) (h : ρ[i]? = some (some (m, d))) : rdR (vm m i d) ρ = some d := by
  rcases hm with rfl | rfl
  · rfl
  · show rdR (.pk i) ρ = _
    rw [rd_pk, h]
    rfl
theorem args_vm (hm : Rm m) (h : ρ[i]? = some (some (m, d))) {rs : List Rv} : argsD none (vm m i d :: rs) ρ = argC (some (m, d)) (argsD none rs ρ) := by
  rcases hm with rfl | rfl
  · exact args_sh
  · show argsD none (.pk i :: rs) ρ = _
    rw [args_pk, h]
    rfl
theorem src_vm (hm : Rm m) (h : ρ[i]? = some (some (m, d))) : srcM (vm m i d) ρ = ofO (itemsD d) ρ := by
  rcases hm with rfl | rfl
  · rfl
  · show srcM (.pk i) ρ = _
    rw [src_pk, h]
    rfl
end
theorem bor_n (a b : Nat) : borD (.int (a : Nat)) (.int (b : Nat)) = some (.sh (.int ((a ||| b : Nat) : Nat))) := by
  show some (Rv.sh (D.int (Builtin.bitOr (a : Int) (b : Int)))) = _
  rw [bitOr_n]
theorem bor_p (a i : Nat) : borD (.int (a : Nat)) (.int ((2 : Int) ^ i)) = some (.sh (.int ((a ||| 2 ^ i : Nat) : Nat))) := by
  have : ((2 : Int) ^ i) = ((2 ^ i : Nat) : Int) := by simp
  rw [this, bor_n]
theorem band_n (a b : Nat) : bandD (.int (a : Nat)) (.int (b : Nat)) = some (.sh (.int ((a &&& b : Nat) : Nat))) := by
  show some (Rv.sh (D.int (Builtin.bitAnd (a : Int) (b : Int)))) = _
  rw [bitAnd_n]
theorem shl_n {i : Nat} (h : i ≤ 1000) : shlD (.int 1) (.int (i : Nat)) = some (.sh (.int ((2 : Int) ^ i))) := by
  show (if 0 ≤ (i : Int) ∧ (i : Int) ≤ 1000 ∧ (1 : Int).natAbs < two64 then some (Rv.sh (.int (1 * 2 ^ (i : Int).toNat))) else none) = _
  rw [if_pos ⟨by omega, by omega, by decide⟩, Int.one_mul, Int.toNat_natCast]
theorem e_goods {k : Nat} {r : List Nat} (hr : r.length ≤ 6) (hs : sok r = true) : run (k + 2) 3 [(.sh, .str r)] = .ok (.sh (.str ((gl r 43).map (65 + ·)))) none := by
  have e : run (k + 2) 3 = runB 3 (m_3 (run (k + 1)) (run k)) := rfl
  rw [e]
  refine of_ends ?_ (by simp)
  have h3 : slots 3 [(Md.sh, D.str r)] = [some (.sh, .str r), none, none] := rfl
  rw [h3]
  have hlc := lc_map (ρ := [some (Md.sh, D.str r), none, none]) (mi := ((((mCst (.str [65, 66, 67, 68, 69, 70])).bind srcM).bind fun xs => (((mFrz 0)).bind srcM).bind fun ys => M.pure (zipL xs ys)))) (f := (tgTup 2 (tgCons (tgName 1) (tgCons (tgName 2) tgNil)))) (tt := (((mBin eqD ((mVar 2)) (mCst (.str [43]))).bind asB))) (te := (((mFrz 1)).bind shR)) (vs := [1, 2])
    (([65, 66, 67, 68, 69, 70] : List Nat).zip r) (fun q => .tup [.str [q.1], .str [q.2]]) (fun q => decide (q.2 = 43)) (fun q => .str [q.1]) (by
      have := zip_map (fun c : Nat => D.str [c]) (fun c : Nat => D.str [c]) [65, 66, 67, 68, 69, 70] r
      simp at this ⊢
      exact this) (by rw [hlim]; simp; omega) (by
      intro q hq
      have hq2 : q.2 < 1000 := by
        have := List.all_eq_true.mp hs q.2 (List.of_mem_zip hq).2
        simpa using this
      refine ⟨_, by simp [wipeE]; rfl, _, by simp [hq2]; rfl, ?_⟩
      split
      · exact ⟨_, by simp; rfl, rfl⟩
      · rfl)
  have hz : ((([65, 66, 67, 68, 69, 70] : List Nat).zip r).filter fun q => decide (q.2 = 43)).map (fun q => D.str [q.1]) = ((gl r 43).map (65 + ·)).map fun c => D.str [c] := by
    rw [← PT.zip_gl, List.map_map]
    rfl
  rw [hz] at hlc
  have hj := joinN ((gl r 43).map (65 + ·)) (by
    rw [hlim, List.length_map]
    have := List.length_filter_le (fun i => decide (r[i]? = some 43)) (List.range 6)
    unfold gl
    simp at this ⊢
    omega)
  simp [m_3, hlc, hj, -List.map_map]
theorem e_bads {k : Nat} {r : List Nat} (hr : r.length ≤ 6) (hs : sok r = true) : run (k + 2) 4 [(.sh, .str r)] = .ok (.sh (.str ((gl r 45).map (65 + ·)))) none := by
  have e : run (k + 2) 4 = runB 3 (m_4 (run (k + 1)) (run k)) := rfl
  rw [e]
  refine of_ends ?_ (by simp)
  have h3 : slots 3 [(Md.sh, D.str r)] = [some (.sh, .str r), none, none] := rfl
  rw [h3]
  have hlc := lc_map (ρ := [some (Md.sh, D.str r), none, none]) (mi := ((((mCst (.str [65, 66, 67, 68, 69, 70])).bind srcM).bind fun xs => (((mFrz 0)).bind srcM).bind fun ys => M.pure (zipL xs ys)))) (f := (tgTup 2 (tgCons (tgName 1) (tgCons (tgName 2) tgNil)))) (tt := (((mBin eqD ((mVar 2)) (mCst (.str [45]))).bind asB))) (te := (((mFrz 1)).bind shR)) (vs := [1, 2])
    (([65, 66, 67, 68, 69, 70] : List Nat).zip r) (fun q => .tup [.str [q.1], .str [q.2]]) (fun q => decide (q.2 = 45)) (fun q => .str [q.1]) (by
      have := zip_map (fun c : Nat => D.str [c]) (fun c : Nat => D.str [c]) [65, 66, 67, 68, 69, 70] r
      simp at this ⊢
      exact this) (by rw [hlim]; simp; omega) (by
      intro q hq
      have hq2 : q.2 < 1000 := by
        have := List.all_eq_true.mp hs q.2 (List.of_mem_zip hq).2
        simpa using this
      refine ⟨_, by simp [wipeE]; rfl, _, by simp [hq2]; rfl, ?_⟩
      split
      · exact ⟨_, by simp; rfl, rfl⟩
      · rfl)
  have hz : ((([65, 66, 67, 68, 69, 70] : List Nat).zip r).filter fun q => decide (q.2 = 45)).map (fun q => D.str [q.1]) = ((gl r 45).map (65 + ·)).map fun c => D.str [c] := by
    rw [← PT.zip_gl, List.map_map]
    rfl
  rw [hz] at hlc
  have hj := joinN ((gl r 45).map (65 + ·)) (by
    rw [hlim, List.length_map]
    have := List.length_filter_le (fun i => decide (r[i]? = some 45)) (List.range 6)
    unfold gl
    simp at this ⊢
    omega)
  simp [m_4, hlc, hj, -List.map_map]
theorem e_mask {k : Nat} {is : List Nat} (h : ∀ i ∈ is, i < 6) : run (k + 2) 6 [(.sh, .str (is.map (65 + ·)))] = .ok (.sh (.int (maskI is : Nat))) none := by
  have e : run (k + 2) 6 = runB 3 (m_6 (run (k + 1)) (run k)) := rfl
  rw [e]
  refine of_ends ?_ (by simp)
  have h3 : slots 3 [(Md.sh, D.str (is.map (65 + ·)))] = [some (.sh, .str (is.map (65 + ·))), none, none] := rfl
  rw [h3]
  have hm : (is.map (65 + ·)).map (fun c => D.str [c]) = is.map fun i => D.str [65 + i] := by rw [List.map_map]; rfl
  simp [m_6, hm, -List.map_map]
  refine for_foldR (R := fun q => VL.Ends q _) orB (fun i => D.str [65 + i]) (fun a ρ => ∃ z, ρ = [some (.sh, .str (is.map (65 + ·))), some (.sh, .int (a : Nat)), z]) is 0 _ ⟨none, rfl⟩ ?_ ?_
  · rintro i hi a ρ ⟨z, hρ⟩
    subst hρ
    refine ⟨_, rfl, ?_⟩
    have hi6 := h i hi
    simp [sabc i hi6, shl_n (show i ≤ 1000 by omega), bor_p, orB]
  · rintro ρ ⟨z, hρ⟩
    subst hρ
    simp [maskI]
def bkD (m : Nat) (L : List (List Nat)) : D := .ins 7 ["m", "rows"] [.int (m : Nat), .tup (L.map .str)]
def mkD (p : Nat × Nat) : D := .tup [.int (p.1 : Nat), .int (p.2 : Nat)]
theorem gl_ok {r : List Nat} {c : Nat} : ∀ i ∈ gl r c, i < 6 := fun i h => (PT.gl_lt h).1
structure Rws (m : Nat) (L : List (List Nat)) : Prop where
  lo : 1 ≤ m
  hi : m ≤ 6
  len : L.length ≤ 60
  row : ∀ r ∈ L, RowOk m r
theorem row_sok {m : Nat} {r : List Nat} (h : RowOk m r) : sok r = true := by
  unfold sok
  rw [List.all_eq_true]
  intro c hc
  have := h.mks c hc
  simp
  omega
theorem e_rmasks {k m : Nat} {L : List (List Nat)} (h : Rws m L) : run (k + 3) 7 [(.sh, bkD m L)] = .ok (.tm (.lst ((L.map mskR).map mkD))) none := by
  have e : run (k + 3) 7 = runB 2 (m_7 (run (k + 2)) (run (k + 1))) := rfl
  rw [e]
  refine of_ends ?_ (by simp)
  have h3 : slots 2 [(Md.sh, bkD m L)] = [some (.sh, bkD m L), none] := rfl
  rw [h3]
  have hgf : getF "rows" ["m", "rows"] [D.int (m : Nat), .tup (L.map .str)] = some (.tup (L.map .str)) := by rfl
  have hsb : ∀ ρ, srcB 7 "rows" (.sh (bkD m L)) ρ = .ok (L.map .str) ρ := fun ρ => srcB_ins hgf
  have hlen := h.len
  have hlc := lc_map (ρ := [some (Md.sh, bkD m L), none]) (mi := (((mFrz 0)).bind (srcB 7 "rows"))) (f := (tgName 1)) (tt := M.pure true) (te := (((mTup (mConsD (((mUser ((run (k + 2)) 6) 1 [] (mCons ((mUser ((run (k + 2)) 3) 1 [] (mCons ((mVar 1)) (M.pure [])))) (M.pure [])))).bind shR) (mConsD (((mUser ((run (k + 2)) 6) 1 [] (mCons ((mUser ((run (k + 2)) 4) 1 [] (mCons ((mVar 1)) (M.pure [])))) (M.pure [])))).bind shR) (M.pure []))))).bind shR)) (vs := [1])
    L D.str (fun _ => true) (fun r => mkD (mskR r)) (by simp [hsb]) (by rw [hlim]; omega) (by
      intro r hr
      have hrow := h.row r hr
      have hl6 : r.length ≤ 6 := by have := hrow.len; have := h.hi; omega
      have h1 := e_goods (k := k) hl6 (row_sok hrow)
      have h2 := e_bads (k := k) hl6 (row_sok hrow)
      have h4 := e_mask (k := k) (is := gl r 43) gl_ok
      have h5 := e_mask (k := k) (is := gl r 45) gl_ok
      exact ⟨_, rfl, _, rfl, [some (.sh, bkD m L), some (.sh, D.str r)], by simp [wipeE, h1, h2, h4, h5, hlim, mkD, mskR], rfl⟩)
  rw [filt_t] at hlc
  have hz : L.map (fun r => mkD (mskR r)) = (L.map mskR).map mkD := by rw [List.map_map]; rfl
  rw [hz] at hlc
  simp [m_7, hlc, -List.map_map]
theorem e_isrow {k m : Nat} {r : List Nat} (h : RowOk m r) (hm : m ≤ 6) : run (k + 2) 8 [(.sh, .int (m : Nat)), (.sh, .str r)] = .ok (.sh (.bl true)) none := by
  have e : run (k + 2) 8 = runB 3 (m_8 (run (k + 1)) (run k)) := rfl
  rw [e]
  refine of_ends ?_ (by simp)
  have h3 : slots 3 [(Md.sh, D.int (m : Nat)), (Md.sh, D.str r)] = [some (.sh, .int (m : Nat)), some (.sh, .str r), none] := rfl
  rw [h3]
  have hl := lenS (s := r) (by rw [hlim]; have := h.len; omega)
  have hl2 := h.len
  simp [m_8, hl, hl2]
  refine for_foldR (R := fun q => VL.Ends q _) (fun (u : Unit) _ => u) (fun c => D.str [c]) (fun _ ρ => ∃ z, ρ = [some (.sh, .int (m : Nat)), some (.sh, .str r), z]) r () _ ⟨none, rfl⟩ ?_ ?_
  · rintro c hc _ ρ ⟨z, hρ⟩
    subst hρ
    refine ⟨_, rfl, ?_⟩
    have hc3 : (c = 43 ∨ c = 45 ∨ c = 46) := h.mks c hc
    simp [hc3]
  · rintro ρ ⟨z, hρ⟩
    subst hρ
    simp
end LW

set_option maxHeartbeats 200000
set_option maxHeartbeats 400000
namespace LW
open PySem PySem.Spec L2 VL
open PT (RowOk gl maskI mskR codeAR orB MOk)
/-! ### while -/
theorem while_run {c : M Bool} {b : SM} {n : Nat} {ρ : VEnv} {r : SR} (h : VL.whileN c b n ρ = r) (hr : r ≠ .bad) : VL.sWhile c b ρ = r := by
  have hx : ∃ n, VL.whileN c b n ρ ≠ .bad := ⟨n, by rw [h]; exact hr⟩
  unfold VL.sWhile
  rw [dif_pos hx]
  rcases Nat.le_total n hx.choose with hl | hl
  · rw [VL.whileN_le c b (by rw [h]; exact hr) hl, h]
  · rw [← VL.whileN_le c b hx.choose_spec hl, h]
theorem while_inv {c : M Bool} {b rest : SM} {R : SR → Prop} (Inv : Nat → VEnv → Prop)
    (h : ∀ n ρ, Inv n ρ → (∃ ρ1, c ρ = .ok false ρ1 ∧ R (rest ρ1)) ∨ ∃ ρ1, c ρ = .ok true ρ1 ∧ ((∃ ρ2, b ρ1 = .nx ρ2 ∧ ∃ m, m < n ∧ Inv m ρ2) ∨ ∃ ρ2, b ρ1 = .bk ρ2 ∧ R (rest ρ2))) :
    ∀ n ρ, Inv n ρ → R ((VL.sWhile c b ρ).seq rest) := by
  have key : ∀ n ρ, Inv n ρ → ∃ N ρ2, VL.whileN c b N ρ = .nx ρ2 ∧ R (rest ρ2) := by
    intro n
    induction n using Nat.strongRecOn with
    | _ n ih =>
      intro ρ hi
      rcases h n ρ hi with ⟨ρ1, e1, hR⟩ | ⟨ρ1, e1, ⟨ρ2, e2, m, hm, hi2⟩ | ⟨ρ2, e2, hR⟩⟩
      · refine ⟨1, ρ1, ?_, hR⟩
        rw [VL.whileN, then_e, e1]
        rfl
      · obtain ⟨N, ρ3, e3, hR⟩ := ih m hm ρ2 hi2
        refine ⟨N + 1, ρ3, ?_, hR⟩
        rw [VL.whileN, then_e, e1]
        show (match b ρ1 with
          | .nx ρ2 => VL.whileN c b N ρ2
          | .ct ρ2 => VL.whileN c b N ρ2
          | .bk ρ2 => .nx ρ2
          | r => r) = _
        rw [e2]
        exact e3
      · refine ⟨1, ρ2, ?_, hR⟩
        rw [VL.whileN, then_e, e1]
        show (match b ρ1 with
          | .nx ρ2 => VL.whileN c b 0 ρ2
          | .ct ρ2 => VL.whileN c b 0 ρ2
          | .bk ρ2 => .nx ρ2
          | r => r) = _
        rw [e2]
  intro n ρ hi
  obtain ⟨N, ρ2, e1, hR⟩ := key n ρ hi
  rw [while_run e1 (by simp)]
  exact hR
/-! ### data of numbers from nought -/
def natL (xs : List Nat) : D := .lst (xs.map fun n => .int (n : Nat))
def mskL (M : List (Nat × Nat)) : D := .lst (M.map mkD)
theorem sub_n {a b : Nat} (h : b ≤ a) : subD (.int (a : Nat)) (.int (b : Nat)) = some (.sh (.int ((a - b : Nat) : Nat))) := by
  rw [sub_i]
  congr 3
  omega
theorem ix_m {M : List (Nat × Nat)} {j : Nat} (h : j < M.length) : ixD (mskL M) (.int (j : Nat)) = some (.sh (mkD (M.getD j (0, 0)))) := by
  unfold mskL
  rw [ix_l (d := mkD (M.getD j (0, 0)))]
  simp [h]
theorem ix_m0 {p : Nat × Nat} : ixD (mkD p) (.int 0) = some (.sh (.int (p.1 : Nat))) := ix_t (k := 0) rfl
theorem ix_m1 {p : Nat × Nat} : ixD (mkD p) (.int 1) = some (.sh (.int (p.2 : Nat))) := ix_t (k := 1) rfl
@[simp] theorem it_m {M : List (Nat × Nat)} : itemsD (mskL M) = some (M.map mkD) := id rfl
@[simp] theorem len_m {M : List (Nat × Nat)} : lenD [mskL M] = some (.sh (.int M.length)) := by simp [mskL]
@[simp] theorem it_n {xs : List Nat} : itemsD (natL xs) = some (xs.map fun n => .int (n : Nat)) := id rfl
@[simp] theorem len_n {xs : List Nat} : lenD [natL xs] = some (.sh (.int xs.length)) := by simp [natL]
@[simp] theorem tyS_n {α : Type} {xs : List Nat} {r : Res α} : tyS .list (some (natL xs)) r = r := id rfl
theorem app_n {xs : List Nat} {n : Nat} (h : xs.length < lim) : appendW (natL xs) [.int (n : Nat)] = some (natL (xs ++ [n]), .non) := by
  unfold natL
  rw [app_l (by simpa using h), List.map_append]
  rfl
@[simp] theorem sum_n {xs : List Nat} : sumD [natL xs] = some (.sh (.int (xs.sum : Nat))) := by
  have e : xs.map (fun n => D.int (n : Nat)) = (xs.map fun n : Nat => (n : Int)).map D.int := by rw [List.map_map]; rfl
  unfold natL
  rw [e, sum_l]
  congr 3
  clear e
  induction xs with
  | nil => rfl
  | cons x r ih =>
    simp only [List.map_cons, List.sum_cons]
    omega
theorem ups_n {n : Nat} : D.lst (ups n) = natL (List.range n) := rfl
theorem st_left {M : List (Nat × Nat)} {acc : List Nat} {R : Nat} {left : List Nat} (s : PT.St M acc R left) {j : Nat} (h : j ∈ left) : j < M.length := List.mem_range.mp (s.sub.subset h)
def WI (m : Md) (M : List (Nat × Nat)) (n : Nat) (ρ : VEnv) : Prop := ∃ acc R left y z, ρ = [some (.sh, .int (R : Nat)), some (m, mskL M), some (.ow, natL acc), some (.ow, natL left), y, z] ∧ PT.St M acc R left ∧ acc.length + R ≤ 63 ∧ n = R ∧ (z = none ∨ ∃ d, z = some (.sh, d))
theorem e_strata {k : Nat} {m : Md} (hm : Rm m) {M : List (Nat × Nat)} (h : MOk M) (hl : M.length ≤ 1000) : ∃ acc R left, PT.Fin M acc R left ∧ run (k + 2) 16 [(.sh, .int 63), (m, mskL M)] = .ok (.sh (.tup [natL acc, natL left])) none := by
  have e : run (k + 2) 16 = runB 6 (m_16 (run (k + 1)) (run k)) := rfl
  rw [e]
  have h6 : slots 6 [(Md.sh, D.int 63), (m, mskL M)] = [some (.sh, .int 63), some (m, mskL M), none, none, none, none] := rfl
  have key : ∃ acc R left, PT.Fin M acc R left ∧ VL.Ends (m_16 (run (k + 1)) (run k) (slots 6 [(Md.sh, D.int 63), (m, mskL M)])) (.ok (.sh (.tup [natL acc, natL left])) none) := by
    rw [h6]
    have hlr : ∀ ρ, lstRg (.sh (.int (M.length : Nat))) ρ = .ok (.tm (natL (List.range M.length))) ρ := fun ρ => by rw [listRg_e (by omega) (by omega)]; rfl
    have hnil : D.lst [] = natL [] := rfl
    have l2 : (2 : Nat) ≤ lim := by rw [hlim]; omega
    unfold m_16
    have hv := fun (i : Nat) (d : D) (ρ : VEnv) => varR_rm (m := m) (i := i) (d := d) (ρ := ρ) hm
    have hf := fun (i : Nat) (d : D) (ρ : VEnv) => frzR_rm (m := m) (i := i) (d := d) (ρ := ρ) hm
    have hrd := fun (i : Nat) (d : D) (ρ : VEnv) => rd_vm (m := m) (i := i) (d := d) (ρ := ρ) hm
    · simp [-List.getD_eq_getElem?_getD, hnil, hlr, hv, hrd]
      refine while_inv (R := fun q => ∃ acc R left, PT.Fin M acc R left ∧ VL.Ends q (.ok (.sh (.tup [natL acc, natL left])) none)) (WI m M) ?_ 63 _ ⟨[], 63, List.range M.length, none, none, rfl, PT.St.start M, by decide, rfl, .inl rfl⟩
      rintro n ρ ⟨acc, R, left, y, z, hρ, s, ha, hn, hz⟩
      subst hρ
      by_cases hR : R = 0
      · left
        subst hR
        refine ⟨_, by simp; rfl, acc, 0, left, ⟨s, .inl rfl⟩, ?_⟩
        simp [-List.getD_eq_getElem?_getD, hv, hf, hrd, l2]
      · right
        have hR2 : ¬ (R : Int) = 0 := by omega
        refine ⟨_, by simp [-List.getD_eq_getElem?_getD, hv, hf, hrd, hR]; rfl, ?_⟩
        have hin : ∃ ρ2, VL.forS (tgName 5) (sSeq (sSet 4 ((mBin subD ((mVar 4)) ((mBin bandD ((mVar 4)) ((mBin ixD ((mBin ixD ((mVar 1)) ((mVar 5)))) (mCst (.int 1)))))))))
            (sNext)) (left.map fun n => D.int (n : Nat)) [some (.sh, .int (R : Nat)), some (m, mskL M), some (.ow, natL acc), some (.sh, natL left), some (.sh, .int (R : Nat)), z] = .nx ρ2 ∧ ∃ z2, ρ2 = [some (.sh, .int (R : Nat)), some (m, mskL M), some (.ow, natL acc), some (.sh, natL left), some (.sh, .int (PT.strat M R left : Nat)), z2] ∧ (z2 = none ∨ ∃ d, z2 = some (.sh, d)) := by
          refine for_fold (fun s j => s - (s &&& (M.getD j (0, 0)).2)) (fun n => D.int (n : Nat)) (fun s ρ => ∃ z2, ρ = [some (.sh, .int (R : Nat)), some (m, mskL M), some (.ow, natL acc), some (.sh, natL left), some (.sh, .int (s : Nat)), z2] ∧ (z2 = none ∨ ∃ d, z2 = some (.sh, d))) left R _ ⟨z, rfl, hz⟩ ?_
          rintro j hj s2 ρ ⟨z2, hρ, hz2⟩
          subst hρ
          refine ⟨_, rfl, ?_⟩
          have hjm := ix_m (st_left s hj)
          have hsb : subD (.int (s2 : Nat)) (.int ((s2 &&& (M.getD j (0, 0)).2 : Nat) : Nat)) = some (.sh (.int ((s2 - (s2 &&& (M.getD j (0, 0)).2) : Nat) : Nat))) := sub_n Nat.and_le_left
          refine ⟨_, by simp [-List.getD_eq_getElem?_getD, hv, hf, hrd, -sub_i, hjm, ix_m1, band_n, hsb]; rfl, _, rfl, .inr ⟨_, rfl⟩⟩
        obtain ⟨ρ2, f1, z2, f2, hz2⟩ := hin
        subst f2
        have hst := PT.strat_ok h (left := left) s.lt
        have hsl := PT.strat_sub h (left := left) (R := R)
        have hstp := s.step h
        have hbits := PT.strat_bits h (left := left) s.lt
        generalize hS : PT.strat M R left = S at f1 hst hsl hstp hbits
        by_cases hS0 : S = 0
        · right
          refine ⟨_, by simp [-List.getD_eq_getElem?_getD, hv, hf, hrd, f1, hS0]; rfl, acc, R, left, ⟨s, .inr ?_⟩, ?_⟩
          · rw [← hbits, hS0]
            decide +kernel
          · simp [-List.getD_eq_getElem?_getD, hv, hf, hrd, l2]
        · left
          have hS2 : ¬ (S : Int) = 0 := by omega
          have hap := app_n (xs := acc) (n := S) (by rw [hlim]; omega)
          have hsb : subD (.int (R : Nat)) (.int (S : Nat)) = some (.sh (.int ((R - S : Nat) : Nat))) := sub_n hsl
          have hlc := fun z2 (hz2 : z2 = none ∨ ∃ d, z2 = some (Md.sh, d)) => lc_map (ρ := [some (.sh, .int ((R - S : Nat) : Nat)), some (m, mskL M), some (.ow, natL (acc ++ [S])), some (.sh, natL left), some (.sh, .int (S : Nat)), z2]) (mi := (((mFrz 3)).bind srcM)) (f := (tgName 5)) (tt := (((mBin eqD ((mBin bandD ((mBin ixD ((mBin ixD ((mVar 1)) ((mVar 5)))) (mCst (.int 0)))) ((mVar 4)))) (mCst (.int 0))).bind asB))) (te := (((mFrz 5)).bind shR)) (vs := [5])
            left (fun n => D.int (n : Nat)) (fun j => decide ((M.getD j (0, 0)).1 &&& S = 0)) (fun n => D.int (n : Nat)) (by simp) (by have := s.sub.length_le; rw [List.length_range] at this; rw [hlim]; omega) (by
              intro j hj
              have hjm := ix_m (st_left s hj)
              have hdec : (decide (((((M.getD j (0, 0)).1 &&& S : Nat) : Nat) : Int) = 0)) = decide ((M.getD j (0, 0)).1 &&& S = 0) := by
                rw [Bool.eq_iff_iff]
                simp only [decide_eq_true_eq]
                omega
              refine ⟨_, rfl, _, by simp [-List.getD_eq_getElem?_getD, hv, hf, hrd, wipeE, hjm, ix_m0, band_n]; rfl, ?_⟩
              split
              · exact ⟨_, by simp; rfl, by rcases hz2 with rfl | ⟨d, rfl⟩ <;> rfl⟩
              · rcases hz2 with rfl | ⟨d, rfl⟩ <;> rfl)
          have hlc := hlc z2 hz2
          have hk : D.lst ((left.filter fun j => decide ((M.getD j (0, 0)).1 &&& S = 0)).map fun n => D.int (n : Nat)) = natL (PT.keepM M S left) := rfl
          rw [hk] at hlc
          refine ⟨_, by simp [-List.getD_eq_getElem?_getD, hv, hf, hrd, -sub_i, f1, hS0, hap, hsb, hlc]; rfl, R - S, by omega, acc ++ [S], R - S, PT.keepM M S left, _, _, rfl, hstp, by simp; omega, rfl, hz2⟩
  obtain ⟨acc, R, left, h1, h2⟩ := key
  exact ⟨acc, R, left, h1, of_ends h2 (by simp)⟩
end LW

set_option maxHeartbeats 200000
set_option maxHeartbeats 400000
namespace LW
open PySem PySem.Spec L2 VL
open PT (RowOk gl maskI mskR codeAR orB MOk)
def asgO (o : Option VEnv) : SR := match o with
  | some ρ => .nx ρ
  | none => .bad
@[simp] theorem asg_e {f : D → VEnv → Option VEnv} {m : M D} {ρ : VEnv} : sAsg f m ρ = (m ρ).thn fun d ρ => asgO (f d ρ) := by
  unfold sAsg asgO
  rw [then_e]
  try rfl
@[simp] theorem asgO_e {ρ : VEnv} : asgO (some ρ) = .nx ρ := id rfl
@[simp] theorem truth_i {i : Int} {ρ : VEnv} : mTruth (.sh (.int i)) ρ = .ok (i != 0) ρ := id rfl
def natT (xs : List Nat) : D := .tup (xs.map fun n => .int (n : Nat))
def rowsL (M : List (Nat × Nat)) : List PT.AR := PT.rowsM M (List.range M.length)
theorem fin_sum {M : List (Nat × Nat)} {acc : List Nat} {R : Nat} {left : List Nat} (s : PT.Fin M acc R left) : acc.sum = 63 - R := by
  have := s.sum
  omega
theorem e_cons {k : Nat} {m : Md} (hm : Rm m) {M : List (Nat × Nat)} (h : MOk M) (hl : M.length ≤ 1000) : run (k + 3) 17 [(m, mskL M)] = .ok (.sh (.bl (PT.consB (rowsL M)))) none := by
  have e : run (k + 3) 17 = runB 3 (m_17 (run (k + 2)) (run (k + 1))) := rfl
  rw [e]
  refine of_ends ?_ (by rcases hm with rfl | rfl <;> simp)
  have h6 : slots 3 [(m, mskL M)] = [some (m, mskL M), none, none] := rfl
  rw [h6]
  have hv := fun (i : Nat) (d : D) (ρ : VEnv) => varR_rm (m := m) (i := i) (d := d) (ρ := ρ) hm
  have ha := fun (i : Nat) (d : D) (ρ : VEnv) (rs : List Rv) => args_vm (m := m) (i := i) (d := d) (ρ := ρ) (rs := rs) hm
  obtain ⟨acc, R, left, s, hr⟩ := e_strata (k := k) hm h hl
  have h1 := fin_sum s
  have h2 := s.iff h
  have h3 := s.lt
  have hb : decide (((acc.sum : Nat) : Int) = 63) = PT.consB (rowsL M) := by
    rw [Bool.eq_iff_iff, decide_eq_true_eq, PT.consB_iff]
    unfold rowsL
    rw [← h2]
    omega
  simp [m_17, hv, ha, hr, -decide_eq_true_eq]
  exact hb.symm
theorem rows_pick {M : List (Nat × Nat)} {js : List Nat} : rowsL (js.map fun j => M.getD j (0, 0)) = PT.rowsM M js := by
  unfold rowsL PT.rowsM
  apply List.ext_getElem
  · simp
  · intro i h1 h2
    have hi : i < js.length := by simpa using h2
    simp [hi]
theorem mok_pick {M : List (Nat × Nat)} (h : MOk M) {js : List Nat} : MOk (js.map fun j => M.getD j (0, 0)) := by
  intro p hp
  obtain ⟨j, _, rfl⟩ := List.mem_map.mp hp
  exact h.at j
def lotE (m : Md) (M : List (Nat × Nat)) (acc left : List Nat) (S : Nat) (lm : Md) (lot : List Nat) (a b c d : Slot) : VEnv := [some (m, mskL M), some (.sh, natL acc), some (.sh, natL left), some (.sh, .int (S : Nat)), some (lm, natL lot), a, b, c, d]
theorem e_lot {k : Nat} {m : Md} (hm : Rm m) {M : List (Nat × Nat)} (h : MOk M) (hl : M.length ≤ 1000) : ∃ acc R left, PT.Fin M acc R left ∧ run (k + 4) 18 [(m, mskL M)] = .ok (.sh (natT (PT.lotOf M R left))) none := by
  obtain ⟨acc, R, left, s, hr⟩ := e_strata (k := k + 1) hm h hl
  refine ⟨acc, R, left, s, ?_⟩
  have e : run (k + 4) 18 = runB 9 (m_18 (run (k + 3)) (run (k + 2))) := rfl
  rw [e]
  refine of_ends ?_ (by rcases hm with rfl | rfl <;> simp)
  have h6 : slots 9 [(m, mskL M)] = [some (m, mskL M), none, none, none, none, none, none, none, none] := rfl
  rw [h6]
  have hv := fun (i : Nat) (d : D) (ρ : VEnv) => varR_rm (m := m) (i := i) (d := d) (ρ := ρ) hm
  have hrd := fun (i : Nat) (d : D) (ρ : VEnv) => rd_vm (m := m) (i := i) (d := d) (ρ := ρ) hm
  have ha := fun (i : Nat) (d : D) (ρ : VEnv) (rs : List Rv) => args_vm (m := m) (i := i) (d := d) (ρ := ρ) (rs := rs) hm
  have h1 := fin_sum s
  have h3 := s.lt
  have hsb : subD (.int 63) (.int (acc.sum : Nat)) = some (.sh (.int (R : Nat))) := by
    rw [sub_i]
    congr 3
    omega
  have hnil : D.lst [] = natL [] := rfl
  have hll : left.length ≤ M.length := by have := s.sub.length_le; rwa [List.length_range] at this
  simp [-sub_i, m_18, hv, hrd, ha, hr, hsb, hnil]
  refine for_foldR (R := fun q => VL.Ends q _) (PT.covStep M) (fun n => D.int (n : Nat)) (fun p ρ => ∃ a b, ρ = lotE m M acc left p.2 .ow p.1 a b none none ∧ p.1.length + (PT.bits p.2).length ≤ 6 ∧ p.2 < 64) left ([], R) _ ⟨none, none, rfl, by have := PT.bits_le (S := R); simpa using this, h3⟩ ?_ ?_
  · rintro j hj ⟨lot, S⟩ ρ ⟨a, b, hρ, hb, hS⟩
    subst hρ
    refine ⟨_, rfl, ?_⟩
    have hjm := ix_m (st_left s.toSt hj)
    have hjo := h.at j
    dsimp only at hb hS
    unfold PT.covStep
    dsimp only
    generalize M.getD j (0, 0) = p at hjm hjo
    by_cases hf : p.2 &&& S = 0
    · refine ⟨_, by simp [lotE, hv, hrd, hjm, ix_m1, band_n, hf]; rfl, ?_⟩
      rw [if_pos hf]
      exact ⟨_, _, rfl, hb, hS⟩
    · have hlt := PT.cut_lt hS hjo.2.1 hf
      have hap := app_n (xs := lot) (n := j) (by rw [hlim]; omega)
      have hsb2 : subD (.int (S : Nat)) (.int ((p.2 &&& S : Nat) : Nat)) = some (.sh (.int ((S - (p.2 &&& S) : Nat) : Nat))) := sub_n (Nat.and_le_right)
      refine ⟨_, by simp [-sub_i, lotE, hv, hrd, hjm, ix_m1, band_n, hf, hap, hsb2]; rfl, ?_⟩
      rw [if_neg hf]
      exact ⟨_, _, rfl, by rw [List.length_append]; simp; omega, by dsimp only; omega⟩
  · rintro ρ ⟨a, b, hρ, hb, hS⟩
    subst hρ
    unfold PT.lotOf
    have hls2 : ∀ j ∈ (left.foldl (PT.covStep M) ([], R)).1, j ∈ left := by
      obtain ⟨new, e1, e2⟩ := PT.cov_ok h (left := left) (lot := []) h3
      intro j hj
      rw [e1, List.nil_append] at hj
      exact e2.sub.subset hj
    generalize left.foldl (PT.covStep M) ([], R) = pp at hb hS hls2
    obtain ⟨lot, S⟩ := pp
    dsimp only at hb hS hls2 ⊢
    have hlo : natL lot = .lst (lot.map fun n => .int (n : Nat)) := rfl
    have hls : listSD [natL lot] = some (.tm (natL lot)) := rfl
    simp [lotE, hls]
    refine for_foldR (R := fun q => VL.Ends q _) (PT.minStep M) (fun n => D.int (n : Nat)) (fun cur ρ => ∃ lm a b c, ρ = lotE m M acc left S lm cur a b c none ∧ (lm = .ow ∨ lm = .sh) ∧ cur.Sublist lot) lot lot _ ⟨.ow, _, _, none, rfl, .inl rfl, List.Sublist.refl _⟩ ?_ ?_
    · rintro p hp cur ρ ⟨lm, a, b, c, hρ, hlm, hsub⟩
      subst hρ
      refine ⟨_, rfl, ?_⟩
      have hcl : cur.length ≤ 6 := by have := hsub.length_le; omega
      have hjs : ∀ j ∈ cur, j < M.length := fun j hj => st_left s.toSt (hls2 j (hsub.subset hj))
      have hfil : cur.filter (fun o : Nat => !decide ((o : Int) = (p : Int))) = cur.filter fun o => decide (o ≠ p) := by
        apply List.filter_congr
        intro o _
        rw [Bool.eq_iff_iff]
        simp
        omega
      have lc1 := lc_mapF (ρ1 := lotE m M acc left S lm cur (some (.sh, .int (p : Nat))) b c none) (ρ := lotE m M acc left S .sh cur (some (.sh, .int (p : Nat))) b c none) (mi := (((mFrz 4)).bind srcM)) (f := tgName 8) (tt := (((mBin neD ((mVar 8)) ((mVar 5))).bind asB))) (te := (((mFrz 8)).bind shR)) (vs := [8])
        cur (fun n => D.int (n : Nat)) (fun o : Nat => !decide ((o : Int) = (p : Int))) (fun n => D.int (n : Nat)) (by rcases hlm with rfl | rfl <;> simp [lotE]) (by rw [hlim]; omega) (by
          intro o ho
          refine ⟨_, rfl, _, by simp [lotE, wipeE, -decide_eq_true_eq]; rfl, ?_⟩
          split
          · exact ⟨_, by simp; rfl, rfl⟩
          · rfl)
      rw [hfil] at lc1
      generalize hfw : cur.filter (fun o => decide (o ≠ p)) = fewer at lc1
      have hfl : ∀ j ∈ fewer, j < M.length := fun j hj => hjs j (by rw [← hfw] at hj; exact (List.mem_filter.mp hj).1)
      have hfl2 : fewer.length ≤ 6 := by
        rw [← hfw]
        exact Nat.le_trans (List.length_filter_le _ _) hcl
      have hn1 : D.lst (fewer.map fun n => D.int (n : Nat)) = natL fewer := rfl
      rw [hn1] at lc1
      have lc2 := lc_mapF (ρ1 := lotE m M acc left S .sh cur (some (.sh, .int (p : Nat))) b (some (.ow, natL fewer)) none) (ρ := lotE m M acc left S .sh cur (some (.sh, .int (p : Nat))) b (some (.sh, natL fewer)) none) (mi := (((mFrz 7)).bind srcM)) (f := tgName 8) (tt := VL.M.pure true) (te := (((mBin ixD ((mVar 0)) ((mVar 8)))).bind shR)) (vs := [8])
        fewer (fun n => D.int (n : Nat)) (fun _ => true) (fun j => mkD (M.getD j (0, 0))) (by simp [lotE]) (by rw [hlim]; omega) (fun j hj => ⟨_, rfl, _, rfl, _, by simp [-List.getD_eq_getElem?_getD, lotE, wipeE, hv, hrd, ix_m (hfl j hj)]; rfl, rfl⟩)
      rw [filt_t] at lc2
      have hn2 : D.lst (fewer.map fun j => mkD (M.getD j (0, 0))) = mskL (fewer.map fun j => M.getD j (0, 0)) := by
        unfold mskL
        rw [List.map_map]
        rfl
      rw [hn2] at lc2
      have hc := e_cons (k := k) (m := .sh) (.inl rfl) (mok_pick h (js := fewer)) (by rw [List.length_map]; omega)
      rw [rows_pick] at hc
      have hms : PT.minStep M cur p = if PT.consB (PT.rowsM M fewer) = true then cur else fewer := by unfold PT.minStep; rw [hfw]
      unfold lotE at lc1 lc2
      cases hcb : PT.consB (PT.rowsM M fewer) with
      | true =>
        rw [hcb] at hc
        refine ⟨_, by simp [-List.getD_eq_getElem?_getD, lotE, lc1, lc2, hc]; rfl, ?_⟩
        rw [hms, hcb, if_pos rfl]
        exact ⟨.sh, _, _, _, rfl, .inr rfl, hsub⟩
      | false =>
        rw [hcb] at hc
        refine ⟨_, by simp [-List.getD_eq_getElem?_getD, lotE, lc1, lc2, hc]; rfl, ?_⟩
        rw [hms, hcb, if_neg (by simp)]
        refine ⟨.sh, _, _, _, rfl, .inr rfl, ?_⟩
        rw [← hfw]
        exact List.filter_sublist.trans hsub
    · rintro ρ ⟨lm, a, b, c, hρ, hlm, hsub⟩
      subst hρ
      have ht : ∀ xs : List Nat, tupleD [natL xs] = some (.sh (natT xs)) := fun xs => rfl
      rcases hlm with rfl | rfl <;> simp [lotE, ht]
end LW

set_option maxHeartbeats 200000
set_option maxHeartbeats 400000
namespace LW
open PySem PySem.Spec L2 VL
open PT (RowOk gl maskI mskR codeAR orB MOk)
@[simp] theorem len_nT {xs : List Nat} : lenD [natT xs] = some (.sh (.int xs.length)) := by simp [natT]
/-- the masks' rules are below n -/
def Below (n : Nat) (M : List (Nat × Nat)) : Prop := ∀ p ∈ M, ∀ i, p.2.testBit i = true → i < n
theorem e_check {k n : Nat} {m : Md} (hm : Rm m) {M : List (Nat × Nat)} (h : MOk M) (hl : M.length ≤ 1000) (hn : Below n M) :
    (PT.consB (rowsL M) = true ∧ run (k + 5) 19 [(m, mskL M)] = .ok (.sh .non) none) ∨
    (PT.consB (rowsL M) = false ∧ ∃ lot, PT.LotOk M lot ∧ 1 ≤ lot.length ∧ lot.length ≤ n ∧ run (k + 5) 19 [(m, mskL M)] = .exc ⟨6, ["lot"], [natT lot]⟩) := by
  have e : run (k + 5) 19 = runB 2 (m_19 (run (k + 4)) (run (k + 3))) := rfl
  have h6 : slots 2 [(m, mskL M)] = [some (m, mskL M), none] := rfl
  have hv := fun (i : Nat) (d : D) (ρ : VEnv) => varR_rm (m := m) (i := i) (d := d) (ρ := ρ) hm
  have ha := fun (i : Nat) (d : D) (ρ : VEnv) (rs : List Rv) => args_vm (m := m) (i := i) (d := d) (ρ := ρ) (rs := rs) hm
  obtain ⟨acc, R, left, s, hr⟩ := e_lot (k := k) hm h hl
  have hi := s.iff h
  rw [e]
  by_cases h0 : R = 0
  · left
    refine ⟨PT.consB_iff.mpr (hi.mp h0), of_ends ?_ (by rcases hm with rfl | rfl <;> simp)⟩
    rw [h0, PT.lot_zero] at hr
    rw [h6]
    simp [m_19, hv, ha, hr]
  · right
    obtain ⟨l1, l2, l3⟩ := PT.lot_ok h s h0
    have l4 := PT.bits_bound h s h0 hn
    generalize PT.lotOf M R left = lot at hr l1 l2 l3
    have l5 : 0 < lot.length := List.length_pos_iff.mpr l3
    have hcb : PT.consB (rowsL M) = false := by
      cases q : PT.consB (rowsL M) with
      | false => rfl
      | true => exact absurd (hi.mpr (PT.consB_iff.mp q)) h0
    refine ⟨hcb, lot, l1, l5, by omega, of_ends ?_ (by rcases hm with rfl | rfl <;> simp)⟩
    rw [h6]
    have l6 : (0 : Int) < lot.length := by omega
    simp [m_19, hv, ha, hr, l5]
/-! ### the first ranking -/
def needs (M : List (Nat × Nat)) (p : Nat) : List Nat := (M.filter fun q => q.2.testBit p).map (·.1)
def needD (m : Nat) (M : List (Nat × Nat)) : D := .lst ((List.range m).map fun p => natL (needs M p))
def shf (a i : Nat) : Nat := a / 2 ^ i
def bt (a i : Nat) : Nat := shf a i &&& 1
theorem shr_n {a i : Nat} : shrD (.int (a : Nat)) (.int (i : Nat)) = some (.sh (.int (shf a i : Nat))) := by
  show (if (0 : Int) ≤ (i : Int) then some (Rv.sh (.int ((a : Int) / 2 ^ (i : Int).toNat))) else none) = _
  rw [if_pos (by omega), Int.toNat_natCast]
  congr 3
theorem bit_t {a i : Nat} : (((bt a i : Nat) : Int) != 0) = a.testBit i := by
  unfold bt shf
  rw [Nat.and_one_is_mod, Nat.testBit_eq_decide_div_mod_eq, Bool.eq_iff_iff]
  generalize a / 2 ^ i = z
  simp only [bne_iff_ne, decide_eq_true_eq, ne_eq]
  omega
theorem band_1 {a i : Nat} : bandD (.int (shf a i : Nat)) (.int 1) = some (.sh (.int (bt a i : Nat))) := band_n (shf a i) 1
theorem e_needs {k n : Nat} {m : Md} (hm : Rm m) {M : List (Nat × Nat)} (hl : M.length ≤ 1000) (hn : n ≤ 6) : run (k + 2) 20 [(.sh, .int (n : Nat)), (m, mskL M)] = .ok (.tm (needD n M)) none := by
  have e : run (k + 2) 20 = runB 5 (m_20 (run (k + 1)) (run k)) := rfl
  rw [e]
  refine of_ends ?_ (by simp)
  have h6 : slots 5 [(.sh, .int (n : Nat)), (m, mskL M)] = [some (.sh, .int (n : Nat)), some (m, mskL M), none, none, none] := rfl
  rw [h6]
  have hv := fun (i : Nat) (d : D) (ρ : VEnv) => varR_rm (m := m) (i := i) (d := d) (ρ := ρ) hm
  have hf := fun (i : Nat) (d : D) (ρ : VEnv) => frzR_rm (m := m) (i := i) (d := d) (ρ := ρ) hm
  have hsr := fun (i : Nat) (d : D) (ρ : VEnv) => src_vm (m := m) (i := i) (d := d) (ρ := ρ) hm
  have rn : rng1D [.int (n : Nat)] = some (ups n) := rng_ups (by omega)
  have hin := fun p : Nat => lc_map (ρ := [some (.sh, .int (n : Nat)), some (m, mskL M), some (.sh, .int (p : Nat)), none, none]) (mi := (((mFrz 1)).bind srcM)) (f := (tgTup 2 (tgCons (tgName 3) (tgCons (tgName 4) tgNil)))) (tt := ((((mBin bandD ((mBin shrD ((mVar 4)) ((mVar 2)))) (mCst (.int 1)))).bind mTruth))) (te := (((mFrz 3)).bind shR)) (vs := [3, 4])
    M mkD (fun q => q.2.testBit p) (fun q => .int (q.1 : Nat)) (by simp [hf, hsr]) (by rw [hlim]; omega) (by
      intro q hq
      refine ⟨[some (.sh, .int (n : Nat)), some (m, mskL M), some (.sh, .int (p : Nat)), some (.sh, .int (q.1 : Nat)), some (.sh, .int (q.2 : Nat))], by simp [wipeE, mkD], _, by simp [shr_n, band_1, bit_t, -bne_iff_ne]; rfl, ?_⟩
      split
      · exact ⟨_, by simp; rfl, rfl⟩
      · rfl)
  have hn1 : ∀ p, D.lst ((M.filter fun q => q.2.testBit p).map fun q => D.int (q.1 : Nat)) = natL (needs M p) := by
    intro p
    unfold needs natL
    rw [List.map_map]
    rfl
  have hout := lc_map (ρ := [some (.sh, .int (n : Nat)), some (m, mskL M), none, none, none]) (mi := (((mConsD (((mFrz 0)).bind shR) (VL.M.pure [])).bind fun ds => ofO (rng1D ds)))) (f := tgName 2) (tt := VL.M.pure true) (te := (((lcM ((((mFrz 1)).bind srcM)) (tgTup 2 (tgCons (tgName 3) (tgCons (tgName 4) tgNil))) ((((mBin bandD ((mBin shrD ((mVar 4)) ((mVar 2)))) (mCst (.int 1)))).bind mTruth)) (((mFrz 3)).bind shR) [3, 4])).bind shR)) (vs := [2])
    (List.range n) (fun p => .int (p : Nat)) (fun _ => true) (fun p => natL (needs M p)) (by simp [rn, ups]) (by rw [hlim]; simp; omega) (by
      intro p hp
      refine ⟨[some (.sh, .int (n : Nat)), some (m, mskL M), some (.sh, .int (p : Nat)), none, none], rfl, _, rfl, _, by simp only [bind_e, hin p, hn1, ok_b, shR_tm]; rfl, rfl⟩)
  rw [filt_t] at hout
  simp [m_20, hout, needD]
def mayB (n : Nat) (M : List (Nat × Nat)) (a p : Nat) : Bool := !a.testBit p && (needs M p).all fun g => !decide (g &&& a = 0)
theorem e_may {k n : Nat} {M : List (Nat × Nat)} {a p : Nat} (hp : p < n) : run (k + 2) 21 [(.ro, needD n M), (.sh, .int (a : Nat)), (.sh, .int (p : Nat))] = .ok (.sh (.bl (mayB n M a p))) none := by
  have e : run (k + 2) 21 = runB 4 (m_21 (run (k + 1)) (run k)) := rfl
  rw [e]
  refine of_ends ?_ (by simp)
  have h6 : slots 4 [(Md.ro, needD n M), (.sh, .int (a : Nat)), (.sh, .int (p : Nat))] = [some (.ro, needD n M), some (.sh, .int (a : Nat)), some (.sh, .int (p : Nat)), none] := rfl
  rw [h6]
  have hx : ixD (needD n M) (.int (p : Nat)) = some (.sh (natL (needs M p))) := by
    unfold needD
    rw [ix_l (d := natL (needs M p))]
    simp [hp]
  unfold mayB
  cases hb : a.testBit p with
  | true => simp [m_21, shr_n, band_1, bit_t, hb, -bne_iff_ne]
  | false =>
    simp [m_21, shr_n, band_1, bit_t, hb, hx, -bne_iff_ne]
    refine ends_chk (needs M p) (fun n => D.int (n : Nat)) (fun g => !decide (g &&& a = 0)) (fun ρ => ∃ z, ρ = [some (.ro, needD n M), some (.sh, .int (a : Nat)), some (.sh, .int (p : Nat)), z]) ?_ ?_ _ ⟨none, rfl⟩
    · rintro g hg ρ ⟨z, hρ⟩
      subst hρ
      refine ⟨_, rfl, ?_⟩
      by_cases hz : g &&& a = 0
      · simp [band_n, hz]
      · have hz2 : ¬ ((g &&& a : Nat) : Int) = 0 := by omega
        simp [band_n, hz]
    · rintro ρ ⟨z, hρ⟩
      subst hρ
      simp
end LW

set_option maxHeartbeats 200000
set_option maxHeartbeats 400000
namespace LW
open PySem PySem.Spec L2 VL
open PT (RowOk gl maskI mskR codeAR orB MOk)
theorem for_ixR {α : Type} {f : D → VEnv → Option VEnv} {b : SM} {R : SR → Prop} {rest : SM} {ρ : VEnv} (xs : List α) (e : α → D) (st : Nat → VEnv → Prop) (h0 : st 0 ρ)
    (hs : ∀ j x, xs[j]? = some x → ∀ ρ, st j ρ → ∃ ρ1, f (e x) ρ = some ρ1 ∧ ∃ ρ2, b ρ1 = .nx ρ2 ∧ st (j + 1) ρ2) (hend : ∀ ρ, st xs.length ρ → R (rest ρ)) : R ((VL.forS f b (xs.map e) ρ).seq rest) := by
  obtain ⟨ρ2, e1, e2⟩ := for_all xs e st hs h0
  rw [e1]
  exact hend ρ2 e2
theorem rowsL_map {M : List (Nat × Nat)} : rowsL M = M.map PT.mAR := by
  unfold rowsL PT.rowsM
  apply List.ext_getElem
  · simp
  · intro i h1 h2
    have hi : i < M.length := by simpa using h2
    simp [hi]
theorem may_eq {n : Nat} {M : List (Nat × Nat)} (h : MOk M) {t : List Nat} (ht : ∀ x ∈ t, x < 6) {p : Nat} : mayB n M (maskI t) p = (!t.contains p && PT.mayN (rowsL M) t p) := by
  have e1 : (maskI t).testBit p = t.contains p := by
    rw [PT.mask_tb, Bool.eq_iff_iff]
    simp
  unfold mayB PT.mayN
  rw [e1]
  congr 1
  unfold needs
  rw [rowsL_map, List.all_map, List.all_map, List.all_filter]
  rw [Bool.eq_iff_iff, List.all_eq_true, List.all_eq_true]
  have key : ∀ q ∈ M, ((!q.2.testBit p || ((fun g => !decide (g &&& maskI t = 0)) ∘ fun x : Nat × Nat => x.1) q) = true ↔ (((fun r => !r.2 p || t.any r.1) ∘ PT.mAR) q) = true) := by
    intro q hq
    have hz := PT.tb_zero _ (h q hq).1 _ (PT.mask_lt ht)
    show ((!q.2.testBit p || !decide (q.1 &&& maskI t = 0)) = true) ↔ ((!q.2.testBit p || t.any q.1.testBit) = true)
    cases q.2.testBit p with
    | false => simp
    | true =>
      simp only [Bool.not_true, Bool.false_or, Bool.not_eq_true', decide_eq_false_iff_not, List.any_eq_true]
      rw [hz]
      constructor
      · intro hn
        apply Classical.byContradiction
        intro hne
        refine hn fun i _ hc => hne ⟨i, ?_, hc.1⟩
        have := hc.2
        rw [PT.mask_tb] at this
        exact of_decide_eq_true this
      · rintro ⟨i, hi, hg⟩ hn
        refine hn i (ht i hi) ⟨hg, ?_⟩
        rw [PT.mask_tb]
        exact decide_eq_true hi
  constructor
  · intro hh q hq
    exact (key q hq).mp (by simpa using hh q hq)
  · intro hh q hq
    simpa using (key q hq).mpr (hh q hq)
theorem minI_least : ∀ {r : List Int} {m : Int}, (∀ y ∈ r, m ≤ y) → VL.minI m r = m
  | [], m, _ => rfl
  | n :: r, m, h => by
    rw [VL.minI, if_neg (by have := h n List.mem_cons_self; omega)]
    exact minI_least fun y hy => h y (List.mem_cons_of_mem _ hy)
theorem min_n {x : Nat} {r : List Nat} (h : ∀ y ∈ r, x ≤ y) : minD [natL (x :: r)] = some (.sh (.int (x : Nat))) := by
  have e : (x :: r).map (fun n => D.int (n : Nat)) = ((x :: r).map fun n : Nat => (n : Int)).map D.int := by rw [List.map_map]; rfl
  show minD [.lst ((x :: r).map fun n => D.int (n : Nat))] = _
  rw [e]
  show (match intsOf (((x :: r).map fun n : Nat => (n : Int)).map D.int) with
    | some (n :: ns) => some (Rv.sh (D.int (VL.minI n ns)))
    | _ => none) = _
  rw [ints_of]
  show some (Rv.sh (D.int (VL.minI (x : Int) (r.map fun n : Nat => (n : Int))))) = _
  rw [minI_least]
  intro y hy
  obtain ⟨z, hz, rfl⟩ := List.mem_map.mp hy
  have := h z hz
  omega
theorem head_least {n : Nat} {p : Nat → Bool} {x : Nat} {r : List Nat} (h : (List.range n).filter p = x :: r) : (∀ y ∈ r, x ≤ y) ∧ (List.range n).find? p = some x ∧ x < n := by
  have hp : ((List.range n).filter p).Pairwise (· < ·) := List.Pairwise.sublist List.filter_sublist List.pairwise_lt_range
  rw [h] at hp
  have hx : x ∈ (List.range n).filter p := by rw [h]; exact List.mem_cons_self
  refine ⟨fun y hy => Nat.le_of_lt (List.rel_of_pairwise_cons hp hy), ?_, List.mem_range.mp (List.mem_filter.mp hx).1⟩
  rw [← List.head?_filter, h]
  rfl
theorem abc_ix {i : Nat} (h : i < 6) : ixD (.str [65, 66, 67, 68, 69, 70]) (.int (i : Nat)) = some (.sh (.str [65 + i])) := by
  refine ixS (k := i) (by rw [hlim]; decide) rfl ?_
  match i, h with
  | 0, _ => rfl
  | 1, _ => rfl
  | 2, _ => rfl
  | 3, _ => rfl
  | 4, _ => rfl
  | 5, _ => rfl
theorem e_letters {k n : Nat} {M : List (Nat × Nat)} (h : MOk M) (hl : M.length ≤ 1000) (hn : n ≤ 6) (hd : PT.Dj (rowsL M)) (hc : PT.ConsW (List.range n) (rowsL M)) : run (k + 3) 22 [(.sh, .int (n : Nat)), (.ro, mskL M)] = .ok (.sh (.str ((PT.greedy n (rowsL M) n).map (65 + ·)))) none := by
  have e : run (k + 3) 22 = runB 8 (m_22 (run (k + 2)) (run (k + 1))) := rfl
  rw [e]
  refine of_ends ?_ (by simp)
  have h6 : slots 8 [(.sh, .int (n : Nat)), (.ro, mskL M)] = [some (.sh, .int (n : Nat)), some (.ro, mskL M), none, none, none, none, none, none] := rfl
  rw [h6]
  have rn : rng1D [.int (n : Nat)] = some (ups n) := rng_ups (by omega)
  have h1 := e_needs (k := k) (m := .ro) (.inr rfl) hl hn
  simp [m_22, h1, rn, ups]
  refine for_ixR (R := fun q => VL.Ends q _) (List.range n) (fun j => .int (j : Nat)) (fun j ρ => ∃ a b, ρ = [some (.sh, .int (n : Nat)), some (.ro, mskL M), some (.ow, needD n M), some (.sh, .int (maskI (PT.greedy n (rowsL M) j) : Nat)), some (.sh, .str ((PT.greedy n (rowsL M) j).map (65 + ·))), a, b, none] ∧ j ≤ n) ⟨none, none, rfl, Nat.zero_le _⟩ ?_ ?_
  · rintro j x hj ρ ⟨a, b, hρ, hjn⟩
    subst hρ
    refine ⟨_, rfl, ?_⟩
    have hjn : j < n := by
      have := (List.getElem?_eq_some_iff.mp hj).1
      simpa using this
    obtain ⟨hb, hlg⟩ := PT.greedy_beg hd hc (k := j) (by omega)
    obtain ⟨y, y1, y2, y3⟩ := PT.next_is hd hc hb hjn hlg
    have hnx : PT.greedy n (rowsL M) (j + 1) = PT.greedy n (rowsL M) j ++ [PT.nextG n (rowsL M) (PT.greedy n (rowsL M) j)] := rfl
    rw [hnx]
    generalize PT.greedy n (rowsL M) j = t at hb hlg y2 y3
    have ht6 : ∀ x ∈ t, x < 6 := fun x hx => by have := hb.lt x hx; omega
    have hlc := lc_map (ρ := [some (.sh, .int (n : Nat)), some (.ro, mskL M), some (.ow, needD n M), some (.sh, .int (maskI t : Nat)), some (.sh, .str (t.map (65 + ·))), some (.sh, .int (x : Nat)), b, none]) (mi := (((mConsD (((mFrz 0)).bind shR) (VL.M.pure [])).bind fun ds => ofO (rng1D ds)))) (f := tgName 7) (tt := ((((mUser ((run (k + 2)) 21) 3 [] (mCons ((mVar 2)) (mCons ((mVar 3)) (mCons ((mVar 7)) (VL.M.pure [])))))).bind mTruth))) (te := (((mFrz 7)).bind shR)) (vs := [7])
      (List.range n) (fun j => .int (j : Nat)) (fun p => mayB n M (maskI t) p) (fun n => D.int (n : Nat)) (by simp [rn, ups]) (by rw [hlim]; simp; omega) (by
        intro p hp
        have hm := e_may (k := k) (n := n) (M := M) (a := maskI t) (List.mem_range.mp hp)
        refine ⟨_, rfl, _, by simp [wipeE, hm]; rfl, ?_⟩
        split
        · exact ⟨_, by simp; rfl, rfl⟩
        · rfl)
    have hfe : (List.range n).filter (fun p => mayB n M (maskI t) p) = (List.range n).filter fun p => !t.contains p && PT.mayN (rowsL M) t p := List.filter_congr fun p _ => may_eq h ht6
    have hne : (List.range n).filter (fun p => !t.contains p && PT.mayN (rowsL M) t p) ≠ [] := by
      intro z
      have := List.filter_eq_nil_iff.mp z y (List.mem_range.mpr y1)
      simp [y2, y3] at this
    rw [hfe] at hlc
    cases hfl : (List.range n).filter (fun p => !t.contains p && PT.mayN (rowsL M) t p) with
    | nil => exact absurd hfl hne
    | cons z r =>
      obtain ⟨z1, z2, z3⟩ := head_least hfl
      rw [hfl] at hlc
      have hn1 : D.lst ((z :: r).map fun n => D.int (n : Nat)) = natL (z :: r) := rfl
      rw [hn1] at hlc
      have hng : PT.nextG n (rowsL M) t = z := by unfold PT.nextG; rw [z2]; rfl
      rw [hng]
      have hmk : maskI (t ++ [z]) = maskI t ||| 2 ^ z := by
        unfold maskI
        rw [List.foldl_append]
        rfl
      have hzx := abc_ix (show z < 6 by omega)
      have had := addS (s := t.map (65 + ·)) (t := [65 + z]) (by rw [hlim]; have := hb.len; simp; omega)
      refine ⟨_, by simp [hlc, min_n z1, shl_n (show z ≤ 1000 by omega), bor_p, hzx, had]; rfl, _, _, by rw [hmk, List.map_append]; rfl, by omega⟩
  · rintro ρ ⟨a, b, hρ, _⟩
    rw [List.length_range] at hρ
    subst hρ
    simp
end LW

set_option maxHeartbeats 200000
set_option maxHeartbeats 400000
namespace LW
open PySem PySem.Spec L2 VL
open PT (RowOk gl maskI mskR codeAR orB MOk arL)
def ltr (o : List Nat) : D := .str (o.map (65 + ·))
theorem fld_m {m : Nat} {L : List (List Nat)} {ρ : VEnv} : fldE flds "m" (.sh (bkD m L)) ρ = .ok (.sh (.int (m : Nat))) ρ := by kernel_rfl
theorem fld_rows {m : Nat} {L : List (List Nat)} {ρ : VEnv} : fldE flds "rows" (.sh (bkD m L)) ρ = .ok (.sh (.tup (L.map .str))) ρ := by kernel_rfl
@[simp] theorem mfld_e {T : Flds} {f : PySem.Str} {ma : M Rv} {ρ : VEnv} : mFld T f ma ρ = (ma ρ).bind (fldE T f) := id rfl
theorem Rws.l6 {m : Nat} {L : List (List Nat)} (h : Rws m L) : ∀ r ∈ L, r.length ≤ 6 := fun r hr => by have := (h.row r hr).len; have := h.hi; omega
theorem Rws.rows {m : Nat} {L : List (List Nat)} (h : Rws m L) : rowsL (L.map mskR) = arL L := PT.rows_all h.l6
theorem Rws.cons {m : Nat} {L : List (List Nat)} (h : Rws m L) : PT.ConsW (List.range 6) (arL L) ↔ PT.ConsW (List.range m) (arL L) := PT.cons_m h.hi fun r hr => (h.row r hr).len
theorem Rws.below {m : Nat} {L : List (List Nat)} (h : Rws m L) : Below m (L.map mskR) := by
  intro p hp i hi
  obtain ⟨r, hr, rfl⟩ := List.mem_map.mp hp
  have hi : (maskI (gl r 45)).testBit i = true := hi
  rw [PT.mask_tb, decide_eq_true_eq] at hi
  have := (List.getElem?_eq_some_iff.mp (PT.gl_lt hi).2).1
  rw [(h.row r hr).len] at this
  exact this
theorem e_first {k m : Nat} {L : List (List Nat)} (h : Rws m L) :
    (∃ o, PT.firstFit m (arL L) = some o ∧ run (k + 6) 23 [(.sh, bkD m L)] = .ok (.sh (ltr o)) none) ∨
    (PT.firstFit m (arL L) = none ∧ ∃ lot, PT.LotOk (L.map mskR) lot ∧ 1 ≤ lot.length ∧ lot.length ≤ m ∧ run (k + 6) 23 [(.sh, bkD m L)] = .exc ⟨6, ["lot"], [natT lot]⟩) := by
  have e : run (k + 6) 23 = runB 2 (m_23 (run (k + 5)) (run (k + 4))) := rfl
  have h6 : slots 2 [(.sh, bkD m L)] = [some (.sh, bkD m L), none] := rfl
  have h1 := e_rmasks (k := k + 2) h
  have hm : D.lst ((L.map mskR).map mkD) = mskL (L.map mskR) := rfl
  rw [hm] at h1
  have hl : (L.map mskR).length ≤ 1000 := by rw [List.length_map]; have := h.len; omega
  have hok := PT.mok_of L
  rw [e]
  rcases e_check (k := k) (m := .ro) (.inr rfl) hok hl h.below with ⟨hb, hr⟩ | ⟨hb, lot, l1, l2, l3, hr⟩
  · left
    have hc := PT.consB_iff.mp hb
    rw [h.rows] at hc
    have hc := h.cons.mp hc
    refine ⟨_, PT.first_some (PT.dj_code L) hc, of_ends ?_ (by simp)⟩
    have h2 := e_letters (k := k + 2) hok hl h.hi (by rw [h.rows]; exact PT.dj_code L) (by rw [h.rows]; exact hc)
    rw [h.rows] at h2
    rw [h6]
    simp [m_23, h1, hr, fld_m, h2, ltr, -List.map_map]
  · right
    have hn : ¬ PT.ConsW (List.range m) (arL L) := by
      intro hc
      have := PT.consB_iff.mpr (h.cons.mpr hc)
      rw [← h.rows, hb] at this
      cases this
    refine ⟨PT.first_none hn, lot, l1, l2, l3, of_ends ?_ (by simp)⟩
    rw [h6]
    simp [m_23, h1, hr]
/-! ### making a book -/
theorem run_me {n : Nat} {m : SM} {d0 d : D} {rest : List VL.Arg} {ρ : VEnv} (h : m (slots n ((.me, d0) :: rest)) = .nx ρ) (h0 : ρ[0]? = some (some (.me, d))) : runB n m ((.me, d0) :: rest) = .ok (.sh .non) (some d) := by
  unfold runB
  rw [h]
  unfold endR
  show (match ρ[0]? with
      | some (some (Md.me, d)) => DR.ok (.sh .non) (some d)
      | _ => .bad) = _
  rw [h0]
@[simp] theorem sfld_e {T : Flds} {i : Nat} {f : PySem.Str} {m : M D} {ρ : VEnv} : sFldSet T i f m ρ = (m ρ).thn (fldSet T i f) := id rfl
theorem set_m {m : Nat} {b c d e f : Slot} {v : D} : fldSet flds 0 "m" v [some (.me, .ins 7 [] []), b, c, d, e, f] = .nx [some (.me, .ins 7 ["m"] [v]), b, c, d, e, f] := by kernel_rfl
theorem set_r {b c d e f : Slot} {u v : D} : fldSet flds 0 "rows" v [some (.me, .ins 7 ["m"] [u]), b, c, d, e, f] = .nx [some (.me, .ins 7 ["m", "rows"] [u, v]), b, c, d, e, f] := by kernel_rfl
theorem e_init {k m : Nat} {L : List (List Nat)} (h : Rws m L) : run (k + 3) 9 [(.me, .ins 7 [] []), (.sh, .int (m : Nat)), (.ro, .lst (L.map .str))] = .ok (.sh .non) (some (bkD m L)) := by
  have e : run (k + 3) 9 = runB 6 (m_9 (run (k + 2)) (run (k + 1))) := rfl
  rw [e]
  have h6 : slots 6 [(.me, .ins 7 [] []), (.sh, .int (m : Nat)), (.ro, .lst (L.map .str))] = [some (.me, .ins 7 [] []), some (.sh, .int (m : Nat)), some (.ro, .lst (L.map .str)), none, none, none] := rfl
  have key : ∃ y z, m_9 (run (k + 2)) (run (k + 1)) (slots 6 [(.me, .ins 7 [] []), (.sh, .int (m : Nat)), (.ro, .lst (L.map .str))]) = .nx [some (.me, bkD m L), some (.sh, .int (m : Nat)), some (.ro, .lst (L.map .str)), some (.sh, .tup (L.map .str)), y, z] := by
    rw [h6]
    have c1 : (1 : Int) ≤ (m : Int) := by have := h.lo; omega
    have c2 : (m : Int) ≤ 6 := by have := h.hi; omega
    have c3 : ¬ (60 : Int) < L.length := by have := h.len; omega
    have c3' : ¬ 60 < L.length := by have := h.len; omega
    have c1' : 1 ≤ m := h.lo
    simp [m_9, c1, c2, c3, c3', c1', h.hi, enum_map]
    refine for_ixR (R := fun q => ∃ y z, q = SR.nx [some (.me, bkD m L), some (.sh, .int (m : Nat)), some (.ro, .lst (L.map .str)), some (.sh, .tup (L.map .str)), y, z]) L.zipIdx (fun q => .tup [.int (q.2 : Nat), .str q.1]) (fun _ ρ => ∃ y z, ρ = [some (.me, .ins 7 [] []), some (.sh, .int (m : Nat)), some (.ro, .lst (L.map .str)), some (.sh, .tup (L.map .str)), y, z]) ⟨_, _, rfl⟩ ?_ ?_
    · rintro j ⟨r, i⟩ hj ρ ⟨y, z, hρ⟩
      subst hρ
      refine ⟨[some (.me, .ins 7 [] []), some (.sh, .int (m : Nat)), some (.ro, .lst (L.map .str)), some (.sh, .tup (L.map .str)), some (.sh, .int (i : Nat)), some (.sh, .str r)], by simp, ?_⟩
      have hr : r ∈ L := by
        have := List.mem_of_getElem? hj
        have := List.mem_zipIdx_iff_getElem?.mp this
        exact List.mem_of_getElem? this
      have hi := e_isrow (k := k) (h.row r hr) h.hi
      exact ⟨[some (.me, .ins 7 [] []), some (.sh, .int (m : Nat)), some (.ro, .lst (L.map .str)), some (.sh, .tup (L.map .str)), some (.sh, .int (i : Nat)), some (.sh, .str r)], by simp [hi], _, _, rfl⟩
    · rintro ρ ⟨y, z, hρ⟩
      subst hρ
      refine ⟨y, z, ?_⟩
      simp [set_m (m := m), set_r, bkD]
  obtain ⟨y, z, hq⟩ := key
  exact run_me hq rfl
/-! ### _law_same -/
theorem isi_s {s : List Nat} {ρ : VEnv} {T : IsiT} {b : Bool} (h : T.lookup (.ty "str") = some b) : isiE T (.sh (.str s)) ρ = .ok (.sh (.bl b)) ρ := by
  show (match T.lookup (.ty "str") with
    | some t => Res.ok (Rv.sh (.bl t)) ρ
    | none => Res.bad) = _
  rw [h]
theorem isi_l {s : List D} {ρ : VEnv} {T : IsiT} {b : Bool} (h : T.lookup (.ty "list") = some b) : isiE T (.sh (.lst s)) ρ = .ok (.sh (.bl b)) ρ := by
  show (match T.lookup (.ty "list") with
    | some t => Res.ok (Rv.sh (.bl t)) ρ
    | none => Res.bad) = _
  rw [h]
theorem isi_t {s : List D} {ρ : VEnv} {T : IsiT} {b : Bool} (h : T.lookup (.ty "tuple") = some b) : isiE T (.sh (.tup s)) ρ = .ok (.sh (.bl b)) ρ := by
  show (match T.lookup (.ty "tuple") with
    | some t => Res.ok (Rv.sh (.bl t)) ρ
    | none => Res.bad) = _
  rw [h]
theorem isi_i {x : Int} {ρ : VEnv} {T : IsiT} {b : Bool} (h : T.lookup (.ty "int") = some b) : isiE T (.sh (.int x)) ρ = .ok (.sh (.bl b)) ρ := by
  show (match T.lookup (.ty "int") with
    | some t => Res.ok (Rv.sh (.bl t)) ρ
    | none => Res.bad) = _
  rw [h]
theorem isN_s {s : List Nat} : isD (.str s) .non = some (.sh (.bl false)) := rfl
theorem isN_l {s : List D} : isD (.lst s) .non = some (.sh (.bl false)) := rfl
theorem same_s {k : Nat} {a b : List Nat} (ha : sok a = true) (hb : sok b = true) : run (k + 2) 27 [(.sh, .str a), (.sh, .str b)] = .ok (.sh (.bl (decide (a = b)))) none := by
  have e : run (k + 2) 27 = runB 3 (m_27 (run (k + 1)) (run k)) := rfl
  rw [e]
  refine of_ends ?_ (by simp)
  have h6 : slots 3 [(.sh, .str a), (.sh, .str b)] = [some (.sh, .str a), some (.sh, .str b), none] := rfl
  rw [h6]
  have h1 : ∀ s ρ, isiE is_bool (.sh (.str s)) ρ = .ok (.sh (.bl false)) ρ := fun s ρ => isi_s (by rfl)
  have h2 : ∀ s ρ, isiE is_int (.sh (.str s)) ρ = .ok (.sh (.bl false)) ρ := fun s ρ => isi_s (by rfl)
  have h3 : ∀ s ρ, isiE is_str (.sh (.str s)) ρ = .ok (.sh (.bl true)) ρ := fun s ρ => isi_s (by rfl)
  simp [m_27, isN_s, h1, h2, h3, ha, hb]
theorem same_rows {k : Nat} {L : List (List Nat)} (hs : ∀ r ∈ L, sok r = true) (hl : L.length ≤ 1000) : run (k + 3) 27 [(.sh, .tup (L.map .str)), (.sh, .lst (L.map .str))] = .ok (.sh (.bl true)) none := by
  have e : run (k + 3) 27 = runB 3 (m_27 (run (k + 2)) (run (k + 1))) := rfl
  rw [e]
  refine of_ends ?_ (by simp)
  have h6 : slots 3 [(.sh, .tup (L.map .str)), (.sh, .lst (L.map .str))] = [some (.sh, .tup (L.map .str)), some (.sh, .lst (L.map .str)), none] := rfl
  rw [h6]
  have h1 : ∀ s ρ, isiE is_bool (.sh (.lst s)) ρ = .ok (.sh (.bl false)) ρ := fun s ρ => isi_l (by rfl)
  have h2 : ∀ s ρ, isiE is_int (.sh (.lst s)) ρ = .ok (.sh (.bl false)) ρ := fun s ρ => isi_l (by rfl)
  have h3 : ∀ s ρ, isiE is_str (.sh (.lst s)) ρ = .ok (.sh (.bl false)) ρ := fun s ρ => isi_l (by rfl)
  have h4 : ∀ s ρ, isiE is_tuple (.sh (.tup s)) ρ = .ok (.sh (.bl true)) ρ := fun s ρ => isi_t (by rfl)
  have rn : rng1D [.int (L.length : Nat)] = some (ups L.length) := rng_ups (by omega)
  simp [m_27, isN_l, h1, h2, h3, h4, rn, ups]
  refine for_ixR (R := fun q => VL.Ends q _) (List.range L.length) (fun j => .int (j : Nat)) (fun _ ρ => ∃ z, ρ = [some (.sh, .tup (L.map .str)), some (.sh, .lst (L.map .str)), z]) ⟨none, rfl⟩ ?_ ?_
  · rintro j x hj ρ ⟨z, hρ⟩
    subst hρ
    refine ⟨_, rfl, ?_⟩
    have hx : x < L.length := List.mem_range.mp (List.mem_of_getElem? hj)
    have x1 : ixD (.tup (L.map .str)) (.int (x : Nat)) = some (.sh (.str L[x])) := ix_t (by simp [hx])
    have x2 : ixD (.lst (L.map .str)) (.int (x : Nat)) = some (.sh (.str L[x])) := ix_l (by simp [hx])
    have hsx := hs _ (List.getElem_mem hx)
    have hq := same_s (k := k) hsx hsx
    simp at hq
    refine ⟨_, by simp [x1, x2, hq]; rfl, _, rfl⟩
  · rintro ρ ⟨z, hρ⟩
    subst hρ
    simp
end LW

set_option maxHeartbeats 200000
set_option maxHeartbeats 400000
namespace LW
open PySem PySem.Spec L2 VL
open PT (RowOk gl maskI mskR codeAR orB MOk arL)
/-- a loop that returns at the first thing that dec tells of -/
theorem ends_find {α : Type} {f : D → VEnv → Option VEnv} {b rest : SM} {dr : DR} (e : α → D) (dec : α → Option D) (Inv : VEnv → Prop) : ∀ (xs : List α),
    (∀ x ∈ xs, ∀ ρ, Inv ρ → ∃ ρ1, f (e x) ρ = some ρ1 ∧ ((dec x = none ∧ ∃ ρ2, b ρ1 = .nx ρ2 ∧ Inv ρ2) ∨ ∃ d ρ2, dec x = some d ∧ b ρ1 = .rt (.sh d) ρ2)) → (∀ ρ, Inv ρ → VL.Ends (rest ρ) dr) →
    ∀ ρ, Inv ρ → VL.Ends ((VL.forS f b (xs.map e) ρ).seq rest) (match xs.findSome? dec with
      | some d => .ok (.sh d) none
      | none => dr)
  | [], _, hend, ρ, h => hend ρ h
  | x :: xs, hs, hend, ρ, h => by
    obtain ⟨ρ1, h1, h2⟩ := hs x List.mem_cons_self ρ h
    have ih := ends_find e dec Inv xs (fun y hy => hs y (List.mem_cons_of_mem _ hy)) hend
    rw [List.map_cons]
    unfold VL.forS
    rw [h1]
    rcases h2 with ⟨d0, ρ2, h3, h4⟩ | ⟨d, ρ2, d0, h3⟩
    · simp only [h3]
      rw [List.findSome?_cons, d0]
      exact ih ρ2 h4
    · simp only [h3]
      rw [List.findSome?_cons, d0]
      exact ends_sh.mpr rfl
def decF (r : List Nat) (x : Nat) : Option D := if r[x]? = some 43 then some (.bl true) else if r[x]? = some 45 then some (.bl false) else none
theorem decF_fits {r : List Nat} : ∀ {o : List Nat}, (match o.findSome? (decF r) with
      | some d => DR.ok (.sh d) none
      | none => DR.ok (.sh (.bl true)) none) = .ok (.sh (.bl (PT.fitsA o (codeAR r)))) none
  | [] => rfl
  | x :: o => by
    rw [List.findSome?_cons, PT.fitsA]
    have ih := decF_fits (r := r) (o := o)
    by_cases h1 : r[x]? = some 43
    · have a : (codeAR r).1 x = true := decide_eq_true h1
      rw [if_pos a]
      have b : decF r x = some (.bl true) := if_pos h1
      rw [b]
    · have a : (codeAR r).1 x = false := decide_eq_false h1
      rw [if_neg (by rw [a]; simp)]
      by_cases h2 : r[x]? = some 45
      · have a2 : (codeAR r).2 x = true := decide_eq_true h2
        rw [if_pos a2]
        have b : decF r x = some (.bl false) := by unfold decF; rw [if_neg h1, if_pos h2]
        rw [b]
      · have a2 : (codeAR r).2 x = false := decide_eq_false h2
        rw [if_neg (by rw [a2]; simp)]
        have b : decF r x = none := by unfold decF; rw [if_neg h1, if_neg h2]
        rw [b]
        exact ih
theorem it_ltr {o : List Nat} : itemsD (ltr o) = some (o.map fun i => .str [65 + i]) := by
  show some ((o.map (65 + ·)).map fun c => D.str [c]) = _
  rw [List.map_map]
  rfl
theorem sok_ltr {o : List Nat} (h : ∀ x ∈ o, x < 6) : sok (o.map (65 + ·)) = true := by
  unfold sok
  rw [List.all_map, List.all_eq_true]
  intro x hx
  have := h x hx
  simp
  omega
theorem e_fits {k : Nat} {r o : List Nat} (hr : r.length ≤ 6) (hs : sok r = true) (ho : ∀ x ∈ o, x < r.length) : run (k + 2) 32 [(.sh, ltr o), (.sh, .str r)] = .ok (.sh (.bl (PT.fitsA o (codeAR r)))) none := by
  have e : run (k + 2) 32 = runB 4 (m_32 (run (k + 1)) (run k)) := rfl
  rw [e]
  refine of_ends ?_ (by simp)
  have h6 : slots 4 [(.sh, ltr o), (.sh, .str r)] = [some (.sh, ltr o), some (.sh, .str r), none, none] := rfl
  rw [h6, ← decF_fits]
  simp [m_32, it_ltr]
  refine ends_find (fun i => .str [65 + i]) (decF r) (fun ρ => ∃ y z, ρ = [some (.sh, ltr o), some (.sh, .str r), y, z]) o ?_ ?_ _ ⟨none, none, rfl⟩
  · rintro x hx ρ ⟨y, z, hρ⟩
    subst hρ
    refine ⟨_, rfl, ?_⟩
    have hxr := ho x hx
    have hc : r[x]? = some r[x] := List.getElem?_eq_getElem hxr
    have hix := ixS (s := r) (i := (x : Nat)) (k := x) (by rw [hlim]; omega) rfl hc
    have hsm : r[x] < 1000 := by
      have := List.all_eq_true.mp hs _ (List.getElem_mem hxr)
      simpa using this
    unfold decF
    rw [hc]
    generalize r[x] = c at hix hsm
    by_cases h1 : c = 43
    · right
      refine ⟨.bl true, _, by simp [h1], by simp [sabc x (by omega), hix, h1]; rfl⟩
    · by_cases h2 : c = 45
      · right
        refine ⟨.bl false, _, by simp [h2], by simp [sabc x (by omega), hix, h2]; rfl⟩
      · left
        exact ⟨by simp [h1, h2], [some (.sh, ltr o), some (.sh, .str r), some (.sh, .str [65 + x]), some (.sh, .str [c])], by simp [sabc x (by omega), hix, h1, h2, hsm], _, _, rfl⟩
  · rintro ρ ⟨y, z, hρ⟩
    subst hρ
    simp
def flipC (c : Nat) : Nat := if c = 43 then 45 else if c = 45 then 43 else 46
def flipR (r : List Nat) : List Nat := r.map flipC
theorem flip_ok {m : Nat} {r : List Nat} (h : RowOk m r) : RowOk m (flipR r) := by
  refine ⟨by unfold flipR; rw [List.length_map]; exact h.len, fun c hc => ?_⟩
  obtain ⟨d, _, rfl⟩ := List.mem_map.mp hc
  unfold flipC
  split
  · exact .inr (.inl rfl)
  · split
    · exact .inl rfl
    · exact .inr (.inr rfl)
theorem e_contrary {k : Nat} {r : List Nat} (hl : r.length ≤ 6) (hs : sok r = true) : run (k + 2) 31 [(.sh, .str r)] = .ok (.sh (.str (flipR r))) none := by
  have e : run (k + 2) 31 = runB 2 (m_31 (run (k + 1)) (run k)) := rfl
  rw [e]
  refine of_ends ?_ (by simp)
  have h6 : slots 2 [(.sh, .str r)] = [some (.sh, .str r), none] := rfl
  rw [h6]
  have hlc := lc_map (ρ := [some (.sh, .str r), none]) (mi := ((((mFrz 0)).bind srcM))) (f := tgName 1) (tt := VL.M.pure true) (te := (((mIf (((mBin eqD ((mVar 1)) (mCst (.str [43]))).bind asB)) (mCst (.str [45])) ((mIf (((mBin eqD ((mVar 1)) (mCst (.str [45]))).bind asB)) (mCst (.str [43])) (mCst (.str [46])))))).bind shR)) (vs := [1])
    r (fun c => .str [c]) (fun _ => true) (fun c => .str [flipC c]) (by simp) (by rw [hlim]; omega) (by
      intro c hc
      have hsm : c < 1000 := by
        have := List.all_eq_true.mp hs _ hc
        simpa using this
      refine ⟨_, rfl, _, rfl, [some (.sh, .str r), some (.sh, .str [c])], ?_, rfl⟩
      by_cases h1 : c = 43
      · simp [wipeE, h1, flipC]
      · by_cases h2 : c = 45
        · simp [wipeE, h2, flipC]
        · simp [wipeE, h1, h2, hsm, flipC])
  rw [filt_t] at hlc
  have hz : r.map (fun c => D.str [flipC c]) = (flipR r).map fun c => D.str [c] := by
    unfold flipR
    rw [List.map_map]
    rfl
  rw [hz] at hlc
  have hj := joinN (flipR r) (by rw [hlim]; unfold flipR; rw [List.length_map]; omega)
  simp [m_31, hlc, hj, -List.map_map]
theorem e_all {k m : Nat} {o : List Nat} {L : List (List Nat)} (h : Rws m L) (ho : ∀ x ∈ o, x < m) : run (k + 3) 35 [(.sh, ltr o), (.sh, .lst (L.map .str))] = .ok (.sh (.bl (PT.fitsAll o (arL L)))) none := by
  have e : run (k + 3) 35 = runB 3 (m_35 (run (k + 2)) (run (k + 1))) := rfl
  rw [e]
  refine of_ends ?_ (by simp)
  have h6 : slots 3 [(.sh, ltr o), (.sh, .lst (L.map .str))] = [some (.sh, ltr o), some (.sh, .lst (L.map .str)), none] := rfl
  rw [h6]
  have hx : PT.fitsAll o (arL L) = L.all fun r => PT.fitsA o (codeAR r) := by
    unfold PT.fitsAll arL
    rw [List.all_map]
    rfl
  rw [hx]
  simp [m_35]
  refine ends_chk L D.str (fun r => PT.fitsA o (codeAR r)) (fun ρ => ∃ z, ρ = [some (.sh, ltr o), some (.sh, .lst (L.map .str)), z]) ?_ ?_ _ ⟨none, rfl⟩
  · rintro r hr ρ ⟨z, hρ⟩
    subst hρ
    refine ⟨_, rfl, ?_⟩
    have hrow := h.row r hr
    have hf := e_fits (k := k) (h.l6 r hr) (row_sok hrow) (o := o) (by rw [hrow.len]; exact ho)
    cases hb : PT.fitsA o (codeAR r) with
    | true => rw [hb] at hf; simp [hf]
    | false => rw [hb] at hf; simp [hf]
  · rintro ρ ⟨z, hρ⟩
    subst hρ
    simp
theorem e_firstL {k m : Nat} {os : List (List Nat)} {L : List (List Nat)} (h : Rws m L) (ho : ∀ o ∈ os, ∀ x ∈ o, x < m) : run (k + 4) 36 [(.ro, .lst (os.map ltr)), (.sh, .lst (L.map .str))] = .ok (.sh (match os.find? fun o => PT.fitsAll o (arL L) with
      | some o => ltr o
      | none => .str [])) none := by
  have e : run (k + 4) 36 = runB 3 (m_36 (run (k + 3)) (run (k + 2))) := rfl
  rw [e]
  refine of_ends ?_ (by simp)
  have h6 : slots 3 [(.ro, .lst (os.map ltr)), (.sh, .lst (L.map .str))] = [some (.ro, .lst (os.map ltr)), some (.sh, .lst (L.map .str)), none] := rfl
  rw [h6]
  have hx : (DR.ok (.sh (match os.find? fun o => PT.fitsAll o (arL L) with
      | some o => ltr o
      | none => .str [])) none) = (match os.findSome? (fun o => if PT.fitsAll o (arL L) = true then some (ltr o) else none) with
      | some d => DR.ok (.sh d) none
      | none => DR.ok (.sh (.str [])) none) := by
    clear h6 e ho
    induction os with
    | nil => rfl
    | cons o os ih =>
      rw [List.find?_cons, List.findSome?_cons]
      cases hb : PT.fitsAll o (arL L) with
      | true => simp
      | false => simpa using ih
  rw [hx]
  simp [m_36]
  refine ends_find ltr (fun o => if PT.fitsAll o (arL L) = true then some (ltr o) else none) (fun ρ => ∃ z, ρ = [some (.ro, .lst (os.map ltr)), some (.sh, .lst (L.map .str)), z]) os ?_ ?_ _ ⟨none, rfl⟩
  · rintro o ho2 ρ ⟨z, hρ⟩
    subst hρ
    refine ⟨_, rfl, ?_⟩
    have hf := e_all (k := k) h (ho o ho2)
    cases hb : PT.fitsAll o (arL L) with
    | true =>
      rw [hb] at hf
      exact .inr ⟨ltr o, _, by simp, by simp [hf]; rfl⟩
    | false =>
      rw [hb] at hf
      exact .inl ⟨by simp, _, by simp [hf]; rfl, _, rfl⟩
  · rintro ρ ⟨z, hρ⟩
    subst hρ
    simp
theorem e_marked {k : Nat} {r is : List Nat} {c : Nat} (hr : r.length ≤ 6) (hs : sok r = true) (ho : ∀ x ∈ is, x < r.length) (hc : c < 1000) : run (k + 2) 37 [(.sh, .str r), (.sh, ltr is), (.sh, .str [c])] = .ok (.sh (.bl (is.any fun i => decide (r[i]? = some c)))) none := by
  have e : run (k + 2) 37 = runB 4 (m_37 (run (k + 1)) (run k)) := rfl
  rw [e]
  refine of_ends ?_ (by simp)
  have h6 : slots 4 [(.sh, .str r), (.sh, ltr is), (.sh, .str [c])] = [some (.sh, .str r), some (.sh, ltr is), some (.sh, .str [c]), none] := rfl
  rw [h6]
  have hx : (DR.ok (.sh (.bl (is.any fun i => decide (r[i]? = some c)))) none) = (match is.findSome? (fun i => if r[i]? = some c then some (D.bl true) else none) with
      | some d => DR.ok (.sh d) none
      | none => DR.ok (.sh (.bl false)) none) := by
    clear h6 e ho
    induction is with
    | nil => rfl
    | cons o os ih =>
      rw [List.any_cons, List.findSome?_cons]
      by_cases hb : r[o]? = some c
      · simp [hb]
      · simpa [hb] using ih
  rw [hx]
  simp [m_37, it_ltr]
  refine ends_find (fun i => .str [65 + i]) (fun i => if r[i]? = some c then some (D.bl true) else none) (fun ρ => ∃ z, ρ = [some (.sh, .str r), some (.sh, ltr is), some (.sh, .str [c]), z]) is ?_ ?_ _ ⟨none, rfl⟩
  · rintro x hx ρ ⟨z, hρ⟩
    subst hρ
    refine ⟨_, rfl, ?_⟩
    have hxr := ho x hx
    have hcx : r[x]? = some r[x] := List.getElem?_eq_getElem hxr
    have hix := ixS (s := r) (i := (x : Nat)) (k := x) (by rw [hlim]; omega) rfl hcx
    have hsm : r[x] < 1000 := by
      have := List.all_eq_true.mp hs _ (List.getElem_mem hxr)
      simpa using this
    rw [hcx]
    generalize r[x] = d at hix hsm
    by_cases h1 : d = c
    · right
      refine ⟨.bl true, _, by simp [h1], by simp [sabc x (by omega), hix, h1, hc]; rfl⟩
    · left
      refine ⟨by simp [h1], _, by simp [sabc x (by omega), hix, h1, hsm, hc]; rfl, _, rfl⟩
  · rintro ρ ⟨z, hρ⟩
    subst hρ
    simp
end LW

set_option maxHeartbeats 200000
set_option maxHeartbeats 400000
namespace LW
open PySem PySem.Spec L2 VL
open PT (RowOk gl maskI mskR codeAR orB MOk arL)
/-! ### lists of texts -/
theorem toPys_str (xs : List (List Nat)) : toPys (xs.map D.str) = some (xs.map fun s => PyData.str (toS s)) := by
  induction xs with
  | nil => rfl
  | cons x r ih => simp [toPys, toPy, ih]
theorem lay_strs {xs : List (List Nat)} (h : ∀ s ∈ xs, sok s = true) : PyData.canLayAll0 (xs.map fun s => PyData.str (toS s)) = true := by
  induction xs with
  | nil => rfl
  | cons x r ih =>
    have h1 := shS (h x List.mem_cons_self)
    have h2 : PyData.canLay0 (.str (toS x)) = true := by
      unfold SeqAt.shaped at h1
      exact (Bool.and_eq_true_iff.mp h1).1
    simp [PyData.canLayAll0, h2, ih fun s hs => h s (List.mem_cons_of_mem _ hs)]
theorem dep_strs (xs : List (List Nat)) : PyData.depthAll (xs.map fun s => PyData.str (toS s)) ≤ 1 := by
  induction xs with
  | nil => simp [PyData.depthAll]
  | cons x r ih => simp [PyData.depthAll, PyData.depth] at ih ⊢; omega
theorem sh_strs {xs : List (List Nat)} (h : ∀ s ∈ xs, sok s = true) : SeqAt.shaped (.list (xs.map fun s => PyData.str (toS s))) = true := by
  have h1 := dep_strs xs
  have h2 := lay_strs h
  simp [SeqAt.shaped, PyData.canLay0, PyData.depth, h2]
  omega
theorem eq_nil {xs : List (List Nat)} (h : ∀ s ∈ xs, sok s = true) : eqD (.lst (xs.map D.str)) (.lst []) = some (.sh (.bl (decide (xs = [])))) := by
  unfold eqD eqB
  have h1 : toPy (.lst (xs.map D.str)) = some (.list (xs.map fun s => PyData.str (toS s))) := by simp [toPy, toPys_str]
  have h2 : toPy (.lst []) = some (.list []) := rfl
  have h3 : SeqAt.shaped (.list []) = true := sh_strs (xs := []) (by simp)
  rw [h1, h2]
  simp only [sh_strs h, h3, and_self, if_true, Option.map_some]
  cases xs <;> simp [PyData.eqv, PyData.eqvAll]
/-! ### _law_peel -/
def freeC (Lc : List (List Nat)) (x : Nat) : Bool := PT.free (arL Lc) x
theorem free_iff {Lc : List (List Nat)} {x : Nat} : decide ((Lc.filter fun r => decide (r[x]? = some 45)) = []) = freeC Lc x := by
  unfold freeC PT.free arL
  rw [List.all_map, Bool.eq_iff_iff, decide_eq_true_eq, List.filter_eq_nil_iff, List.all_eq_true]
  constructor
  · intro h r hr
    have := h r hr
    show (!(codeAR r).2 x) = true
    unfold codeAR
    simpa using this
  · intro h r hr
    have : (!(codeAR r).2 x) = true := h r hr
    unfold codeAR at this
    simpa using this
theorem foldl_filter {p : Nat → Bool} : ∀ {xs acc : List Nat}, xs.foldl (fun f x => if p x = true then f ++ [x] else f) acc = acc ++ xs.filter p
  | [], acc => by simp
  | x :: xs, acc => by
    rw [List.foldl_cons]
    cases h : p x with
    | true => simp [foldl_filter, h]
    | false => simp [foldl_filter, h]
def keepC (F : List Nat) (Lc : List (List Nat)) : List (List Nat) := Lc.filter fun r => !(F.any fun i => decide (r[i]? = some 43))
theorem keepC_ar {W : List Nat} {Lc : List (List Nat)} : arL (keepC (PT.freeW W (arL Lc)) Lc) = PT.keepL W (arL Lc) := by
  unfold keepC PT.keepL
  generalize PT.freeW W (arL Lc) = F
  unfold arL
  rw [List.filter_map]
  congr 1
  apply List.filter_congr
  intro r _
  show (!F.any fun i => decide (r[i]? = some 43)) = F.all fun x => !(codeAR r).1 x
  rw [List.not_any_eq_all_not]
  rfl
def peE (m : Nat) (L Lc : List (List Nat)) (lm : Md) (W : List Nat) (ds : List D) (a b c d : Slot) : VEnv := [some (.sh, .int (m : Nat)), some (.sh, .lst (L.map .str)), some (lm, .lst (Lc.map .str)), some (.sh, ltr W), some (.ow, .lst ds), a, b, c, d]
def Vs (s : Slot) : Prop := s = none ∨ ∃ d, s = some (.sh, d)
theorem x0 {a : D} {xs : List D} : ixD (.tup (a :: xs)) (.int 0) = some (.sh a) := ix_t (k := 0) rfl
theorem x1 {a b : D} {xs : List D} : ixD (.tup (a :: b :: xs)) (.int 1) = some (.sh b) := ix_t (k := 1) rfl
theorem Vs.sh {d : D} : Vs (some (.sh, d)) := .inr ⟨d, rfl⟩
theorem Vs.keep {s : Slot} (h : Vs s) : keepS (some s) = s := by rcases h with rfl | ⟨d, rfl⟩ <;> rfl
theorem abc_cut : ∀ {m : Nat}, m ≤ 6 → cutL [65, 66, 67, 68, 69, 70] none (some ((m : Nat) : Int)) = (List.range m).map (65 + ·)
  | 0, _ => rfl
  | 1, _ => rfl
  | 2, _ => rfl
  | 3, _ => rfl
  | 4, _ => rfl
  | 5, _ => rfl
  | 6, _ => rfl
def PeR (m : Nat) (L : List (List Nat)) (q : SR) : Prop := ∃ ds b, (b = true ↔ PT.ConsW (List.range m) (arL L)) ∧ VL.Ends q (.ok (.sh (.tup [.lst ds, .bl b])) none)
theorem e_peel {k m : Nat} {L : List (List Nat)} (h : Rws m L) : ∃ ds b, (b = true ↔ PT.ConsW (List.range m) (arL L)) ∧ run (k + 3) 38 [(.sh, .int (m : Nat)), (.sh, .lst (L.map .str))] = .ok (.sh (.tup [.lst ds, .bl b])) none := by
  have e : run (k + 3) 38 = runB 9 (m_38 (run (k + 2)) (run (k + 1))) := rfl
  rw [e]
  have h6 : slots 9 [(.sh, .int (m : Nat)), (.sh, .lst (L.map .str))] = [some (.sh, .int (m : Nat)), some (.sh, .lst (L.map .str)), none, none, none, none, none, none, none] := rfl
  have key : PeR m L (m_38 (run (k + 2)) (run (k + 1)) (slots 9 [(.sh, .int (m : Nat)), (.sh, .lst (L.map .str))])) := by
    rw [h6]
    have hlo := h.lo
    have hhi := h.hi
    have hlen := h.len
    have rn : rng1D [.int (m : Nat)] = some (ups m) := rng_ups (by omega)
    have hab := abc_cut (m := m) hhi
    have hsl : ∀ lo hi, sliceD (.str [65, 66, 67, 68, 69, 70]) lo hi = some (.sh (.str (cutL [65, 66, 67, 68, 69, 70] lo hi))) := fun lo hi => sliceS (by rw [hlim]; decide)
    have l2 : (2 : Nat) ≤ lim := by rw [hlim]; omega
    simp [m_38, hsl, hab, rn, ups, -List.map_map]
    refine for_ixR (R := PeR m L) (List.range m) (fun j => .int (j : Nat)) (fun j ρ => ∃ Lc W ds a b c d, ρ = peE m L Lc .ow W ds a b c d ∧ PT.peelN (m - j) W (arL Lc) = PT.peelN m (List.range m) (arL L) ∧ (∀ x ∈ W, x < m) ∧ (∀ r ∈ Lc, r ∈ L) ∧ Lc.length ≤ 60 ∧ W.length ≤ m ∧ ds.length ≤ j ∧ j ≤ m ∧ Vs c ∧ Vs d) ⟨L, List.range m, [], none, none, none, none, rfl, rfl, fun x hx => List.mem_range.mp hx, fun r hr => hr, hlen, by simp, by simp, by omega, .inl rfl, .inl rfl⟩ ?_ ?_
    · rintro j x hj ρ ⟨Lc, W, ds, a, b, c, d, hρ, hp, hW, hL, hLl, hWl, hds, hjm, hc, hd⟩
      subst hρ
      refine ⟨_, rfl, ?_⟩
      have hjm : j < m := by
        have := (List.getElem?_eq_some_iff.mp hj).1
        simpa using this
      have hrow : ∀ r ∈ Lc, RowOk m r := fun r hr => h.row r (hL r hr)
      have hW6 : ∀ x ∈ W, x < 6 := fun x hx => by have := hW x hx; omega
      -- the rules that are free
      have hlcI : ∀ (lm : Md) (y : Nat) (a b d : Slot), y < m → (lm = .ow ∨ lm = .sh) → Vs d → (VL.lcM (((mFrz 2)).bind srcM) (tgName 8) ((((mUser ((run (k + 2)) 37) 3 [] (mCons ((mVar 8)) (mCons ((mVar 7)) (mCons (mCst (.str [45])) (VL.M.pure [])))))).bind mTruth)) (((mFrz 8)).bind shR) [8]) (peE m L Lc lm W ds a b (some (.sh, .str [65 + y])) d) = .ok (.tm (.lst ((Lc.filter fun r => decide (r[y]? = some 45)).map .str))) (peE m L Lc .sh W ds a b (some (.sh, .str [65 + y])) d) := by
        intro lm y a b d hy hlm hd
        refine lc_mapF (ρ := peE m L Lc .sh W ds a b (some (.sh, .str [65 + y])) d) Lc D.str (fun r => decide (r[y]? = some 45)) D.str (by rcases hlm with rfl | rfl <;> simp [peE]) (by rw [hlim]; omega) ?_
        intro r hr
        have hro := hrow r hr
        have hm := e_marked (k := k) (r := r) (is := [y]) (c := 45) (by have := hro.len; omega) (row_sok hro) (by intro x hx; rw [List.mem_singleton.mp hx, hro.len]; exact hy) (by omega)
        have hl1 : ltr [y] = .str [65 + y] := rfl
        rw [hl1, List.any_cons, List.any_nil, Bool.or_false] at hm
        refine ⟨_, rfl, _, by simp [peE, wipeE, hm, -decide_eq_true_eq]; rfl, ?_⟩
        split
        · exact ⟨_, by simp; rfl, by rcases hd with rfl | ⟨d, rfl⟩ <;> rfl⟩
        · rcases hd with rfl | ⟨d, rfl⟩ <;> rfl
      have hinner : ∃ ρ2, VL.forS (tgName 7) (sSeq (sIf (((mBin eqD ((lcM ((((mFrz 2)).bind srcM)) (tgName 8) ((((mUser ((run (k + 2)) 37) 3 [] (mCons ((mVar 8)) (mCons ((mVar 7)) (mCons (mCst (.str [45])) (VL.M.pure [])))))).bind mTruth)) (((mFrz 8)).bind shR) [8])) ((mLst (VL.M.pure []))))).bind asB) (sSeq (sSet 6 ((mBin addD ((mVar 6)) ((mVar 7)))))
  (sNext)) (sNext))
  (sNext)) (W.map fun i => D.str [65 + i]) (peE m L Lc .ow W ds (some (.sh, .int (x : Nat))) (some (.sh, .str [])) c d) = .nx ρ2 ∧ ∃ lm c2 d2, ρ2 = peE m L Lc lm W ds (some (.sh, .int (x : Nat))) (some (.sh, ltr (PT.freeW W (arL Lc)))) c2 d2 ∧ (lm = .ow ∨ lm = .sh) ∧ Vs c2 ∧ Vs d2 := by
        have q := for_all (f := tgName 7) (b := (sSeq (sIf (((mBin eqD ((lcM ((((mFrz 2)).bind srcM)) (tgName 8) ((((mUser ((run (k + 2)) 37) 3 [] (mCons ((mVar 8)) (mCons ((mVar 7)) (mCons (mCst (.str [45])) (VL.M.pure [])))))).bind mTruth)) (((mFrz 8)).bind shR) [8])) ((mLst (VL.M.pure []))))).bind asB) (sSeq (sSet 6 ((mBin addD ((mVar 6)) ((mVar 7)))))
  (sNext)) (sNext))
  (sNext))) (ρ := peE m L Lc .ow W ds (some (.sh, .int (x : Nat))) (some (.sh, .str [])) c d) W (fun i => D.str [65 + i]) (fun j ρ => ∃ lm c2 d2, ρ = peE m L Lc lm W ds (some (.sh, .int (x : Nat))) (some (.sh, ltr ((W.take j).filter (freeC Lc)))) c2 d2 ∧ (lm = .ow ∨ lm = .sh) ∧ Vs c2 ∧ Vs d2) ?_ ⟨.ow, c, d, rfl, .inl rfl, hc, hd⟩
        · obtain ⟨ρ2, e1, lm, c2, d2, e2, e3⟩ := q
          rw [List.take_length] at e2
          exact ⟨ρ2, e1, lm, c2, d2, e2, e3⟩
        · rintro i y hy ρ ⟨lm, c2, d2, hρ, hlm, hc2, hd2⟩
          subst hρ
          have hyW : y ∈ W := List.mem_of_getElem? hy
          have htk : (W.take (i + 1)).filter (freeC Lc) = (W.take i).filter (freeC Lc) ++ (if freeC Lc y = true then [y] else []) := by
            have h1 : (some y).toList = [y] := rfl
            have h2 : ([y] : List Nat).filter (freeC Lc) = if freeC Lc y = true then [y] else [] := by rw [List.filter_cons, List.filter_nil]
            rw [List.take_succ, hy, List.filter_append, h1, h2]
          have hfl : ((W.take i).filter (freeC Lc)).length ≤ 6 := by
            have h1 := List.length_filter_le (freeC Lc) (W.take i)
            rw [List.length_take] at h1
            have h2 := Nat.min_le_right i W.length
            omega
          rw [htk]
          generalize (W.take i).filter (freeC Lc) = f at hfl
          refine ⟨peE m L Lc lm W ds (some (.sh, .int (x : Nat))) (some (.sh, ltr f)) (some (.sh, .str [65 + y])) d2, rfl, ?_⟩
          have hq := hlcI lm y (some (.sh, .int (x : Nat))) (some (.sh, ltr f)) d2 (hW y hyW) hlm hd2
          have hen := eq_nil (xs := Lc.filter fun r => decide (r[y]? = some 45)) (fun s hs => row_sok (hrow s (List.mem_filter.mp hs).1))
          rw [free_iff] at hen
          have had := addS (s := f.map (65 + ·)) (t := [65 + y]) (by rw [hlim]; simp; omega)
          generalize (Lc.filter fun r => decide (r[y]? = some 45)) = fw at hq hen
          cases hfr : freeC Lc y with
          | true =>
            rw [hfr] at hen
            refine ⟨peE m L Lc .sh W ds (some (.sh, .int (x : Nat))) (some (.sh, ltr (f ++ [y]))) (some (.sh, .str [65 + y])) d2, ?_, .sh, _, d2, rfl, .inr rfl, Vs.sh, hd2⟩
            unfold peE ltr at hq ⊢
            simp [hq, hen, had, -List.map_map]
          | false =>
            rw [hfr] at hen
            refine ⟨peE m L Lc .sh W ds (some (.sh, .int (x : Nat))) (some (.sh, ltr f)) (some (.sh, .str [65 + y])) d2, ?_, .sh, _, d2, by rw [if_neg (by simp), List.append_nil], .inr rfl, Vs.sh, hd2⟩
            unfold peE ltr at hq ⊢
            simp [hq, hen, -List.map_map]
      obtain ⟨ρ2, hin, lm, c2, d2, hρ2, hlm, hc2, hd2⟩ := hinner
      subst hρ2
      have hFW : ∀ y ∈ PT.freeW W (arL Lc), y ∈ W := fun y hy => (List.mem_filter.mp hy).1
      have hrest : W.filter (fun y => !decide (65 + y ∈ (PT.freeW W (arL Lc)).map (65 + ·))) = PT.restW W (arL Lc) := by
        unfold PT.restW
        apply List.filter_congr
        intro y hy
        rw [Bool.eq_iff_iff]
        have : 65 + y ∈ (PT.freeW W (arL Lc)).map (65 + ·) ↔ PT.free (arL Lc) y = true := by
          rw [List.mem_map]
          constructor
          · rintro ⟨z, hz, he⟩
            have he : 65 + z = 65 + y := he
            have : z = y := by omega
            subst this
            exact (List.mem_filter.mp hz).2
          · intro hf
            exact ⟨y, List.mem_filter.mpr ⟨hy, hf⟩, rfl⟩
        simp [this]
      have hkeep := keepC_ar (W := W) (Lc := Lc)
      have hFl : (PT.freeW W (arL Lc)).length ≤ 6 := by
        have := List.length_filter_le (PT.free (arL Lc)) W
        unfold PT.freeW
        omega
      have hpn : PT.peelN (m - (j + 1)) (PT.restW W (arL Lc)) (PT.keepL W (arL Lc)) = PT.peelN m (List.range m) (arL L) := by
        rw [← hp]
        have : m - j = (m - (j + 1)) + 1 := by omega
        rw [this]
        rfl
      have hrl : (PT.restW W (arL Lc)).length ≤ m := by
        have := List.length_filter_le (fun x => !PT.free (arL Lc) x) W
        unfold PT.restW
        omega
      have hrW : ∀ y ∈ PT.restW W (arL Lc), y < m := fun y hy => hW y (List.mem_filter.mp hy).1
      have hFm : ∀ y ∈ PT.freeW W (arL Lc), y < m := fun y hy => hW y (hFW y hy)
      generalize PT.freeW W (arL Lc) = F at hFW hrest hkeep hFl hin hFm
      generalize PT.restW W (arL Lc) = W2 at hrest hpn hrl hrW
      have hsF : sok (F.map (65 + ·)) = true := sok_ltr fun y hy => by have := hFm y hy; omega
      -- the rest of the names
      have lc3 : ∀ (ds2 : List D) (a c d : Slot), Vs c → (VL.lcM (((mFrz 3)).bind srcM) (tgName 7) (((mBin notInD ((mVar 7)) ((mVar 6))).bind asB)) (((mFrz 7)).bind shR) [7]) (peE m L Lc lm W ds2 a (some (.sh, ltr F)) c d) = .ok (.tm (.lst ((W2.map (65 + ·)).map fun c => .str [c]))) (peE m L Lc lm W ds2 a (some (.sh, ltr F)) c d) := by
        intro ds2 a c d hc
        have q := lc_map (ρ := peE m L Lc lm W ds2 a (some (.sh, ltr F)) c d) (mi := (((mFrz 3)).bind srcM)) (f := tgName 7) (tt := (((mBin notInD ((mVar 7)) ((mVar 6))).bind asB))) (te := (((mFrz 7)).bind shR)) (vs := [7])
          W (fun i => D.str [65 + i]) (fun y => !decide (65 + y ∈ F.map (65 + ·))) (fun i => D.str [65 + i]) (by simp [peE, it_ltr]) (by rw [hlim]; omega) (by
            intro y hy
            refine ⟨_, rfl, _, by unfold peE ltr; simp [wipeE, -List.mem_map, -decide_eq_true_eq]; rfl, ?_⟩
            split
            · exact ⟨_, by simp; rfl, by rcases hc with rfl | ⟨d, rfl⟩ <;> rfl⟩
            · rcases hc with rfl | ⟨d, rfl⟩ <;> rfl)
        rw [hrest] at q
        rw [q, List.map_map]
        rfl
      have hjn := joinN (W2.map (65 + ·)) (by rw [hlim, List.length_map]; omega)
      have lc4 : ∀ (ds2 : List D) (a c d : Slot), Vs d → (VL.lcM (((mFrz 2)).bind srcM) (tgName 8) ((mNot ((((mUser ((run (k + 2)) 37) 3 [] (mCons ((mVar 8)) (mCons ((mVar 6)) (mCons (mCst (.str [43])) (VL.M.pure [])))))).bind mTruth)))) (((mFrz 8)).bind shR) [8]) (peE m L Lc lm W2 ds2 a (some (.sh, ltr F)) c d) = .ok (.tm (.lst ((keepC F Lc).map .str))) (peE m L Lc .sh W2 ds2 a (some (.sh, ltr F)) c d) := by
        intro ds2 a c d hd
        refine lc_mapF (ρ := peE m L Lc .sh W2 ds2 a (some (.sh, ltr F)) c d) Lc D.str (fun r => !(F.any fun i => decide (r[i]? = some 43))) D.str (by rcases hlm with rfl | rfl <;> simp [peE]) (by rw [hlim]; omega) ?_
        intro r hr
        have hro := hrow r hr
        have hm := e_marked (k := k) (r := r) (is := F) (c := 43) (by have := hro.len; omega) (row_sok hro) (by intro x hx; rw [hro.len]; exact hFm x hx) (by omega)
        cases hb : (F.any fun i => decide (r[i]? = some 43)) with
        | true =>
          rw [hb] at hm
          refine ⟨_, rfl, _, by simp [peE, wipeE, hm]; rfl, ?_⟩
          rw [if_neg (by simp)]
          rcases hd with rfl | ⟨d, rfl⟩ <;> rfl
        | false =>
          rw [hb] at hm
          refine ⟨_, rfl, _, by simp [peE, wipeE, hm]; rfl, ?_⟩
          rw [if_pos (by simp)]
          exact ⟨_, by simp; rfl, by rcases hd with rfl | ⟨d, rfl⟩ <;> rfl⟩
      have hkl : (keepC F Lc).length ≤ 60 := Nat.le_trans (List.length_filter_le _ _) hLl
      have hkL : ∀ r ∈ keepC F Lc, r ∈ L := fun r hr => hL r (List.mem_filter.mp hr).1
      rw [← hkeep] at hpn
      generalize keepC F Lc = L2 at lc4 hkl hkL hpn
      unfold peE ltr at hin lc3 lc4
      have go : ∀ ds2 : List D, ds2.length ≤ j + 1 → ∃ Lc W ds a b c d, peE m L L2 .ow W2 ds2 (some (.sh, .int (x : Nat))) (some (.sh, ltr F)) c2 d2 = peE m L Lc .ow W ds a b c d ∧ PT.peelN (m - (j + 1)) W (arL Lc) = PT.peelN m (List.range m) (arL L) ∧ (∀ x ∈ W, x < m) ∧ (∀ r ∈ Lc, r ∈ L) ∧ Lc.length ≤ 60 ∧ W.length ≤ m ∧ ds.length ≤ j + 1 ∧ j + 1 ≤ m ∧ Vs c ∧ Vs d := fun ds2 h2 => ⟨L2, W2, ds2, _, _, _, _, rfl, hpn, hrW, hkL, hkl, hrl, h2, by omega, hc2, hd2⟩
      have hW0 : (W.map (65 + ·)).map (fun c => D.str [c]) = W.map fun i => D.str [65 + i] := by rw [List.map_map]; rfl
      by_cases hF0 : F = []
      · have h3 := lc3 ds (some (.sh, .int (x : Nat))) c2 d2 hc2
        have h4 := lc4 ds (some (.sh, .int (x : Nat))) c2 d2 hd2
        have hne : neD (.str (F.map (65 + ·))) (.str []) = some (.sh (.bl false)) := by rw [ne_s hsF rfl, hF0]; rfl
        refine ⟨peE m L L2 .ow W2 ds (some (.sh, .int (x : Nat))) (some (.sh, ltr F)) c2 d2, ?_, go ds (by omega)⟩
        unfold peE ltr
        simp [hW0, hin, hne, h3, h4, hjn, -List.map_map, -ne_s]
      · have hap : appendW (.lst ds) [.str (F.map (65 + ·))] = some (.lst (ds ++ [.str (F.map (65 + ·))]), .non) := app_l (by rw [hlim]; omega)
        have h3 := lc3 (ds ++ [.str (F.map (65 + ·))]) (some (.sh, .int (x : Nat))) c2 d2 hc2
        have h4 := lc4 (ds ++ [.str (F.map (65 + ·))]) (some (.sh, .int (x : Nat))) c2 d2 hd2
        have hne : neD (.str (F.map (65 + ·))) (.str []) = some (.sh (.bl true)) := by rw [ne_s hsF rfl]; simp [hF0]
        refine ⟨peE m L L2 .ow W2 (ds ++ [.str (F.map (65 + ·))]) (some (.sh, .int (x : Nat))) (some (.sh, ltr F)) c2 d2, ?_, go _ (by simp; omega)⟩
        unfold peE ltr
        simp [hW0, hin, hne, h3, h4, hjn, hap, -List.map_map, -ne_s]
    · rintro ρ ⟨Lc, W, ds, a, b, c, d, hρ, hp, hW, hL, hLl, hWl, hds, hjm, hc, hd⟩
      rw [List.length_range, Nat.sub_self] at hp
      subst hρ
      refine ⟨ds, decide (W = []), ?_, ?_⟩
      · rw [decide_eq_true_eq]
        have := PT.peel_cons (n := m) (PT.dj_code L) (W := List.range m) (by simp)
        unfold arL at this hp
        rw [← hp] at this
        exact this
      · have hsW : sok (W.map (65 + ·)) = true := sok_ltr fun x hx => by have := hW x hx; omega
        simp [peE, ltr, hsW, l2]
  obtain ⟨ds, b, h1, h2⟩ := key
  exact ⟨ds, b, h1, of_ends h2 (by simp)⟩
end LW

set_option maxHeartbeats 200000
set_option maxHeartbeats 400000
namespace LW
open PySem PySem.Spec L2 VL
open PT (RowOk gl maskI mskR codeAR orB MOk arL)
@[simp] theorem it_nT {xs : List Nat} : itemsD (natT xs) = some (xs.map fun n => .int (n : Nat)) := id rfl
def pickL (L : List (List Nat)) (js : List Nat) : List (List Nat) := js.map fun j => L.getD j []
theorem rws_pick {m : Nat} {L : List (List Nat)} (h : Rws m L) {js : List Nat} (hj : ∀ j ∈ js, j < L.length) (hl : js.length ≤ 60) : Rws m (pickL L js) := by
  refine ⟨h.lo, h.hi, by unfold pickL; rw [List.length_map]; exact hl, fun r hr => ?_⟩
  obtain ⟨j, hj2, rfl⟩ := List.mem_map.mp hr
  have := hj j hj2
  refine h.row _ ?_
  simp [this]
theorem pick_ar {m : Nat} {L : List (List Nat)} (h : Rws m L) {js : List Nat} (hj : ∀ j ∈ js, j < L.length) : arL (pickL L js) = PT.rowsM (L.map mskR) js := by
  unfold arL pickL PT.rowsM
  rw [List.map_map]
  apply List.map_congr_left
  intro j hj2
  have hl := hj j hj2
  have h1 : (L.map mskR).getD j (0, 0) = mskR L[j] := by simp [hl]
  have h2 : L.getD j [] = L[j] := by simp [hl]
  show codeAR (L.getD j []) = PT.mAR _
  rw [h1, h2, PT.mskR_AR (h.l6 _ (List.getElem_mem hl))]
theorem pick_d {L : List (List Nat)} {js : List Nat} : D.lst (js.map fun j => D.str (L.getD j [])) = .lst ((pickL L js).map .str) := by
  unfold pickL
  rw [List.map_map]
  rfl
theorem ix_row {L : List (List Nat)} {j : Nat} (h : j < L.length) : ixD (.lst (L.map .str)) (.int (j : Nat)) = some (.sh (.str (L.getD j []))) := by
  rw [ix_l (d := .str (L.getD j []))]
  simp [h]
theorem e_right {k m : Nat} {L : List (List Nat)} (h : Rws m L) {lot : List Nat} (hk : PT.LotOk (L.map mskR) lot) (l1 : 1 ≤ lot.length) (l2 : lot.length ≤ m) : run (k + 4) 39 [(.sh, .int (m : Nat)), (.sh, .lst (L.map .str)), (.sh, natT lot)] = .ok (.sh (.bl true)) none := by
  have e : run (k + 4) 39 = runB 6 (m_39 (run (k + 3)) (run (k + 2))) := rfl
  rw [e]
  refine of_ends ?_ (by simp)
  have h6 : slots 6 [(.sh, .int (m : Nat)), (.sh, .lst (L.map .str)), (.sh, natT lot)] = [some (.sh, .int (m : Nat)), some (.sh, .lst (L.map .str)), some (.sh, natT lot), none, none, none] := rfl
  rw [h6]
  have hhi := h.hi
  have hjl : ∀ j ∈ lot, j < L.length := fun j hj => by
    have := List.mem_range.mp (hk.sub.subset hj)
    rwa [List.length_map] at this
  have hpw : lot.Pairwise (· < ·) := List.Pairwise.sublist hk.sub List.pairwise_lt_range
  have h4 : ∀ s ρ, isiE is_tuple (.sh (natT s)) ρ = .ok (.sh (.bl true)) ρ := fun s ρ => isi_t (by rfl)
  have h5 : ∀ (s : Int) ρ, isiE is_int (.sh (.int s)) ρ = .ok (.sh (.bl true)) ρ := fun s ρ => isi_i (by rfl)
  have h7 : ∀ (s : Int) ρ, isiE is_bool (.sh (.int s)) ρ = .ok (.sh (.bl false)) ρ := fun s ρ => isi_i (by rfl)
  have c1 : (1 : Int) ≤ lot.length := by omega
  have c2 : (lot.length : Int) ≤ m := by omega
  obtain ⟨ds, b, hb, hp⟩ := e_peel (k := k) (rws_pick h hjl (by omega))
  rw [pick_ar h hjl] at hb
  have hbf : b = false := by
    cases b with
    | false => rfl
    | true =>
      have hc := hb.mp rfl
      rw [← pick_ar h hjl] at hc
      have hc := (rws_pick h hjl (by omega)).cons.mpr hc
      rw [pick_ar h hjl] at hc
      exact absurd hc hk.odds
  rw [hbf] at hp
  have hlc := fun (y : Slot) (c : Slot) (hc : Vs c) => lc_map (ρ := [some (.sh, .int (m : Nat)), some (.sh, .lst (L.map .str)), some (.sh, natT lot), y, c, none]) (mi := ((((mFrz 2)).bind srcM))) (f := tgName 4) (tt := VL.M.pure true) (te := (((mBin ixD ((mVar 1)) ((mVar 4)))).bind shR)) (vs := [4])
    lot (fun n => D.int (n : Nat)) (fun _ => true) (fun j => D.str (L.getD j [])) (by simp) (by rw [hlim]; omega) (fun j hj => ⟨_, rfl, _, rfl, _, by simp [-List.getD_eq_getElem?_getD, wipeE, ix_row (hjl j hj)]; rfl, by rcases hc with rfl | ⟨d, rfl⟩ <;> rfl⟩)
  rw [filt_t, pick_d] at hlc
  simp [m_39, h4, c1, c2, l1, l2]
  refine for_ixR (R := fun q => VL.Ends q _) lot (fun n => D.int (n : Nat)) (fun j ρ => ∃ (l : Nat) (c : Slot), ρ = [some (.sh, .int (m : Nat)), some (.sh, .lst (L.map .str)), some (.sh, natT lot), some (.sh, .int (l : Nat)), c, none] ∧ Vs c ∧ ∀ p ∈ lot.drop j, l ≤ p) ⟨0, none, rfl, .inl rfl, fun p _ => Nat.zero_le p⟩ ?_ ?_
  · rintro j p hj ρ ⟨l, c, hρ, hc, hle⟩
    subst hρ
    refine ⟨_, rfl, ?_⟩
    obtain ⟨hjl2, hjp⟩ := List.getElem?_eq_some_iff.mp hj
    have hdr : lot.drop j = p :: lot.drop (j + 1) := by rw [← hjp]; exact List.drop_eq_getElem_cons hjl2
    have h1 : l ≤ p := hle p (by rw [hdr]; exact List.mem_cons_self)
    have h2 : p < L.length := hjl p (List.mem_of_getElem? hj)
    have hpd : (lot.drop j).Pairwise (· < ·) := List.Pairwise.sublist (List.drop_sublist j lot) hpw
    rw [hdr] at hpd
    refine ⟨[some (.sh, .int (m : Nat)), some (.sh, .lst (L.map .str)), some (.sh, natT lot), some (.sh, .int ((p + 1 : Nat) : Nat)), some (.sh, .int (p : Nat)), none], by simp [h5, h7, h1, h2], p + 1, _, rfl, Vs.sh, fun q hq => ?_⟩
    have := List.rel_of_pairwise_cons hpd hq
    omega
  · rintro ρ ⟨l, c, hρ, hc, _⟩
    subst hρ
    have hq := hlc (some (.sh, .int (l : Nat))) c hc
    simp [hq, hp, x1]
    refine for_foldR (R := fun q => VL.Ends q _) (fun (u : Unit) _ => u) (fun n => D.int (n : Nat)) (fun _ ρ => ∃ (c d : Slot), ρ = [some (.sh, .int (m : Nat)), some (.sh, .lst (L.map .str)), some (.sh, natT lot), some (.sh, .int (l : Nat)), c, d] ∧ Vs d) lot () _ ⟨c, none, rfl, .inl rfl⟩ ?_ ?_
    · rintro p hpl _ ρ ⟨c, d, hρ, hd⟩
      subst hρ
      refine ⟨_, rfl, ?_⟩
      have hsub : ∀ j ∈ lot.filter (fun o => decide (o ≠ p)), j < L.length := fun j hj => hjl j (List.mem_filter.mp hj).1
      have hfl : (lot.filter fun o => decide (o ≠ p)).length ≤ 60 := by
        have := List.length_filter_le (fun o => decide (o ≠ p)) lot
        omega
      obtain ⟨ds2, b2, hb2, hp2⟩ := e_peel (k := k) (rws_pick h hsub hfl)
      have hbt : b2 = true := by
        have hc := hk.least p hpl
        rw [← pick_ar h hsub] at hc
        exact hb2.mpr ((rws_pick h hsub hfl).cons.mp hc)
      rw [hbt] at hp2
      have hfe : lot.filter (fun o : Nat => !decide ((o : Int) = (p : Int))) = lot.filter fun o => decide (o ≠ p) := by
        apply List.filter_congr
        intro o _
        rw [Bool.eq_iff_iff]
        simp
        omega
      have hlc2 := lc_map (ρ := [some (.sh, .int (m : Nat)), some (.sh, .lst (L.map .str)), some (.sh, natT lot), some (.sh, .int (l : Nat)), some (.sh, .int (p : Nat)), d]) (mi := ((((mFrz 2)).bind srcM))) (f := tgName 5) (tt := (((mBin neD ((mVar 5)) ((mVar 4))).bind asB))) (te := (((mBin ixD ((mVar 1)) ((mVar 5)))).bind shR)) (vs := [5])
        lot (fun n => D.int (n : Nat)) (fun o : Nat => !decide ((o : Int) = (p : Int))) (fun j => D.str (L.getD j [])) (by simp) (by rw [hlim]; omega) (by
          intro j hj
          refine ⟨_, rfl, _, by simp [wipeE, -decide_eq_true_eq]; rfl, ?_⟩
          split
          · exact ⟨_, by simp [-List.getD_eq_getElem?_getD, ix_row (hjl j hj)]; rfl, by rcases hd with rfl | ⟨d, rfl⟩ <;> rfl⟩
          · rcases hd with rfl | ⟨d, rfl⟩ <;> rfl)
      rw [hfe, pick_d] at hlc2
      generalize pickL L (lot.filter fun o => decide (o ≠ p)) = P2 at hlc2 hp2
      refine ⟨_, by simp [hlc2, hp2, x1]; rfl, _, _, rfl, hd⟩
    · rintro ρ ⟨c, d, hρ, _⟩
      subst hρ
      simp
/-! ### asking -/
theorem e_odds {k : Nat} {d : D} : run (k + 2) 1040 [(.sh, .exc 6 ["lot"] [d])] = .ok (.sh (.tup [.str [111, 100, 100, 115], d])) none := by kernel_rfl
def tryR (T : Catch) (i : Nat) (h : SM) (s : SR) : SR := match s with
  | .exc x ρ2 => (match T.lookup x.c with
    | some true => hotEnd (h (ρ2.set i (some (.sh, .exc x.c x.ns x.vs))))
    | some false => .exc x ρ2
    | none => .bad)
  | r => r
@[simp] theorem try_e {T : Catch} {i : Nat} {b h : SM} {ρ : VEnv} : sTry T i b h ρ = tryR T i h (b ρ) := by
  unfold sTry tryR
  cases b ρ <;> rfl
@[simp] theorem try_nx {T : Catch} {i : Nat} {h : SM} {ρ : VEnv} : tryR T i h (.nx ρ) = .nx ρ := id rfl
theorem try_x {T : Catch} {i : Nat} {h : SM} {ρ : VEnv} {x : Xd} (e : T.lookup x.c = some true) : tryR T i h (.exc x ρ) = hotEnd (h (ρ.set i (some (.sh, .exc x.c x.ns x.vs)))) := by
  unfold tryR
  simp only [e]
theorem hot_rt {d : D} {ρ : VEnv} (e : noX d = true) : hotEnd (.rt (.sh d) ρ) = .rt (.sh d) (clean ρ) := by
  exact if_pos e
theorem noX_lot {lot : List Nat} : noX (.tup [.str [111, 100, 100, 115], natT lot]) = true := by
  have : ∀ xs : List Nat, noXs (xs.map fun n => D.int (n : Nat)) = true := by
    intro xs
    induction xs with
    | nil => rfl
    | cons x r ih => simpa [noXs, noX] using ih
  simp [noX, noXs, natT, this]
theorem e_ask {k m : Nat} {L : List (List Nat)} (h : Rws m L) :
    (∃ o, PT.firstFit m (arL L) = some o ∧ run (k + 7) 41 [(.sh, bkD m L)] = .ok (.sh (.tup [.str [116, 111, 108, 100], ltr o])) none) ∨
    (PT.firstFit m (arL L) = none ∧ ∃ lot, PT.LotOk (L.map mskR) lot ∧ 1 ≤ lot.length ∧ lot.length ≤ m ∧ run (k + 7) 41 [(.sh, bkD m L)] = .ok (.sh (.tup [.str [111, 100, 100, 115], natT lot])) none) := by
  have e : run (k + 7) 41 = runB 3 (m_41 (run (k + 6)) (run (k + 5))) := rfl
  have h6 : slots 3 [(.sh, bkD m L)] = [some (.sh, bkD m L), none, none] := rfl
  have l2 : (2 : Nat) ≤ lim := by rw [hlim]; omega
  rw [e]
  rcases e_first (k := k) h with ⟨o, ho, hr⟩ | ⟨ho, lot, h1, h2, h3, hr⟩
  · left
    refine ⟨o, ho, of_ends ?_ (by simp)⟩
    rw [h6]
    simp [m_41, hr, l2]
  · right
    refine ⟨ho, lot, h1, h2, h3, of_ends ?_ (by simp)⟩
    rw [h6]
    have hl : ca_TongueError.lookup 6 = some true := by rfl
    have he := e_odds (k := k + 4) (d := natT lot)
    simp [m_41, hr, try_x (x := ⟨6, ["lot"], [natT lot]⟩) hl, he, hot_rt noX_lot]
theorem sq_told : eqD (.str [116, 111, 108, 100]) (.str [116, 111, 108, 100]) = some (.sh (.bl true)) := by rw [eq_s rfl rfl]; rfl
theorem sq_odds : eqD (.str [111, 100, 100, 115]) (.str [111, 100, 100, 115]) = some (.sh (.bl true)) := by rw [eq_s rfl rfl]; rfl
theorem e_lawright {k m : Nat} {L : List (List Nat)} (h : Rws m L) : run (k + 8) 42 [(.ro, .lst ((PT.ords m m).map ltr)), (.sh, .lst (L.map .str)), (.sh, bkD m L)] = .ok (.sh (.bl true)) none := by
  have e : run (k + 8) 42 = runB 5 (m_42 (run (k + 7)) (run (k + 6))) := rfl
  rw [e]
  refine of_ends ?_ (by simp)
  have h6 : slots 5 [(.ro, .lst ((PT.ords m m).map ltr)), (.sh, .lst (L.map .str)), (.sh, bkD m L)] = [some (.ro, .lst ((PT.ords m m).map ltr)), some (.sh, .lst (L.map .str)), some (.sh, bkD m L), none, none] := rfl
  rw [h6]
  have hhi := h.hi
  have hlt : ∀ o ∈ PT.ords m m, ∀ x ∈ o, x < m := fun o ho => (PT.ords_beg ho).lt
  have h1 := e_firstL (k := k + 3) h hlt
  rcases e_ask (k := k) h with ⟨o, ho, hr⟩ | ⟨ho, lot, l1, l2, l3, hr⟩
  · have ho2 : (PT.ords m m).find? (fun o => PT.fitsAll o (arL L)) = some o := ho
    rw [ho2] at h1
    have hom := List.mem_of_find?_eq_some ho2
    have hob := PT.ords_beg hom
    have hs := sok_ltr fun x hx => by have := hob.lt x hx; omega
    have hne : ¬ o.map (65 + ·) = [] := by
      intro z
      have h2 := hob.len
      have h3 : o.length = 0 := by simpa using congrArg List.length z
      have := h.lo
      omega
    have hon : ¬ o = [] := fun z => hne (by rw [z]; rfl)
    have hsm := same_s (k := k + 5) hs hs
    have hsm2 : run (k + 7) 27 [(.sh, ltr o), (.sh, ltr o)] = .ok (.sh (.bl true)) none := by simpa [ltr] using hsm
    have heq : eqD (ltr o) (.str []) = some (.sh (.bl false)) := by
      unfold ltr
      rw [eq_s hs rfl]
      simp [hon]
    simp [m_42, h1, hr, heq, x0, x1, sq_told, hsm2, -eq_s]
  · have ho2 : (PT.ords m m).find? (fun o => PT.fitsAll o (arL L)) = none := ho
    rw [ho2] at h1
    have heq : eqD (.str []) (.str []) = some (.sh (.bl true)) := by rw [eq_s rfl rfl]; rfl
    obtain ⟨o0, r0, e0⟩ := PT.ords_ne m
    have hb0 := PT.ords_beg (m := m) (k := m) (t := o0) (by rw [e0]; exact List.mem_cons_self)
    have hx0 : ixD (.lst ((PT.ords m m).map ltr)) (.int 0) = some (.sh (ltr o0)) := by
      rw [e0]
      exact ix_l (k := 0) rfl
    have hl0 : lenD [ltr o0] = some (.sh (.int (m : Nat))) := by
      unfold ltr
      rw [lenS (by rw [hlim, List.length_map, hb0.len]; omega), List.length_map, hb0.len]
    have hrt := e_right (k := k + 3) h l1 l2 l3
    simp [m_42, h1, hr, heq, x0, x1, sq_odds, hx0, hl0, hrt, -eq_s]
end LW

set_option maxHeartbeats 200000
set_option maxHeartbeats 400000
namespace LW
open PySem PySem.Spec L2 VL
open PT (RowOk gl maskI mskR codeAR orB MOk arL)
/-- the drawn numbers -/
structure Dr (n : Nat) (ds : List Int) : Prop where
  len : ds.length = n
  rng : ∀ x ∈ ds, 0 ≤ x ∧ x < 4294967296
def pk (ds : List Int) (i n : Int) : Int := gi ds i % n
theorem pk_rng {ds : List Int} {i n : Int} (h : 0 < n) : 0 ≤ pk ds i n ∧ pk ds i n < n := ⟨Int.emod_nonneg _ (by omega), Int.emod_lt_of_pos _ h⟩
theorem e_pick {k N : Nat} {ds : List Int} (h : Dr N ds) {i n : Int} (h0 : 0 ≤ i) (h1 : i < N) (hn : 0 < n) : run (k + 2) 26 [(.ro, vecL ds), (.sh, .int i), (.sh, .int n)] = .ok (.sh (.int (pk ds i n))) none := by
  have e : run (k + 2) 26 = runB 3 (m_26 (run (k + 1)) (run k)) := rfl
  rw [e]
  refine of_ends ?_ (by simp)
  have hs : slots 3 [(Md.ro, vecL ds), (Md.sh, D.int i), (Md.sh, D.int n)] = [some (.ro, vecL ds), some (.sh, .int i), some (.sh, .int n)] := rfl
  rw [hs]
  simp [m_26, ix_vl (r := ds) h0 (by rw [h.len]; exact h1), mod_i hn, pk]
theorem e_mix {k : Nat} {c j : Int} (c0 : 0 ≤ c) (c1 : c < 1000003) (j0 : 0 ≤ j) (j1 : j < 1000) : ∃ x, run (k + 2) 24 [(.sh, .int c), (.sh, .int j)] = .ok (.sh (.int x)) none ∧ 0 ≤ x ∧ x < 4294967296 := by
  have e : run (k + 2) 24 = runB 5 (m_24 (run (k + 1)) (run k)) := rfl
  rw [e]
  have hs : slots 5 [(Md.sh, D.int c), (Md.sh, D.int j)] = [some (.sh, .int c), some (.sh, .int j), none, none, none] := rfl
  have t1 : (48271 : Int).natAbs < two64 := by decide
  have t2 : (69621 : Int).natAbs < two64 := by decide
  have t3 : (16807 : Int).natAbs < two64 := by decide
  have t4 : (31 : Int).natAbs < two64 := by decide
  have d1 : ∀ z, modD (.int z) (.int 2147483647) = some (.sh (.int (z % 2147483647))) := fun z => mod_i (by omega)
  have d2 : ∀ z, modD (.int z) (.int 2147483629) = some (.sh (.int (z % 2147483629))) := fun z => mod_i (by omega)
  have d3 : ∀ z, modD (.int z) (.int 2147483587) = some (.sh (.int (z % 2147483587))) := fun z => mod_i (by omega)
  have d4 : ∀ z, fdivD (.int z) (.int 64) = some (.sh (.int (z / 64))) := fun z => fdiv_i (by omega) (by decide)
  have m1 : ∀ z : Int, mulD (.int (z % 2147483647)) (.int (z % 2147483647)) = some (.sh (.int ((z % 2147483647) * (z % 2147483647)))) := fun z => mul_r (by
    have := Int.emod_nonneg z (show (2147483647 : Int) ≠ 0 by omega)
    have := Int.emod_lt_of_pos z (show (0 : Int) < 2147483647 by omega)
    unfold two64
    omega)
  have m2 : ∀ z : Int, mulD (.int (z % 2147483629)) (.int (z % 2147483629)) = some (.sh (.int ((z % 2147483629) * (z % 2147483629)))) := fun z => mul_r (by
    have := Int.emod_nonneg z (show (2147483629 : Int) ≠ 0 by omega)
    have := Int.emod_lt_of_pos z (show (0 : Int) < 2147483629 by omega)
    unfold two64
    omega)
  refine ⟨((((c * 48271 + j * 69621 + 11) % 2147483647 * ((c * 48271 + j * 69621 + 11) % 2147483647) + j * 16807 + 7) % 2147483629 * (((c * 48271 + j * 69621 + 11) % 2147483647 * ((c * 48271 + j * 69621 + 11) % 2147483647) + j * 16807 + 7) % 2147483629) + (c * 48271 + j * 69621 + 11) % 2147483647 * 31 + 3) % 2147483587) / 64, of_ends ?_ (by simp), ?_, ?_⟩
  · rw [hs]
    simp [m_24, mul_r t1, mul_r t2, mul_r t3, mul_r t4, d1, d2, d3, d4, m1, m2]
  · omega
  · omega
/-- numbers in the drawn range -/
def Rg (r : List Int) : Prop := ∀ x ∈ r, 0 ≤ x ∧ x < 4294967296
theorem rg_app {r : List Int} {x : Int} (h : Rg r) (h0 : 0 ≤ x) (h1 : x < 4294967296) : Rg (r ++ [x]) := by
  intro y hy
  rcases List.mem_append.mp hy with hy | hy
  · exact h y hy
  · rw [List.mem_singleton.mp hy]; exact ⟨h0, h1⟩
theorem for_to {α : Type} {f : D → VEnv → Option VEnv} {b : SM} {Q : VEnv → Prop} {ρ : VEnv} (xs : List α) (e : α → D) (st : Nat → VEnv → Prop) (h0 : st 0 ρ)
    (hs : ∀ j x, xs[j]? = some x → ∀ ρ, st j ρ → ∃ ρ1, f (e x) ρ = some ρ1 ∧ ∃ ρ2, b ρ1 = .nx ρ2 ∧ st (j + 1) ρ2) (hend : ∀ ρ, st xs.length ρ → Q ρ) : ∃ ρ2, VL.forS f b (xs.map e) ρ = .nx ρ2 ∧ Q ρ2 := by
  obtain ⟨ρ2, e1, e2⟩ := for_all xs e st hs h0
  exact ⟨ρ2, e1, hend ρ2 e2⟩
def Dw (n : Nat) (told : List Int) : Prop := Rg told ∧ told.length ≤ n
def S1 (n : Nat) (ns : List Int) (ρ : VEnv) : Prop := ∃ told a b c, ρ = [some (Md.sh, D.scr ns), some (Md.sh, D.int (n : Nat)), some (Md.ow, vecL told), a, b, c, none] ∧ Dw n told
def S2 (n : Nat) (ns : List Int) (ρ : VEnv) : Prop := ∃ told a b c, ρ = [some (Md.sh, D.scr ns), some (Md.sh, D.int (n : Nat)), some (Md.ow, vecL told), a, some (.sh, .int b), c, none] ∧ Dw n told
def S3 (n : Nat) (ns : List Int) (ρ : VEnv) : Prop := ∃ told a b c z, ρ = [some (Md.sh, D.scr ns), some (Md.sh, D.int (n : Nat)), some (Md.ow, vecL told), a, b, c, some (.sh, .int z)] ∧ Dw n told ∧ 0 ≤ z ∧ z < 1000003
def S4 (n : Nat) (ns : List Int) (j : Nat) (ρ : VEnv) : Prop := ∃ told a b c z, ρ = [some (Md.sh, D.scr ns), some (Md.sh, D.int (n : Nat)), some (Md.ow, vecL told), a, b, c, some (.sh, .int z)] ∧ Dw n told ∧ 0 ≤ z ∧ z < 1000003 ∧ j ≤ told.length
theorem e_draws {k n : Nat} {ns : List Int} (hn : n ≤ 900) : ∃ ds, Dr n ds ∧ run (k + 3) 25 [(.sh, .scr ns), (.sh, .int (n : Nat))] = .ok (.tm (vecL ds)) none := by
  have e : run (k + 3) 25 = runB 7 (m_25 (run (k + 2)) (run (k + 1))) := rfl
  rw [e]
  have hs : slots 7 [(Md.sh, D.scr ns), (Md.sh, D.int (n : Nat))] = [some (.sh, .scr ns), some (.sh, .int (n : Nat)), none, none, none, none, none] := rfl
  have key : ∃ ds, Dr n ds ∧ VL.Ends (m_25 (run (k + 2)) (run (k + 1)) (slots 7 [(Md.sh, D.scr ns), (Md.sh, D.int (n : Nat))])) (.ok (.tm (vecL ds)) none) := by
    rw [hs]
    have pw : powD (.int 10) (.int 18) = some (.sh (.int 1000000000000000000)) := by kernel_rfl
    
    have r60 : rng1D [.int 60] = some (ups 60) := rng_ups (n := 60) (by omega)
    have r200 : rng1D [.int (n : Nat)] = some (ups n) := rng_ups (n := n) (by omega)
    have t31 : (31 : Int).natAbs < two64 := by decide
    have d997 : ∀ z : Int, modD (.int z) (.int 997) = some (.sh (.int (z % 997))) := fun z => mod_i (by omega)
    have f997 : ∀ z : Int, fdivD (.int z) (.int 997) = some (.sh (.int (z / 997))) := fun z => fdiv_i (by omega) (by decide)
    have dM : ∀ z : Int, modD (.int z) (.int 1000003) = some (.sh (.int (z % 1000003))) := fun z => mod_i (by omega)
    simp [m_25, nil_vl]
    refine for_ixR (R := fun s => ∃ ds, Dr n ds ∧ VL.Ends s (.ok (.tm (vecL ds)) none)) ns D.int (fun _ => S1 n ns) ⟨[], none, none, none, rfl, fun x hx => (by cases hx), by simp⟩ ?_ ?_
    · rintro j x hj ρ ⟨told, a, b, c, hρ, hD⟩
      subst hρ
      refine ⟨_, rfl, ?_⟩
      by_cases hx : (1000000000000000000 : Int) ≤ x.natAbs
      · simp [pw, hx, r60, seq_nx, ups]
        refine for_to (List.range 60) (fun j => .int (j : Nat)) (fun _ => S2 n ns) ⟨_, _, _, _, rfl, hD⟩ ?_ ?_
        · rintro j n2 hj ρ ⟨told, a, b, c, hρ, hR, hl⟩
          subst hρ
          refine ⟨_, rfl, ?_⟩
          by_cases h1 : 0 < b
          · by_cases h2 : (told.length : Int) < n
            · have ha := app_vl (xs := told) (n := b % 997) (by rw [hlim]; omega)
              simp [h1, h2, d997, f997, ha]
              exact ⟨_, _, _, _, rfl, rg_app hR (by omega) (by omega), by simp; omega⟩
            · simp [h1, h2]
              exact ⟨_, _, _, _, rfl, hR, hl⟩
          · simp [h1]
            exact ⟨_, _, _, _, rfl, hR, hl⟩
        · rintro ρ ⟨told, a, b, c, hρ, hD⟩
          exact ⟨_, _, _, _, hρ, hD⟩
      · simp [pw, hx]
        exact ⟨_, _, _, _, rfl, hD⟩
    · rintro ρ ⟨told, a, b, c, hρ, hD⟩
      subst hρ
      simp
      refine for_ixR (R := fun s => ∃ ds, Dr n ds ∧ VL.Ends s (.ok (.tm (vecL ds)) none)) ns D.int (fun _ => S3 n ns) ⟨_, _, _, _, _, rfl, hD, by omega, by omega⟩ ?_ ?_
      · rintro j x hj ρ ⟨told, a, b, c, z, hρ, hD, z0, z1⟩
        subst hρ
        refine ⟨_, rfl, ?_⟩
        simp [mul_r t31, dM]
        exact ⟨_, _, _, _, _, rfl, hD, by omega, by omega⟩
      · rintro ρ ⟨told, a, b, c, z, hρ, hD, z0, z1⟩
        subst hρ
        simp [r200, ups]
        refine for_ixR (R := fun s => ∃ ds, Dr n ds ∧ VL.Ends s (.ok (.tm (vecL ds)) none)) (List.range n) (fun j => .int (j : Nat)) (S4 n ns) ⟨_, _, _, _, _, rfl, hD, z0, z1, by omega⟩ ?_ ?_
        · rintro j x hj ρ ⟨told, a, b, c, z, hρ, hD, z0, z1, hjl⟩
          subst hρ
          refine ⟨_, rfl, ?_⟩
          have hxj : x = j ∧ j < n := by
            have := List.getElem?_eq_some_iff.mp hj
            obtain ⟨h1, h2⟩ := this
            simp at h1 h2
            omega
          obtain ⟨y, hy, y0, y1⟩ := e_mix (k := k) (c := z) (j := (x : Nat)) z0 z1 (by omega) (by omega)
          by_cases h2 : (told.length : Int) < n
          · have ha := app_vl (xs := told) (n := y) (by rw [hlim]; omega)
            simp [h2, hy, ha]
            exact ⟨_, _, _, _, _, rfl, ⟨rg_app hD.1 y0 y1, by simp; omega⟩, z0, z1, by simp; omega⟩
          · simp [h2]
            exact ⟨_, _, _, _, _, rfl, hD, z0, z1, by have := hD.2; omega⟩
        · rintro ρ ⟨told, a, b, c, z, hρ, hD, z0, z1, hjl⟩
          subst hρ
          have hl := hD.2
          rw [List.length_range] at hjl
          exact ⟨told, ⟨by omega, hD.1⟩, by simp⟩
  obtain ⟨ds, h1, h2⟩ := key
  exact ⟨ds, h1, of_ends h2 (by simp)⟩
end LW

set_option maxHeartbeats 200000
set_option maxHeartbeats 400000
namespace LW
open PySem PySem.Spec L2 VL
open PT (RowOk gl maskI mskR codeAR orB MOk arL)
/-- the list of these letters -/
def ltl (l : List Nat) : D := .lst (l.map fun i => .str [65 + i])
@[simp] theorem tyS_ltl {α : Type} {xs : List Nat} {r : Res α} : tyS .list (some (ltl xs)) r = r := id rfl
@[simp] theorem len_ltl {xs : List Nat} : lenD [ltl xs] = some (.sh (.int xs.length)) := by simp [ltl]
theorem er_map {α β : Type} {f : α → β} {xs : List α} {i : Nat} : (xs.map f).eraseIdx i = (xs.eraseIdx i).map f := by
  rw [List.eraseIdx_eq_take_drop_succ, List.eraseIdx_eq_take_drop_succ, List.map_append, List.map_take, List.map_drop]
theorem pop_ltl {l : List Nat} {i : Nat} (hi : i < l.length) (hl : l.length ≤ 1000) : popW (ltl l) [.int (i : Nat)] = some (ltl (l.eraseIdx i), .str [65 + l[i]]) := by
  have hs : seqIndex? (i : Int) (l.map fun i => D.str [65 + i]).length = some i := by
    rw [List.length_map, seqIndex_of (by omega) (by omega)]
    rfl
  show (if -9223372036854775808 ≤ (i : Int) ∧ (i : Int) < 9223372036854775808 then (match seqIndex? (i : Int) (l.map fun i => D.str [65 + i]).length with
    | some k => ((l.map fun i => D.str [65 + i])[k]?).map fun d => (D.lst ((l.map fun i => D.str [65 + i]).eraseIdx k), d)
    | none => none) else none) = _
  rw [if_pos ⟨by omega, by omega⟩, hs]
  simp [hi, ltl, er_map]
theorem perm_er {l : List Nat} {i : Nat} (hi : i < l.length) : (l[i] :: l.eraseIdx i).Perm l := by
  have h1 : l.take i ++ l[i] :: l.drop (i + 1) = l := by rw [← List.drop_eq_getElem_cons hi, List.take_append_drop]
  rw [List.eraseIdx_eq_take_drop_succ]
  have h2 := (List.perm_middle (a := l[i]) (l₁ := l.take i) (l₂ := l.drop (i + 1))).symm
  rw [h1] at h2
  exact h2
theorem small_fd {i j : Int} (h0 : 0 < j) (h1 : j ≤ 1000) : fdivD (.int i) (.int j) = some (.sh (.int (i / j))) := fdiv_i h0 (by
  have : j.natAbs < 2 ^ 20 := by
    have : (2 : Nat) ^ 20 = 1048576 := by decide
    omega
  have := PySem.Flt.log2_lt_of (by decide) this
  omega)
theorem e_ranking {k m : Nat} {d : Int} (m0 : 1 ≤ m) (m6 : m ≤ 6) : ∃ o, PT.Beg m m o ∧ run (k + 2) 28 [(.sh, .int (m : Nat)), (.sh, .int d)] = .ok (.sh (ltr o)) none := by
  have e : run (k + 2) 28 = runB 5 (m_28 (run (k + 1)) (run k)) := rfl
  rw [e]
  have h6 : slots 5 [(.sh, .int (m : Nat)), (.sh, .int d)] = [some (.sh, .int (m : Nat)), some (.sh, .int d), none, none, none] := rfl
  have key : ∃ o, PT.Beg m m o ∧ VL.Ends (m_28 (run (k + 1)) (run k) (slots 5 [(.sh, .int (m : Nat)), (.sh, .int d)])) (.ok (.sh (ltr o)) none) := by
    rw [h6]
    have rn : rng1D [.int (m : Nat)] = some (ups m) := rng_ups (by omega)
    have hab := abc_cut (m := m) m6
    have hsl : ∀ lo hi, sliceD (.str [65, 66, 67, 68, 69, 70]) lo hi = some (.sh (.str (cutL [65, 66, 67, 68, 69, 70] lo hi))) := fun lo hi => sliceS (by rw [hlim]; decide)
    have hls : listSD [.str ((List.range m).map (65 + ·))] = some (.tm (ltl (List.range m))) := by
      rw [listS_s (by rw [hlim]; simp; omega), List.map_map]
      rfl
    simp [m_28, hsl, hab, hls, rn, ups, -List.map_map, -listS_s]
    refine for_ixR (R := fun q => ∃ o, PT.Beg m m o ∧ VL.Ends q (.ok (.sh (ltr o)) none)) (List.range m) (fun j => .int (j : Nat)) (fun j ρ => ∃ (l t : List Nat) (d : Int) (y : Slot), ρ = [some (.sh, .int (m : Nat)), some (.sh, .int d), some (.ow, ltl l), some (.sh, ltr t), y] ∧ l.length = m - j ∧ t.length = j ∧ (t ++ l).Perm (List.range m) ∧ j ≤ m) ⟨List.range m, [], d, none, rfl, by simp, rfl, by simp, by omega⟩ ?_ ?_
    · rintro j x hj ρ ⟨l, t, d, y, hρ, hl, ht, hp, hjm⟩
      subst hρ
      refine ⟨_, rfl, ?_⟩
      obtain ⟨hj1, hj2⟩ := List.getElem?_eq_some_iff.mp hj
      have hjm : j < m := by simpa using hj1
      have hx : x = j := by simpa using hj2.symm
      subst hx
      have hlpos : (0 : Int) < l.length := by omega
      have hm0 := Int.emod_nonneg d (show (l.length : Int) ≠ 0 by omega)
      have hm1 := Int.emod_lt_of_pos d hlpos
      obtain ⟨i, hi0⟩ : ∃ i : Nat, d % (l.length : Int) = (i : Int) := ⟨(d % (l.length : Int)).toNat, by omega⟩
      have hi : i < l.length := by omega
      have hmd : modD (.int d) (.int (l.length : Nat)) = some (.sh (.int (i : Nat))) := by rw [mod_i hlpos, hi0]
      have hpop := pop_ltl hi (by omega)
      have hfd : fdivD (.int d) (.int ((m : Int) - (x : Int))) = some (.sh (.int (d / ((m : Int) - (x : Int))))) := small_fd (by omega) (by omega)
      have had := addS (s := t.map (65 + ·)) (t := [65 + l[i]]) (by rw [hlim]; simp; omega)
      have hpe : (l[i] :: l.eraseIdx i).Perm l := perm_er hi
      refine ⟨[some (.sh, .int (m : Nat)), some (.sh, .int (d / ((m : Int) - (x : Int)))), some (.ow, ltl (l.eraseIdx i)), some (.sh, ltr (t ++ [l[i]])), some (.sh, .int (x : Nat))], ?_, l.eraseIdx i, t ++ [l[i]], _, _, rfl, ?_, by simp [ht], ?_, by omega⟩
      · unfold ltr
        simp [hmd, hpop, had, hfd]
      · rw [List.length_eraseIdx_of_lt hi]
        omega
      · refine List.Perm.trans ?_ hp
        rw [List.append_assoc]
        exact List.Perm.append_left _ hpe
    · rintro ρ ⟨l, t, d, y, hρ, hl, ht, hp, hjm⟩
      rw [List.length_range] at hl ht
      have hl0 : l = [] := List.length_eq_zero_iff.mp (by omega)
      subst hl0
      subst hρ
      rw [List.append_nil] at hp
      refine ⟨t, ⟨hp.nodup_iff.mpr List.nodup_range, ht, fun x hx => List.mem_range.mp (hp.mem_iff.mp hx)⟩, ?_⟩
      simp [ltr]
  obtain ⟨o, h1, h2⟩ := key
  exact ⟨o, h1, of_ends h2 (by simp)⟩
/-! ### all rankings -/
def ext (m : Nat) (t : List Nat) : List (List Nat) := ((List.range m).filter fun x => !t.contains x).map fun x => t ++ [x]
theorem ext_len {m : Nat} {t : List Nat} : (ext m t).length ≤ m := by
  unfold ext
  rw [List.length_map]
  have := List.length_filter_le (fun x => !t.contains x) (List.range m)
  rwa [List.length_range] at this
theorem flat_len {m : Nat} {ts : List (List Nat)} : (ts.flatMap (ext m)).length ≤ m * ts.length := by
  induction ts with
  | nil => simp
  | cons t ts ih =>
    rw [List.flatMap_cons, List.length_append, List.length_cons, Nat.mul_succ]
    have := ext_len (m := m) (t := t)
    omega
theorem ords_len {m : Nat} (hm : m ≤ 6) : ∀ {k : Nat}, k ≤ 6 → (PT.ords m k).length ≤ 46656
  | 0, _ => by simp [PT.ords]
  | k + 1, hk => by
    have key : ∀ k, (PT.ords m k).length ≤ 6 ^ k := by
      intro k
      induction k with
      | zero => simp [PT.ords]
      | succ k ih =>
        have h1 : (PT.ords m (k + 1)).length ≤ m * (PT.ords m k).length := flat_len (m := m) (ts := PT.ords m k)
        have h2 : m * (PT.ords m k).length ≤ 6 * 6 ^ k := Nat.mul_le_mul hm ih
        rw [Nat.pow_succ, Nat.mul_comm]
        omega
    have h1 := key (k + 1)
    have h2 : 6 ^ (k + 1) ≤ 6 ^ 6 := Nat.pow_le_pow_right (by omega) hk
    have : 6 ^ 6 = 46656 := by decide
    omega
def otL (ts : List (List Nat)) : D := .lst (ts.map ltr)
@[simp] theorem tyS_ot {α : Type} {xs : List (List Nat)} {r : Res α} : tyS .list (some (otL xs)) r = r := id rfl
@[simp] theorem it_ot {xs : List (List Nat)} : itemsD (otL xs) = some (xs.map ltr) := id rfl
theorem app_ot {xs : List (List Nat)} {t : List Nat} (h : xs.length < lim) : appendW (otL xs) [ltr t] = some (otL (xs ++ [t]), .non) := by
  unfold otL
  rw [app_l (by simpa using h), List.map_append]
  rfl
theorem in_ltr {t : List Nat} {x : Nat} : decide (65 + x ∈ t.map (65 + ·)) = t.contains x := by
  rw [Bool.eq_iff_iff, decide_eq_true_eq, List.contains_iff_mem, List.mem_map]
  constructor
  · rintro ⟨y, hy, he⟩
    have he : 65 + y = 65 + x := he
    have : y = x := by omega
    rw [← this]
    exact hy
  · intro h
    exact ⟨x, h, rfl⟩
theorem e_orders {k m : Nat} (m6 : m ≤ 6) : run (k + 2) 29 [(.sh, .int (m : Nat))] = .ok (.tm (otL (PT.ords m m))) none := by
  have e : run (k + 2) 29 = runB 6 (m_29 (run (k + 1)) (run k)) := rfl
  rw [e]
  refine of_ends ?_ (by simp)
  have h6 : slots 6 [(Md.sh, D.int (m : Nat))] = [some (.sh, .int (m : Nat)), none, none, none, none, none] := rfl
  rw [h6]
  have rn : rng1D [.int (m : Nat)] = some (ups m) := rng_ups (by omega)
  have hab := abc_cut (m := m) m6
  have hsl : ∀ lo hi, sliceD (.str [65, 66, 67, 68, 69, 70]) lo hi = some (.sh (.str (cutL [65, 66, 67, 68, 69, 70] lo hi))) := fun lo hi => sliceS (by rw [hlim]; decide)
  have l1 : (1 : Nat) ≤ lim := by rw [hlim]; omega
  have hst : D.lst [D.str []] = otL [[]] := rfl
  have hnl : D.lst [] = otL [] := rfl
  have hls : ∀ ts, listSD [otL ts] = some (.tm (otL ts)) := fun ts => rfl
  have hit : itemsD (.str ((List.range m).map (65 + ·))) = some ((List.range m).map fun i => D.str [65 + i]) := by
    show some (((List.range m).map (65 + ·)).map fun c => D.str [c]) = _
    rw [List.map_map]
    rfl
  simp [m_29, rn, ups, l1, hst]
  refine for_ixR (R := fun q => VL.Ends q _) (List.range m) (fun j => .int (j : Nat)) (fun j ρ => ∃ a b c d, ρ = [some (.sh, .int (m : Nat)), some (.ow, otL (PT.ords m j)), a, b, c, d] ∧ j ≤ m) ⟨none, none, none, none, rfl, by omega⟩ ?_ ?_
  · rintro j x hj ρ ⟨a, b, c, d, hρ, hjm⟩
    subst hρ
    refine ⟨_, rfl, ?_⟩
    have hjm : j < m := by
      have := (List.getElem?_eq_some_iff.mp hj).1
      simpa using this
    have hol := ords_len m6 (k := j) (by omega)
    have hbe : ∀ t ∈ PT.ords m j, t.length ≤ 100 := fun t ht => by have := (PT.ords_beg ht).len; omega
    have hnx : PT.ords m (j + 1) = (PT.ords m j).flatMap (ext m) := rfl
    rw [hnx]
    generalize PT.ords m j = ts at hol hbe
    have h1 : ∃ ρ2, VL.forS (tgName 4) (sSeq (sFor (((mSlice (mCst (.str [65, 66, 67, 68, 69, 70])) (VL.M.pure none) (((mVar 0)).bind asInt))).bind srcM) (tgName 5) (sSeq (sIf (((mBin notInD ((mVar 5)) ((mVar 4))).bind asB)) (sSeq (sDrop ((mWr .list 3 appendW (mConsD (((mBin addD ((mVar 4)) ((mVar 5)))).bind shR) (VL.M.pure [])))))
  (sNext)) (sNext))
  (sNext)))
  (sNext)) (ts.map ltr) [some (.sh, .int (m : Nat)), some (.sh, otL ts), some (.sh, .int (x : Nat)), some (.ow, otL []), c, d] = .nx ρ2 ∧ ∃ c d, ρ2 = [some (.sh, .int (m : Nat)), some (.sh, otL ts), some (.sh, .int (x : Nat)), some (.ow, otL (ts.flatMap (ext m))), c, d] := by
      have q := for_all (f := tgName 4) (b := (sSeq (sFor (((mSlice (mCst (.str [65, 66, 67, 68, 69, 70])) (VL.M.pure none) (((mVar 0)).bind asInt))).bind srcM) (tgName 5) (sSeq (sIf (((mBin notInD ((mVar 5)) ((mVar 4))).bind asB)) (sSeq (sDrop ((mWr .list 3 appendW (mConsD (((mBin addD ((mVar 4)) ((mVar 5)))).bind shR) (VL.M.pure [])))))
  (sNext)) (sNext))
  (sNext)))
  (sNext))) ts ltr (ρ := [some (.sh, .int (m : Nat)), some (.sh, otL ts), some (.sh, .int (x : Nat)), some (.ow, otL []), c, d]) (fun i ρ => ∃ c d, ρ = [some (.sh, .int (m : Nat)), some (.sh, otL ts), some (.sh, .int (x : Nat)), some (.ow, otL ((ts.take i).flatMap (ext m))), c, d]) ?_ ⟨c, d, rfl⟩
      · obtain ⟨ρ2, e1, c, d, e2⟩ := q
        rw [List.take_length] at e2
        exact ⟨ρ2, e1, c, d, e2⟩
      · rintro i t ht ρ ⟨c, d, hρ⟩
        subst hρ
        refine ⟨_, rfl, ?_⟩
        have hil := (List.getElem?_eq_some_iff.mp ht).1
        have htl : t.length ≤ 100 := hbe t (List.mem_of_getElem? ht)
        have htk : (ts.take (i + 1)).flatMap (ext m) = (ts.take i).flatMap (ext m) ++ ext m t := by
          have h1 : (some t).toList = [t] := rfl
          rw [List.take_succ, ht, h1, List.flatMap_append]
          simp
        rw [htk]
        have hal : ((ts.take i).flatMap (ext m)).length ≤ 6 * 46656 := by
          have h1 := flat_len (m := m) (ts := ts.take i)
          have h2 : (ts.take i).length ≤ 46656 := by rw [List.length_take]; omega
          have h3 : m * (ts.take i).length ≤ 6 * 46656 := Nat.mul_le_mul m6 h2
          omega
        generalize (ts.take i).flatMap (ext m) = acc at hal
        simp [hsl, hab, hit, seq_nx, -it_str]
        have q2 := for_all (f := tgName 5) (b := (sSeq (sIf (((mBin notInD ((mVar 5)) ((mVar 4))).bind asB)) (sSeq (sDrop ((mWr .list 3 appendW (mConsD (((mBin addD ((mVar 4)) ((mVar 5)))).bind shR) (VL.M.pure [])))))
  (sNext)) (sNext))
  (sNext))) (List.range m) (fun i => D.str [65 + i]) (ρ := [some (.sh, .int (m : Nat)), some (.sh, otL ts), some (.sh, .int (x : Nat)), some (.ow, otL acc), some (.sh, ltr t), d]) (fun i ρ => ∃ d, ρ = [some (.sh, .int (m : Nat)), some (.sh, otL ts), some (.sh, .int (x : Nat)), some (.ow, otL (acc ++ (((List.range m).take i).filter fun x => !t.contains x).map fun x => t ++ [x])), some (.sh, ltr t), d]) ?_ ⟨d, by simp⟩
        · obtain ⟨ρ2, e1, d, e2⟩ := q2
          rw [List.take_length] at e2
          exact ⟨ρ2, e1, _, d, e2⟩
        · rintro i2 y hy ρ ⟨d, hρ⟩
          subst hρ
          refine ⟨_, rfl, ?_⟩
          have hym : y < m := List.mem_range.mp (List.mem_of_getElem? hy)
          have hi2 : i2 < m := by
            have := (List.getElem?_eq_some_iff.mp hy).1
            simpa using this
          have hni : notInD (.str [65 + y]) (ltr t) = some (.sh (.bl (!t.contains y))) := by rw [← in_ltr]; rfl
          have had : t.length ≤ 100 → addD (ltr t) (.str [65 + y]) = some (.sh (ltr (t ++ [y]))) := fun h => by
            unfold ltr
            rw [addS (by rw [hlim]; simp; omega), List.map_append]
            rfl
          have htk2 : ((List.range m).take (i2 + 1)).filter (fun x => !t.contains x) = ((List.range m).take i2).filter (fun x => !t.contains x) ++ (if t.contains y = true then [] else [y]) := by
            have h1 : (some y).toList = [y] := rfl
            have h2 : ([y] : List Nat).filter (fun x => !t.contains x) = if t.contains y = true then [] else [y] := by
              cases h : t.contains y <;> simp [List.filter_cons, h] at h ⊢ <;> simp [h]
            rw [List.take_succ, hy, List.filter_append, h1, h2]
          rw [htk2]
          have hfl : (((List.range m).take i2).filter (fun x => !t.contains x)).length ≤ 6 := by
            have h1 := List.length_filter_le (fun x => !t.contains x) ((List.range m).take i2)
            rw [List.length_take] at h1
            omega
          generalize ((List.range m).take i2).filter (fun x => !t.contains x) = fl at hfl
          cases hc : t.contains y with
          | true =>
            rw [hc] at hni
            rw [if_pos rfl, List.append_nil]
            refine ⟨_, by simp [hni]; rfl, _, rfl⟩
          | false =>
            rw [hc] at hni
            rw [if_neg (by simp), List.map_append, ← List.append_assoc]
            have hap := app_ot (xs := acc ++ fl.map fun x => t ++ [x]) (t := t ++ [y]) (by rw [hlim]; simp; omega)
            exact ⟨_, by simp [hni, had htl, hap]; rfl, _, rfl⟩
    obtain ⟨ρ2, f1, c, d, f2⟩ := h1
    subst f2
    exact ⟨[some (.sh, .int (m : Nat)), some (.ow, otL (ts.flatMap (ext m))), some (.sh, .int (x : Nat)), some (.ow, otL (ts.flatMap (ext m))), c, d], by simp [hnl, f1, hls], _, _, _, _, rfl, by omega⟩
  · rintro ρ ⟨a, b, c, d, hρ, _⟩
    rw [List.length_range] at hρ
    subst hρ
    simp
end LW

set_option maxHeartbeats 200000
set_option maxHeartbeats 400000
namespace LW
open PySem PySem.Spec L2 VL
open PT (RowOk gl maskI mskR codeAR orB MOk arL)
def Mk3 (c : Nat) : Prop := c = 43 ∨ c = 45 ∨ c = 46
theorem mk_ix {i : Int} (h0 : 0 ≤ i) (h1 : i < 3) : ∃ c, Mk3 c ∧ ixD (.str [43, 45, 46]) (.int i) = some (.sh (.str [c])) := by
  obtain ⟨n, rfl⟩ : ∃ n : Nat, i = n := ⟨i.toNat, by omega⟩
  match n, h1 with
  | 0, _ => exact ⟨43, .inl rfl, by kernel_rfl⟩
  | 1, _ => exact ⟨45, .inr (.inl rfl), by kernel_rfl⟩
  | 2, _ => exact ⟨46, .inr (.inr rfl), by kernel_rfl⟩
  | n + 3, h => omega
theorem e_line {k m : Nat} {d s : Int} (m6 : m ≤ 6) : ∃ r, RowOk m r ∧ run (k + 2) 30 [(.sh, .int (m : Nat)), (.sh, .int d), (.sh, .int s)] = .ok (.sh (.str r)) none := by
  have e : run (k + 2) 30 = runB 5 (m_30 (run (k + 1)) (run k)) := rfl
  rw [e]
  have h6 : slots 5 [(.sh, .int (m : Nat)), (.sh, .int d), (.sh, .int s)] = [some (.sh, .int (m : Nat)), some (.sh, .int d), some (.sh, .int s), none, none] := rfl
  have key : ∃ r, RowOk m r ∧ VL.Ends (m_30 (run (k + 1)) (run k) (slots 5 [(.sh, .int (m : Nat)), (.sh, .int d), (.sh, .int s)])) (.ok (.sh (.str r)) none) := by
    rw [h6]
    have rn : rng1D [.int (m : Nat)] = some (ups m) := rng_ups (by omega)
    have m2 : ∀ z : Int, modD (.int z) (.int 2) = some (.sh (.int (z % 2))) := fun z => mod_i (by omega)
    have m3 : ∀ z : Int, modD (.int z) (.int 3) = some (.sh (.int (z % 3))) := fun z => mod_i (by omega)
    have f2 : ∀ z : Int, fdivD (.int z) (.int 2) = some (.sh (.int (z / 2))) := fun z => small_fd (by omega) (by omega)
    have f3 : ∀ z : Int, fdivD (.int z) (.int 3) = some (.sh (.int (z / 3))) := fun z => small_fd (by omega) (by omega)
    simp [m_30, rn, ups]
    refine for_ixR (R := fun q => ∃ r, RowOk m r ∧ VL.Ends q (.ok (.sh (.str r)) none)) (List.range m) (fun j => .int (j : Nat)) (fun j ρ => ∃ (r : List Nat) (d s : Int) (y : Slot), ρ = [some (.sh, .int (m : Nat)), some (.sh, .int d), some (.sh, .int s), some (.sh, .str r), y] ∧ RowOk j r ∧ j ≤ m) ⟨[], d, s, none, rfl, ⟨rfl, by simp⟩, by omega⟩ ?_ ?_
    · rintro j x hj ρ ⟨r, d, s, y, hρ, hr, hjm⟩
      subst hρ
      refine ⟨_, rfl, ?_⟩
      have hjm : j < m := by
        have := (List.getElem?_eq_some_iff.mp hj).1
        simpa using this
      have hgo : ∀ c, Mk3 c → RowOk (j + 1) (r ++ [c]) := fun c hc => ⟨by simp [hr.len], fun z hz => by
        rcases List.mem_append.mp hz with hz | hz
        · exact hr.mks z hz
        · rw [List.mem_singleton.mp hz]; exact hc⟩
      have had : ∀ c, addD (.str r) (.str [c]) = some (.sh (.str (r ++ [c]))) := fun c => addS (by rw [hlim]; have := hr.len; simp; omega)
      by_cases h2 : s % 2 = 0
      · obtain ⟨c, c1, c2⟩ := mk_ix (Int.emod_nonneg d (show (3 : Int) ≠ 0 by omega)) (Int.emod_lt_of_pos d (show (0 : Int) < 3 by omega))
        exact ⟨[some (.sh, .int (m : Nat)), some (.sh, .int (d / 3)), some (.sh, .int (s / 2)), some (.sh, .str (r ++ [c])), some (.sh, .int (x : Nat))], by simp [m2, m3, f2, f3, h2, c2, had], _, _, _, _, rfl, hgo c c1, by omega⟩
      · exact ⟨[some (.sh, .int (m : Nat)), some (.sh, .int (d / 3)), some (.sh, .int (s / 2)), some (.sh, .str (r ++ [46])), some (.sh, .int (x : Nat))], by simp [m2, m3, f2, f3, h2, had], _, _, _, _, rfl, hgo 46 (.inr (.inr rfl)), by omega⟩
    · rintro ρ ⟨r, d, s, y, hρ, hr, hjm⟩
      rw [List.length_range] at hr
      subst hρ
      exact ⟨r, hr, by simp⟩
  obtain ⟨r, h1, h2⟩ := key
  exact ⟨r, h1, of_ends h2 (by simp)⟩
/-! ### a round -/
def rwD (L : List (List Nat)) : D := .lst (L.map .str)
@[simp] theorem tyS_rw {α : Type} {xs : List (List Nat)} {r : Res α} : tyS .list (some (rwD xs)) r = r := id rfl
@[simp] theorem it_rw {xs : List (List Nat)} : itemsD (rwD xs) = some (xs.map D.str) := id rfl
@[simp] theorem len_rw {xs : List (List Nat)} : lenD [rwD xs] = some (.sh (.int xs.length)) := by simp [rwD]
theorem app_rw {xs : List (List Nat)} {t : List Nat} (h : xs.length < lim) : appendW (rwD xs) [.str t] = some (rwD (xs ++ [t]), .non) := by
  unfold rwD
  rw [app_l (by simpa using h), List.map_append]
  rfl
def chL (cs : List Nat) : D := .lst (cs.map fun c => .str [c])
theorem set_ch {cs : List Nat} {i c : Nat} (h : i < cs.length) : setLD (chL cs) (.int (i : Nat)) (.str [c]) = some (chL (cs.set i c)) := by
  show (ixN (cs.map fun c => D.str [c]).length (i : Int)).map _ = _
  rw [ixN_in (by omega) (by rw [List.length_map]; omega)]
  simp [chL, List.map_set]
theorem ix_ltr {o : List Nat} {i : Nat} (h : i < o.length) (hl : o.length ≤ 1000) : ixD (ltr o) (.int (i : Nat)) = some (.sh (.str [65 + o[i]])) := by
  unfold ltr
  exact ixS (k := i) (by rw [hlim]; simp; omega) rfl (by simp [h])
structure Lns (m : Nat) (L : List (List Nat)) : Prop where
  len : L.length ≤ 60
  row : ∀ r ∈ L, RowOk m r
theorem Lns.rws {m : Nat} {L : List (List Nat)} (h : Lns m L) (m0 : 1 ≤ m) (m6 : m ≤ 6) : Rws m L := ⟨m0, m6, h.len, h.row⟩
theorem row_set {m : Nat} {r : List Nat} (h : RowOk m r) {i c : Nat} (hc : Mk3 c) : RowOk m (r.set i c) := by
  refine ⟨by rw [List.length_set]; exact h.len, fun z hz => ?_⟩
  rcases List.mem_or_eq_of_mem_set hz with hz | rfl
  · exact h.mks z hz
  · exact hc
theorem e_round {k m : Nat} {o : List Nat} {size : Int} (m0 : 1 ≤ m) (m6 : m ≤ 6) (ho : PT.Beg m m o) (s0 : 1 ≤ size) (s1 : size ≤ m) : ∃ L : List (List Nat), (L.length : Int) = size ∧ (∀ r ∈ L, RowOk m r) ∧ run (k + 2) 33 [(.sh, .int (m : Nat)), (.sh, ltr o), (.sh, .int size)] = .ok (.tm (rwD L)) none := by
  have e : run (k + 2) 33 = runB 6 (m_33 (run (k + 1)) (run k)) := rfl
  rw [e]
  obtain ⟨n, rfl⟩ : ∃ n : Nat, size = n := ⟨size.toNat, by omega⟩
  have h6 : slots 6 [(.sh, .int (m : Nat)), (.sh, ltr o), (.sh, .int (n : Nat))] = [some (.sh, .int (m : Nat)), some (.sh, ltr o), some (.sh, .int (n : Nat)), none, none, none] := rfl
  have key : ∃ L : List (List Nat), (L.length = n ∧ (∀ r ∈ L, RowOk m r)) ∧ VL.Ends (m_33 (run (k + 1)) (run k) (slots 6 [(.sh, .int (m : Nat)), (.sh, ltr o), (.sh, .int (n : Nat))])) (.ok (.tm (rwD L)) none) := by
    rw [h6]
    have rn : rng1D [.int (n : Nat)] = some (ups n) := rng_ups (by omega)
    have hnl : D.lst [] = rwD [] := rfl
    have l1 : (1 : Nat) ≤ lim := by rw [hlim]; omega
    have hrep : mulD (.lst [.str [46]]) (.int (m : Nat)) = some (.tm (chL (List.replicate m 46))) := by
      show (if -1000000 ≤ ((m : Nat) : Int) ∧ ((m : Nat) : Int) ≤ 1000000 ∧ ([D.str [46]] : List D).length * ((m : Nat) : Int).toNat ≤ lim then some (Rv.tm (.lst (repL ((m : Nat) : Int).toNat [D.str [46]]))) else none) = _
      rw [if_pos ⟨by omega, by omega, by rw [hlim]; simp; omega⟩, Int.toNat_natCast]
      unfold repL chL
      simp
    have hxo : ∀ i : Nat, i < m → ixD (ltr o) (.int (i : Nat)) = some (.sh (.str [65 + o.getD i 0])) ∧ o.getD i 0 < m := fun i hi => by
      have hio : i < o.length := by rw [ho.len]; exact hi
      have hgd : o.getD i 0 = o[i] := by simp [hio]
      rw [hgd]
      exact ⟨ix_ltr hio (by rw [ho.len]; omega), ho.lt _ (List.getElem_mem hio)⟩
    simp [m_33, rn, ups, hnl]
    refine for_ixR (R := fun q => ∃ L : List (List Nat), (L.length = n ∧ (∀ r ∈ L, RowOk m r)) ∧ VL.Ends q (.ok (.tm (rwD L)) none)) (List.range n) (fun j => .int (j : Nat)) (fun j ρ => ∃ (L : List (List Nat)) (y z : Slot), ρ = [some (.sh, .int (m : Nat)), some (.sh, ltr o), some (.sh, .int (n : Nat)), some (.ow, rwD L), y, z] ∧ L.length = j ∧ ∀ r ∈ L, RowOk m r) ⟨[], none, none, rfl, rfl, by simp⟩ ?_ ?_
    · rintro j x hj ρ ⟨L, y, z, hρ, hL, hr⟩
      subst hρ
      refine ⟨_, rfl, ?_⟩
      obtain ⟨hj1, hj2⟩ := List.getElem?_eq_some_iff.mp hj
      have hjn : j < n := by simpa using hj1
      have hx : x = j := by simpa using hj2.symm
      subst hx
      obtain ⟨i1, i1v, i1m⟩ : ∃ i1 : Nat, (if (0 : Int) < (x : Int) then ((x : Int) - 1) else ((n : Int) - 1)) = (i1 : Int) ∧ i1 < m := by
        by_cases h0 : (0 : Int) < (x : Int)
        · exact ⟨x - 1, by rw [if_pos h0]; omega, by omega⟩
        · exact ⟨n - 1, by rw [if_neg h0]; omega, by omega⟩
      obtain ⟨a1, a2⟩ := hxo i1 i1m
      obtain ⟨b1, b2⟩ := hxo x (by omega)
      generalize o.getD i1 0 = p1 at a1 a2
      generalize o.getD x 0 = p2 at b1 b2
      have hr0 : RowOk m (List.replicate m 46) := ⟨by simp, fun c hc => .inr (.inr (List.eq_of_mem_replicate hc))⟩
      have hs1 := set_ch (cs := List.replicate m 46) (i := p1) (c := 43) (by simpa using a2)
      have hr1 := row_set hr0 (i := p1) (c := 43) (.inl rfl)
      generalize (List.replicate m 46).set p1 43 = r1 at hs1 hr1
      have hs2 := set_ch (cs := r1) (i := p2) (c := 45) (by rw [hr1.len]; exact b2)
      have hr2 := row_set hr1 (i := p2) (c := 45) (.inr (.inl rfl))
      generalize r1.set p2 45 = r2 at hs2 hr2
      have hjn2 : joinD (.str []) [chL r2] = some (.sh (.str r2)) := joinN r2 (by rw [hlim, hr2.len]; omega)
      have hap := app_rw (xs := L) (t := r2) (by rw [hlim, hL]; omega)
      have hi1 : ∀ ρ, (mIf (((mBin gtD ((mVar 4)) (mCst (.int 0))).bind asB)) ((mBin subD ((mVar 4)) (mCst (.int 1)))) ((mBin subD ((mVar 2)) (mCst (.int 1))))) [some (.sh, .int (m : Nat)), some (.sh, ltr o), some (.sh, .int (n : Nat)), some (.ow, rwD L), some (.sh, .int (x : Nat)), ρ] = .ok (.sh (.int (i1 : Nat))) [some (.sh, .int (m : Nat)), some (.sh, ltr o), some (.sh, .int (n : Nat)), some (.ow, rwD L), some (.sh, .int (x : Nat)), ρ] := by
        intro ρ
        by_cases h0 : (0 : Int) < (x : Int)
        · rw [if_pos h0] at i1v
          have h0' : 0 < x := by omega
          simp [h0', i1v]
        · rw [if_neg h0] at i1v
          have h0' : ¬ 0 < x := by omega
          simp [h0', i1v]
      refine ⟨[some (.sh, .int (m : Nat)), some (.sh, ltr o), some (.sh, .int (n : Nat)), some (.ow, rwD (L ++ [r2])), some (.sh, .int (x : Nat)), some (.ow, chL r2)], by simp [-mif_e, l1, hrep, hi1, a1, sabc p1 (by omega), hs1, b1, sabc p2 (by omega), hs2, hjn2, hap], L ++ [r2], _, _, rfl, by simp [hL], fun r hrm => ?_⟩
      rcases List.mem_append.mp hrm with hrm | hrm
      · exact hr r hrm
      · rw [List.mem_singleton.mp hrm]; exact hr2
    · rintro ρ ⟨L, y, z, hρ, hL, hr⟩
      rw [List.length_range] at hL
      subst hρ
      exact ⟨L, ⟨hL, hr⟩, by simp⟩
  obtain ⟨L, ⟨h1, h2⟩, h3⟩ := key
  exact ⟨L, by omega, h2, of_ends h3 (by simp)⟩
end LW

set_option maxHeartbeats 200000
set_option maxHeartbeats 400000
namespace LW
open PySem PySem.Spec L2 VL
open PT (RowOk gl maskI mskR codeAR orB MOk arL)
theorem seq_ex {p q : SM} {ρ : VEnv} {R : SR → Prop} (P : VEnv → Prop) (h1 : ∃ ρ2, p ρ = .nx ρ2 ∧ P ρ2) (h2 : ∀ ρ2, P ρ2 → R (q ρ2)) : R (sSeq p q ρ) := by
  obtain ⟨ρ2, e, h⟩ := h1
  rw [seq_e, e]
  exact h2 ρ2 h
theorem slice_rw {xs : List (List Nat)} {lo hi : Option Int} : sliceD (rwD xs) lo hi = some (.tm (rwD (cutL xs lo hi))) := by
  unfold rwD
  rw [slice_l, cut_map]
theorem add_rw {r s : List (List Nat)} (h : r.length + s.length ≤ lim) : addD (rwD r) (rwD s) = some (.tm (rwD (r ++ s))) := by
  unfold rwD
  rw [add_l (by simpa using h), List.map_append]
theorem set_rw {t : List (List Nat)} {k : Nat} {x : List Nat} (h1 : k < t.length) : setLD (rwD t) (.int (k : Nat)) (.str x) = some (rwD (t.set k x)) := by
  show (ixN (t.map D.str).length (k : Int)).map _ = _
  rw [ixN_in (by omega) (by rw [List.length_map]; omega)]
  simp [rwD, List.map_set]
theorem ix_rw {t : List (List Nat)} {k : Nat} (h1 : k < t.length) : ixD (rwD t) (.int (k : Nat)) = some (.sh (.str t[k])) := ix_l (by simp [h1])
theorem cut_neg {α : Type} {xs : List α} {k : Int} (h : 0 < k) : ((cutL xs (some (-k)) none).length : Int) ≤ k := by
  unfold cutL
  rw [List.length_take, List.length_drop, HT.sIx_none]
  have : HT.sIx xs.length 0 (some (-k)) = xs.length - k.toNat := by
    unfold HT.sIx
    simp
    split <;> omega
  rw [this]
  omega
def LinR (m : Nat) (mo : Int) (q : SR) : Prop := ∃ L, (L.length : Int) ≤ mo ∧ (∀ r ∈ L, RowOk m r) ∧ VL.Ends q (.ok (.tm (rwD L)) none)
theorem row_app {m : Nat} {L : List (List Nat)} {r : List Nat} (h : ∀ r ∈ L, RowOk m r) (hr : RowOk m r) : ∀ x ∈ L ++ [r], RowOk m x := by
  intro x hx
  rcases List.mem_append.mp hx with hx | hx
  · exact h x hx
  · rw [List.mem_singleton.mp hx]; exact hr
theorem row_l6 {m : Nat} {r : List Nat} (h : RowOk m r) (m6 : m ≤ 6) : r.length ≤ 6 := by have := h.len; omega
theorem e_lines {k m N : Nat} {ds : List Int} {a mo : Int} {o : List Nat} (hd : Dr N ds) (a0 : 0 ≤ a) (a1 : a + 128 ≤ N) (hN : N ≤ 900) (m0 : 1 ≤ m) (m6 : m ≤ 6) (ho : PT.Beg m m o) (mo0 : 12 ≤ mo) (mo1 : mo ≤ 60) :
    ∃ L, (L.length : Int) ≤ mo ∧ (∀ r ∈ L, RowOk m r) ∧ run (k + 3) 34 [(.ro, vecL ds), (.sh, .int a), (.sh, .int (m : Nat)), (.sh, ltr o), (.sh, .int mo)] = .ok (.tm (rwD L)) none := by
  have e : run (k + 3) 34 = runB 12 (m_34 (run (k + 2)) (run (k + 1))) := rfl
  rw [e]
  have h6 : slots 12 [(.ro, vecL ds), (.sh, .int a), (.sh, .int (m : Nat)), (.sh, ltr o), (.sh, .int mo)] = [some (.ro, vecL ds), some (.sh, .int a), some (.sh, .int (m : Nat)), some (.sh, ltr o), some (.sh, .int mo), none, none, none, none, none, none, none] := rfl
  have key : LinR m mo (m_34 (run (k + 2)) (run (k + 1)) (slots 12 [(.ro, vecL ds), (.sh, .int a), (.sh, .int (m : Nat)), (.sh, ltr o), (.sh, .int mo)])) := by
    rw [h6, m_34]
    have p : ∀ {i n : Int}, 0 ≤ i → i < N → 0 < n → run (k + 2) 26 [(.ro, vecL ds), (.sh, .int i), (.sh, .int n)] = .ok (.sh (.int (pk ds i n))) none := fun h0 h1 hn => e_pick (k := k) hd h0 h1 hn
    have l1 : (1 : Nat) ≤ lim := by rw [hlim]; omega
    have hx : ∀ x ∈ o, x < m := ho.lt
    refine seq_ex (fun ρ => ρ = [some (.ro, vecL ds), some (.sh, .int a), some (.sh, .int (m : Nat)), some (.sh, ltr o), some (.sh, .int mo), some (.sh, .int (pk ds a 13)), none, none, none, none, none, none]) ⟨_, by simp [p a0 (by omega) (show (0 : Int) < 13 by omega)], rfl⟩ ?_
    rintro ρ rfl
    refine seq_ex (fun ρ => ∃ mn : Nat, (mn : Int) ≤ mo ∧ ρ = [some (.ro, vecL ds), some (.sh, .int a), some (.sh, .int (m : Nat)), some (.sh, ltr o), some (.sh, .int mo), some (.sh, .int (mn : Nat)), none, none, none, none, none, none]) ?_ ?_
    · have q1 := p (show 0 ≤ a + 1 by omega) (by omega) (show (0 : Int) < 8 by omega)
      by_cases h3 : pk ds (a + 1) 8 = 3
      · have := pk_rng (ds := ds) (i := a) (n := 4) (by omega)
        refine ⟨_, ?_, (mo - pk ds a 4).toNat, by omega, rfl⟩
        rw [Int.toNat_of_nonneg (by omega)]
        simp [q1, h3, p a0 (by omega) (show (0 : Int) < 4 by omega)]
      · have := pk_rng (ds := ds) (i := a) (n := 13) (by omega)
        refine ⟨_, ?_, (pk ds a 13).toNat, by omega, rfl⟩
        rw [Int.toNat_of_nonneg (by omega)]
        simp [q1, h3]
    rintro ρ ⟨mn, hmn, rfl⟩
    refine seq_ex (fun ρ => ρ = [some (.ro, vecL ds), some (.sh, .int a), some (.sh, .int (m : Nat)), some (.sh, ltr o), some (.sh, .int mo), some (.sh, .int (mn : Nat)), some (.sh, .int (pk ds (a + 2) 4)), none, none, none, none, none]) ⟨_, by simp [p (show 0 ≤ a + 2 by omega) (by omega) (show (0 : Int) < 4 by omega)], rfl⟩ ?_
    rintro ρ rfl
    generalize pk ds (a + 2) 4 = kd
    refine seq_ex (fun ρ => ρ = [some (.ro, vecL ds), some (.sh, .int a), some (.sh, .int (m : Nat)), some (.sh, ltr o), some (.sh, .int mo), some (.sh, .int (mn : Nat)), some (.sh, .int kd), some (.ow, rwD []), none, none, none, none]) ⟨_, by simp; rfl, rfl⟩ ?_
    rintro ρ rfl
    have rn : rng1D [.int (mn : Nat)] = some (ups mn) := rng_ups (by omega)
    refine seq_ex (fun ρ => ∃ L y z, L.length = mn ∧ (∀ r ∈ L, RowOk m r) ∧ ρ = [some (.ro, vecL ds), some (.sh, .int a), some (.sh, .int (m : Nat)), some (.sh, ltr o), some (.sh, .int mo), some (.sh, .int (mn : Nat)), some (.sh, .int kd), some (.ow, rwD L), y, z, none, none]) ?_ ?_
    · simp [rn, ups, -exists_and_left, -exists_and_right]
      refine for_to (List.range mn) (fun j => .int (j : Nat)) (fun j ρ => ∃ L y z, L.length = j ∧ (∀ r ∈ L, RowOk m r) ∧ ρ = [some (.ro, vecL ds), some (.sh, .int a), some (.sh, .int (m : Nat)), some (.sh, ltr o), some (.sh, .int mo), some (.sh, .int (mn : Nat)), some (.sh, .int kd), some (.ow, rwD L), y, z, none, none]) ⟨[], none, none, rfl, by simp, rfl⟩ ?_ ?_
      · rintro j x hj ρ ⟨L, y, z, hL, hr, rfl⟩
        refine ⟨_, rfl, ?_⟩
        obtain ⟨hj1, hj2⟩ := List.getElem?_eq_some_iff.mp hj
        have hjn : j < mn := by simpa using hj1
        have hxe : x = j := by simpa using hj2.symm
        subst hxe
        have mu : mulD (.int 2) (.int (x : Nat)) = some (.sh (.int (2 * x))) := mul_l (by decide)
        have q1 := p (show 0 ≤ a + 8 + 2 * (x : Int) by omega) (by omega) (show (0 : Int) < 729 by omega)
        have q2 := p (show 0 ≤ a + 9 + 2 * (x : Int) by omega) (by omega) (show (0 : Int) < 64 by omega)
        obtain ⟨r, hr1, q3⟩ := e_line (k := k) (m := m) (d := pk ds (a + 8 + 2 * (x : Int)) 729) (s := pk ds (a + 9 + 2 * (x : Int)) 64) m6
        have q4 := e_fits (k := k) (r := r) (o := o) (row_l6 hr1 m6) (row_sok hr1) (by rw [hr1.len]; exact hx)
        have q5 := e_contrary (k := k) (r := r) (row_l6 hr1 m6) (row_sok hr1)
        have hgo : ∀ r', RowOk m r' → ∃ L', ∃ y z, L'.length = x + 1 ∧ (∀ r ∈ L', RowOk m r) ∧ [some (Md.ro, vecL ds), some (.sh, .int a), some (.sh, .int (m : Nat)), some (.sh, ltr o), some (.sh, .int mo), some (.sh, .int (mn : Nat)), some (.sh, .int kd), some (.ow, rwD (L ++ [r'])), some (.sh, .int (x : Nat)), some (.sh, .str r'), none, none] = [some (.ro, vecL ds), some (.sh, .int a), some (.sh, .int (m : Nat)), some (.sh, ltr o), some (.sh, .int mo), some (.sh, .int (mn : Nat)), some (.sh, .int kd), some (.ow, rwD L'), y, z, none, none] := fun r' h => ⟨L ++ [r'], _, _, by simp [hL], row_app hr h, rfl⟩
        have hap := fun t => app_rw (xs := L) (t := t) (by rw [hlim]; omega)
        by_cases hk : 0 < kd
        · cases hf : PT.fitsA o (codeAR r) with
          | true =>
            refine ⟨[some (.ro, vecL ds), some (.sh, .int a), some (.sh, .int (m : Nat)), some (.sh, ltr o), some (.sh, .int mo), some (.sh, .int (mn : Nat)), some (.sh, .int kd), some (.ow, rwD (L ++ [r])), some (.sh, .int (x : Nat)), some (.sh, .str r), none, none], ?_, hgo r hr1⟩
            simp [mu, q1, q2, q3, q4, hk, hf, hap]
          | false =>
            refine ⟨[some (.ro, vecL ds), some (.sh, .int a), some (.sh, .int (m : Nat)), some (.sh, ltr o), some (.sh, .int mo), some (.sh, .int (mn : Nat)), some (.sh, .int kd), some (.ow, rwD (L ++ [flipR r])), some (.sh, .int (x : Nat)), some (.sh, .str (flipR r)), none, none], ?_, hgo _ (flip_ok hr1)⟩
            simp [mu, q1, q2, q3, q4, q5, hk, hf, hap]
        · refine ⟨[some (.ro, vecL ds), some (.sh, .int a), some (.sh, .int (m : Nat)), some (.sh, ltr o), some (.sh, .int mo), some (.sh, .int (mn : Nat)), some (.sh, .int kd), some (.ow, rwD (L ++ [r])), some (.sh, .int (x : Nat)), some (.sh, .str r), none, none], ?_, hgo r hr1⟩
          simp [mu, q1, q2, q3, hk, hap]
      · rintro ρ ⟨L, y, z, hL, hr, rfl⟩
        rw [List.length_range] at hL
        exact ⟨L, y, z, hL, hr, rfl⟩
    rintro ρ ⟨L, y, z, hL, hr, rfl⟩
    refine seq_ex (fun ρ => ∃ L y w z, L.length = mn ∧ (∀ r ∈ L, RowOk m r) ∧ ρ = [some (.ro, vecL ds), some (.sh, .int a), some (.sh, .int (m : Nat)), some (.sh, ltr o), some (.sh, .int mo), some (.sh, .int (mn : Nat)), some (.sh, .int kd), some (.ow, rwD L), y, z, w, none]) ?_ ?_
    · by_cases hk : kd = 2
      · subst hk
        by_cases h0 : 0 < mn
        · have h0' : (0 : Int) < mn := by omega
          have q1 := p (show 0 ≤ a + 3 by omega) (by omega) (show (0 : Int) < 3 by omega)
          have hp := pk_rng (ds := ds) (i := a + 3) (n := 3) (by omega)
          have rn2 : rng1D [.int (1 + pk ds (a + 3) 3)] = some (ups (1 + pk ds (a + 3) 3).toNat) := rng_i (by omega) (by omega)
          have hp3 : (1 + pk ds (a + 3) 3).toNat ≤ 3 := by omega
          generalize (1 + pk ds (a + 3) 3).toNat = n2 at rn2 hp3
          simp [h0, q1, rn2, ups, seq_nx, -exists_and_left, -exists_and_right]
          refine for_to (List.range n2) (fun j => .int (j : Nat)) (fun j ρ => ∃ L y w z, L.length = mn ∧ (∀ r ∈ L, RowOk m r) ∧ ρ = [some (.ro, vecL ds), some (.sh, .int a), some (.sh, .int (m : Nat)), some (.sh, ltr o), some (.sh, .int mo), some (.sh, .int (mn : Nat)), some (.sh, .int 2), some (.ow, rwD L), y, z, w, none]) ⟨L, _, _, _, hL, hr, rfl⟩ ?_ ?_
          · rintro j x hj ρ ⟨L, y, w, z, hL, hr, rfl⟩
            refine ⟨_, rfl, ?_⟩
            obtain ⟨hj1, hj2⟩ := List.getElem?_eq_some_iff.mp hj
            have hjn : j < n2 := by simpa using hj1
            have hxe : x = j := by simpa using hj2.symm
            subst hxe
            have q2 := p (show 0 ≤ a + 4 + (x : Int) by omega) (by omega) h0'
            have hp2 := pk_rng (ds := ds) (i := a + 4 + (x : Int)) h0'
            obtain ⟨i, hi⟩ : ∃ i : Nat, pk ds (a + 4 + (x : Int)) mn = i := ⟨(pk ds (a + 4 + (x : Int)) mn).toNat, by omega⟩
            rw [hi] at q2 hp2
            have hiL : i < L.length := by omega
            have hri := hr _ (List.getElem_mem hiL)
            have q5 := e_contrary (k := k) (r := L[i]) (row_l6 hri m6) (row_sok hri)
            have q6 := ix_rw hiL
            have q7 := set_rw (x := flipR L[i]) hiL
            refine ⟨[some (.ro, vecL ds), some (.sh, .int a), some (.sh, .int (m : Nat)), some (.sh, ltr o), some (.sh, .int mo), some (.sh, .int (mn : Nat)), some (.sh, .int 2), some (.ow, rwD (L.set i (flipR L[i]))), some (.sh, .int (x : Nat)), z, some (.sh, .int (i : Nat)), none], by simp [q2, q5, q6, q7], L.set i (flipR L[i]), _, _, _, by rw [List.length_set]; exact hL, fun r hrm => ?_, rfl⟩
            rcases List.mem_or_eq_of_mem_set hrm with hrm | rfl
            · exact hr _ hrm
            · exact flip_ok hri
          · rintro ρ ⟨L, y, w, z, hL, hr, rfl⟩
            exact ⟨L, y, w, z, hL, hr, rfl⟩
        · have h0' : ¬ (0 : Int) < mn := by omega
          exact ⟨_, by simp [h0]; ((repeat' apply And.intro) <;> rfl), L, _, _, _, hL, hr, rfl⟩
      · exact ⟨_, by simp [hk]; ((repeat' apply And.intro) <;> rfl), L, _, _, _, hL, hr, rfl⟩
    rintro ρ ⟨L, y, w, z, hL, hr, rfl⟩
    refine seq_ex (fun ρ => ∃ L y z w v, (L.length : Int) ≤ mo ∧ (∀ r ∈ L, RowOk m r) ∧ ρ = [some (.ro, vecL ds), some (.sh, .int a), some (.sh, .int (m : Nat)), some (.sh, ltr o), some (.sh, .int mo), some (.sh, .int (mn : Nat)), some (.sh, .int kd), some (.ow, rwD L), y, z, w, v]) ?_ ?_
    · by_cases hk : kd = 3
      · subst hk
        have hm0 : (0 : Int) < m := by omega
        have q1 := p (show 0 ≤ a + 3 by omega) (by omega) (show (0 : Int) < mn + 1 by omega)
        have q2 := p (show 0 ≤ a + 4 by omega) (by omega) hm0
        have q3 := p (show 0 ≤ a + 5 by omega) (by omega) (show (0 : Int) < 2 by omega)
        have hp := pk_rng (ds := ds) (i := a + 4) hm0
        obtain ⟨L2, g1, g2, g3⟩ := e_round (k := k) (size := 1 + pk ds (a + 4) m) m0 m6 ho (by omega) (by omega)
        generalize pk ds (a + 3) (mn + 1) = pl at q1
        generalize pk ds (a + 5) 2 = pr at q3
        have c1 := cut_len (xs := L) (lo := none) (hi := some pl)
        have c2 := cut_len (xs := L2) (lo := some pr) (hi := none)
        have c3 := cut_len (xs := L) (lo := some pl) (hi := none)
        have a1 := add_rw (r := cutL L none (some pl)) (s := cutL L2 (some pr) none) (by rw [hlim]; omega)
        have a2 := add_rw (r := cutL L none (some pl) ++ cutL L2 (some pr) none) (s := cutL L (some pl) none) (by rw [hlim, List.length_append]; omega)
        refine ⟨_, by simp [q1, q2, q3, g3, slice_rw, a1, a2, -List.append_assoc]; ((repeat' apply And.intro) <;> rfl), _, _, _, _, _, cut_neg (by omega), fun r hrm => ?_, rfl⟩
        rcases List.mem_append.mp (cut_sub hrm) with hrm | hrm
        · rcases List.mem_append.mp hrm with hrm | hrm
          · exact hr _ (cut_sub hrm)
          · exact g2 _ (cut_sub hrm)
        · exact hr _ (cut_sub hrm)
      · exact ⟨_, by simp [hk]; ((repeat' apply And.intro) <;> rfl), L, _, _, _, _, by omega, hr, rfl⟩
    rintro ρ ⟨L, y, z, w, v, hL, hr, rfl⟩
    exact ⟨L, hL, hr, by simp⟩
  obtain ⟨L, h1, h2, h3⟩ := key
  exact ⟨L, h1, h2, of_ends h3 (by simp)⟩
theorem e_closed {k m N : Nat} {ds : List Int} {a : Int} {o : List Nat} {L : List (List Nat)} {md : Md} (hm : Rm md) (hd : Dr N ds) (a0 : 0 ≤ a) (a1 : a + 2 ≤ N) (m0 : 1 ≤ m) (m6 : m ≤ 6) (ho : PT.Beg m m o) (hL : Lns m L) :
    ∃ L', Lns m L' ∧ run (k + 3) 43 [(.ro, vecL ds), (.sh, .int a), (.sh, .int (m : Nat)), (.sh, ltr o), (md, rwD L)] = .ok (.tm (rwD L')) none := by
  have e : run (k + 3) 43 = runB 8 (m_43 (run (k + 2)) (run (k + 1))) := rfl
  rw [e]
  have h6 : slots 8 [(.ro, vecL ds), (.sh, .int a), (.sh, .int (m : Nat)), (.sh, ltr o), (md, rwD L)] = [some (.ro, vecL ds), some (.sh, .int a), some (.sh, .int (m : Nat)), some (.sh, ltr o), some (md, rwD L), none, none, none] := rfl
  have p : ∀ {i n : Int}, 0 ≤ i → i < N → 0 < n → run (k + 2) 26 [(.ro, vecL ds), (.sh, .int i), (.sh, .int n)] = .ok (.sh (.int (pk ds i n))) none := fun h0 h1 hn => e_pick (k := k) hd h0 h1 hn
  have hm0 : (0 : Int) < m := by omega
  have q1 := p a0 (by omega) hm0
  have hp := pk_rng (ds := ds) (i := a) hm0
  obtain ⟨L2, g1, g2, g3⟩ := e_round (k := k) (size := 1 + pk ds a m) m0 m6 ho (by omega) (by omega)
  have q2 := p (show 0 ≤ a + 1 by omega) (by omega) (show (0 : Int) < ((cutL L none (some (60 - (L2.length : Int)))).length : Int) + 1 by omega)
  have c0 := cut_lo (xs := L) (k := 60 - (L2.length : Int)) (by omega)
  rw [c0] at q2
  have hl := hL.len
  generalize hK : L.take (60 - (L2.length : Int)).toNat = K at q2 c0
  have hKl : K.length ≤ (60 - (L2.length : Int)).toNat := by rw [← hK, List.length_take]; omega
  have hKs : ∀ r ∈ K, RowOk m r := fun r hr => hL.row r (by rw [← hK] at hr; exact List.mem_of_mem_take hr)
  have hp2 := pk_rng (ds := ds) (i := a + 1) (n := (K.length : Int) + 1) (by omega)
  generalize pk ds (a + 1) (K.length + 1) = pl at q2 hp2
  have c1 := cut_lo (xs := K) (k := pl) (by omega)
  have c2 := cut_hi (xs := K) (k := pl) (by omega)
  have c3 : (K.take pl.toNat).length + (K.drop pl.toNat).length = K.length := by rw [List.length_take, List.length_drop]; omega
  have a1 := add_rw (r := K.take pl.toNat) (s := L2) (by rw [hlim]; omega)
  have a2 := add_rw (r := K.take pl.toNat ++ L2) (s := K.drop pl.toNat) (by rw [hlim, List.length_append]; omega)
  refine ⟨K.take pl.toNat ++ L2 ++ K.drop pl.toNat, ⟨by rw [List.length_append, List.length_append]; omega, fun r hrm => ?_⟩, of_ends ?_ (by simp)⟩
  · rcases List.mem_append.mp hrm with hrm | hrm
    · rcases List.mem_append.mp hrm with hrm | hrm
      · exact hKs _ (List.mem_of_mem_take hrm)
      · exact g2 _ hrm
    · exact hKs _ (List.mem_of_mem_drop hrm)
  · rw [h6]
    rcases hm with rfl | rfl <;> simp [m_43, q1, g3, slice_rw, c0, q2, c1, c2, a1, a2, -List.append_assoc]
end LW

set_option maxHeartbeats 200000
set_option maxHeartbeats 400000
namespace LW
open PySem PySem.Spec L2 VL
open PT (RowOk gl maskI mskR codeAR orB MOk arL)
@[simp] theorem make_e {c n : Nat} {run : List VL.Arg → DR} {dd : List D} {ms : M (List Rv)} {ρ : VEnv} : mMake c run n dd ms ρ = (ms ρ).bind (makeE c run n dd) := id rfl
theorem makeE_ok {c n : Nat} {run : List VL.Arg → DR} {rs : List Rv} {as : List VL.Arg} {d : D} {ρ : VEnv} (ha : argsD none rs ρ = some as) (hn : as.length + 1 = n) (hr : run ((.me, .ins c [] []) :: as) = .ok (.sh .non) (some d)) : makeE c run n [] rs ρ = .ok (.tm d) ρ := by
  unfold makeE
  rw [ha]
  have h0 : as ++ dArgs [] = as := List.append_nil as
  show (if ((Md.me, D.ins c [] []) :: (as ++ dArgs [])).length = n then _ else _) = _
  rw [h0, if_pos (by simpa using hn), hr]
def cntL (x : Int) : List Int := [3, 4, 5, 3, 4, 5, 6, x]
theorem cnt_ok {x i : Int} (hx0 : 1 ≤ x) (hx1 : x ≤ 6) (h0 : 0 ≤ i) (h1 : i < 8) : ∃ m : Nat, 1 ≤ m ∧ m ≤ 6 ∧ ixD (.lst [.int 3, .int 4, .int 5, .int 3, .int 4, .int 5, .int 6, .int x]) (.int i) = some (.sh (.int (m : Nat))) := by
  have hv : D.lst [.int 3, .int 4, .int 5, .int 3, .int 4, .int 5, .int 6, .int x] = vecL (cntL x) := rfl
  rw [hv, ix_vl h0 (by simpa [cntL] using h1)]
  obtain ⟨n, rfl⟩ : ∃ n : Nat, i = n := ⟨i.toNat, by omega⟩
  have hc : 1 ≤ gi (cntL x) n ∧ gi (cntL x) n ≤ 6 := by
    match n, h1 with
    | 0, _ => exact (show (1 : Int) ≤ 3 ∧ (3 : Int) ≤ 6 by decide)
    | 1, _ => exact (show (1 : Int) ≤ 4 ∧ (4 : Int) ≤ 6 by decide)
    | 2, _ => exact (show (1 : Int) ≤ 5 ∧ (5 : Int) ≤ 6 by decide)
    | 3, _ => exact (show (1 : Int) ≤ 3 ∧ (3 : Int) ≤ 6 by decide)
    | 4, _ => exact (show (1 : Int) ≤ 4 ∧ (4 : Int) ≤ 6 by decide)
    | 5, _ => exact (show (1 : Int) ≤ 5 ∧ (5 : Int) ≤ 6 by decide)
    | 6, _ => exact (show (1 : Int) ≤ 6 ∧ (6 : Int) ≤ 6 by decide)
    | 7, _ => exact ⟨hx0, hx1⟩
    | n + 8, h => omega
  refine ⟨(gi (cntL x) n).toNat, by omega, by omega, ?_⟩
  rw [Int.toNat_of_nonneg (by omega)]
def fitR (o r : List Nat) : List Nat := if PT.fitsA o (codeAR r) = true then r else flipR r
theorem fit_ok {m : Nat} {o r : List Nat} (h : RowOk m r) : RowOk m (fitR o r) := by
  unfold fitR
  split
  · exact h
  · exact flip_ok h
theorem Lns.cut {m : Nat} {L : List (List Nat)} {lo hi : Option Int} (h : Lns m L) : Lns m (cutL L lo hi) := ⟨by have := cut_len (xs := L) (lo := lo) (hi := hi); have := h.len; omega, fun r hr => h.row r (cut_sub hr)⟩
def txL (Ts : List (List (List Nat))) : D := .lst (Ts.map rwD)
def bkL (m : Nat) (Ts : List (List (List Nat))) : D := .lst (Ts.map (bkD m))
@[simp] theorem len_tx {Ts : List (List (List Nat))} : lenD [txL Ts] = some (.sh (.int Ts.length)) := by simp [txL]
@[simp] theorem it_tx {Ts : List (List (List Nat))} : itemsD (txL Ts) = some (Ts.map rwD) := id rfl
@[simp] theorem tyS_bk {α : Type} {m : Nat} {Ts : List (List (List Nat))} {r : Res α} : tyS .list (some (bkL m Ts)) r = r := id rfl
theorem app_bk {m : Nat} {Ts : List (List (List Nat))} {t : List (List Nat)} (h : Ts.length < lim) : appendW (bkL m Ts) [bkD m t] = some (bkL m (Ts ++ [t]), .non) := by
  unfold bkL
  rw [app_l (by simpa using h), List.map_append]
  rfl
theorem ix_tx {Ts : List (List (List Nat))} {i : Nat} (h : i < Ts.length) : ixD (txL Ts) (.int (i : Nat)) = some (.sh (rwD Ts[i])) := ix_l (by simp [h])
theorem ix_bk {m : Nat} {Ts : List (List (List Nat))} {i : Nat} (h : i < Ts.length) : ixD (bkL m Ts) (.int (i : Nat)) = some (.sh (bkD m Ts[i])) := ix_l (by simp [h])
theorem mul_dash {m : Nat} (m6 : m ≤ 6) : mulD (.str [45]) (.int (m : Nat)) = some (.sh (.str (List.replicate m 45))) := by
  match m, m6 with
  | 0, _ => kernel_rfl
  | 1, _ => kernel_rfl
  | 2, _ => kernel_rfl
  | 3, _ => kernel_rfl
  | 4, _ => kernel_rfl
  | 5, _ => kernel_rfl
  | 6, _ => kernel_rfl
  | n + 7, h => omega
theorem ins_rw {L : List (List Nat)} {s : List Nat} (h : L.length < lim) : insertW (rwD L) [.int 0, .str s] = some (rwD (s :: L), .non) := by
  unfold rwD insertW
  simp [h]
theorem list_rw {L : List (List Nat)} : listSD [rwD L] = some (.tm (rwD L)) := rfl
def AllL (m : Nat) (Ts : List (List (List Nat))) : Prop := ∀ L ∈ Ts, Lns m L
def LwR (q : SR) : Prop := VL.Ends q (.ok (.sh (.bl true)) none)
def env (ns : List Int) (ds : List Int) (m : Nat) (o : List Nat) (l5 l6 l7 l8 l9 l10 l11 l12 l13 l14 : Slot) : VEnv := [some (.sh, .scr ns), some (.ow, vecL ds), some (.sh, .int (m : Nat)), some (.sh, ltr o), some (.ow, otL (PT.ords m m)), l5, l6, l7, l8, l9, l10, l11, l12, l13, l14]
theorem r_law {k : Nat} {ns : List Int} : run (k + 9) 44 [(.sh, .scr ns)] = .ok (.sh (.bl true)) none := by
  have e : run (k + 9) 44 = runB 15 (m_44 (run (k + 8)) (run (k + 7))) := rfl
  rw [e]
  refine of_ends ?_ (by simp)
  have h6 : slots 15 [(Md.sh, D.scr ns)] = [some (.sh, .scr ns), none, none, none, none, none, none, none, none, none, none, none, none, none, none] := rfl
  have l7 : (7 : Nat) ≤ lim := by rw [hlim]; omega
  have l8 : (8 : Nat) ≤ lim := by rw [hlim]; omega
  rw [h6, m_44]
  refine (id : LwR _ → _) ?_
  obtain ⟨ds, hd, q0⟩ := e_draws (k := k + 5) (n := 136) (ns := ns) (by omega)
  have q0 : run (k + 8) 25 [(.sh, .scr ns), (.sh, .int 136)] = .ok (.tm (vecL ds)) none := q0
  have p : ∀ {i n : Int}, 0 ≤ i → i < 136 → 0 < n → run (k + 8) 26 [(.ro, vecL ds), (.sh, .int i), (.sh, .int n)] = .ok (.sh (.int (pk ds i n))) none := fun h0 h1 hn => e_pick (k := k + 6) hd h0 h1 hn
  refine seq_ex (R := LwR) (fun ρ => ρ = [some (.sh, .scr ns), some (.ow, vecL ds), none, none, none, none, none, none, none, none, none, none, none, none, none]) ⟨_, by simp [q0], rfl⟩ ?_
  rintro ρ rfl
  have hp1 := pk_rng (ds := ds) (i := 1) (n := 2) (by omega)
  have hp0 := pk_rng (ds := ds) (i := 0) (n := 8) (by omega)
  obtain ⟨m, m0, m6, qm⟩ := cnt_ok (x := 1 + pk ds 1 2) (i := pk ds 0 8) (by omega) (by omega) (by omega) (by omega)
  refine seq_ex (R := LwR) (fun ρ => ρ = [some (.sh, .scr ns), some (.ow, vecL ds), some (.sh, .int (m : Nat)), none, none, none, none, none, none, none, none, none, none, none, none]) ⟨_, by simp [l8, p (show (0 : Int) ≤ 1 by omega) (by omega) (show (0 : Int) < 2 by omega), p (show (0 : Int) ≤ 0 by omega) (by omega) (show (0 : Int) < 8 by omega), qm], rfl⟩ ?_
  rintro ρ rfl
  obtain ⟨o, ho, qo⟩ := e_ranking (k := k + 6) (m := m) (d := pk ds 2 720) m0 m6
  refine seq_ex (R := LwR) (fun ρ => ρ = [some (.sh, .scr ns), some (.ow, vecL ds), some (.sh, .int (m : Nat)), some (.sh, ltr o), none, none, none, none, none, none, none, none, none, none, none]) ⟨_, by simp [p (show (0 : Int) ≤ 2 by omega) (by omega) (show (0 : Int) < 720 by omega), qo], rfl⟩ ?_
  rintro ρ rfl
  have q4 := e_orders (k := k + 6) (m := m) m6
  refine seq_ex (R := LwR) (fun ρ => ρ = env ns ds m o none none none none none none none none none none) ⟨_, by simp [q4, env], rfl⟩ ?_
  rintro ρ rfl
  obtain ⟨L, hL1, hL2, qL⟩ := e_lines (k := k + 5) (a := 8) (mo := 60) hd (by omega) (by omega) (by omega) m0 m6 ho (by omega) (by omega)
  have hL : Lns m L := ⟨by omega, hL2⟩
  refine seq_ex (R := LwR) (fun ρ => ρ = env ns ds m o (some (.ow, rwD L)) none none none none none none none none none) ⟨_, by simp [env, qL], rfl⟩ ?_
  rintro ρ rfl
  have hF : Lns m (L.map (fitR o)) := ⟨by rw [List.length_map]; exact hL.len, fun r hr => by
    obtain ⟨s, hs, rfl⟩ := List.mem_map.mp hr
    exact fit_ok (hL.row s hs)⟩
  refine seq_ex (R := LwR) (fun ρ => ρ = env ns ds m o (some (.sh, rwD L)) (some (.ow, rwD (L.map (fitR o)))) none none none none none none none none) ⟨_, ?_, rfl⟩ ?_
  · rw [set_e, lc_mapF (ρ := env ns ds m o (some (.sh, rwD L)) none none none none none none none none none) L D.str (fun _ => true) (fun r => .str (fitR o r)) (by simp [env]) (by have := hL.len; rw [hlim]; omega) (by
      intro r hr
      have hr1 := hL.row r hr
      have q4 := e_fits (k := k + 6) (r := r) (o := o) (row_l6 hr1 m6) (row_sok hr1) (by rw [hr1.len]; exact ho.lt)
      have q5 := e_contrary (k := k + 6) (r := r) (row_l6 hr1 m6) (row_sok hr1)
      refine ⟨_, rfl, _, rfl, ?_⟩
      rw [if_pos rfl]
      refine ⟨env ns ds m o (some (.sh, rwD L)) none none none none none none none none (some (.sh, .str r)), ?_, rfl⟩
      unfold fitR
      cases hf : PT.fitsA o (codeAR r) with
      | true => simp [env, wipeE, q4, hf]
      | false => simp [env, wipeE, q4, q5, hf])]
    simp [env, rwD, -List.map_map, List.filter_eq_self.mpr]
    rw [List.map_map]
    rfl
  rintro ρ rfl
  generalize L.map (fitR o) = F at hF
  obtain ⟨Cl, hC, qC⟩ := e_closed (k := k + 5) (a := 3) (md := .ro) (.inr rfl) hd (by omega) (by omega) m0 m6 ho hF
  refine seq_ex (R := LwR) (fun ρ => ρ = env ns ds m o (some (.sh, rwD L)) (some (.ow, rwD F)) (some (.ow, rwD Cl)) none none none none none none none) ⟨_, by simp [env, qC], rfl⟩ ?_
  rintro ρ rfl
  have hlen := hF.len
  have hD : Lns m ((F ++ F).take 60) := ⟨by rw [List.length_take]; omega, fun r hr => by
    rcases List.mem_append.mp (List.mem_of_mem_take hr) with hr | hr <;> exact hF.row r hr⟩
  have hG : Lns m (L.filter fun r => !decide (45 ∈ r)) := ⟨by have := List.length_filter_le (fun r => !decide (45 ∈ r)) L; have := hL.len; omega, fun r hr => hL.row r ((List.mem_filter.mp hr).1)⟩
  have hZ : Lns m [] := ⟨by simp, by simp⟩
  have hA : AllL m [F, Cl, L, (F ++ F).take 60, L.filter (fun r => !decide (45 ∈ r)), cutL L (some (-1)) none, []] := by
    intro X hX
    simp only [List.mem_cons, List.not_mem_nil, or_false] at hX
    rcases hX with rfl | rfl | rfl | rfl | rfl | rfl | rfl
    · exact hF
    · exact hC
    · exact hL
    · exact hD
    · exact hG
    · exact hL.cut
    · exact hZ
  refine seq_ex (R := LwR) (fun ρ => ρ = env ns ds m o (some (.sh, rwD L)) (some (.sh, rwD F)) (some (.sh, rwD Cl)) (some (.ow, txL [F, Cl, L, (F ++ F).take 60, L.filter (fun r => !decide (45 ∈ r)), cutL L (some (-1)) none, []])) none none none none none none) ⟨_, ?_, rfl⟩ ?_
  · have a1 := add_rw (r := F) (s := F) (by rw [hlim]; omega)
    have c1 := cut_lo (xs := F ++ F) (k := 60) (by omega)
    have q := lc_map (ρ := env ns ds m o (some (.sh, rwD L)) (some (.sh, rwD F)) (some (.sh, rwD Cl)) none none none none none none none) (mi := (((mFrz 5)).bind srcM)) (f := tgName 14) (tt := (((mBin notInD (mCst (.str [45])) ((mVar 14))).bind asB))) (te := (((mFrz 14)).bind shR)) (vs := [14])
      L D.str (fun r => !decide (45 ∈ r)) D.str (by simp [env]) (by have := hL.len; rw [hlim]; omega) (by
        intro r hr
        refine ⟨_, rfl, env ns ds m o (some (.sh, rwD L)) (some (.sh, rwD F)) (some (.sh, rwD Cl)) none none none none none none (some (.sh, .str r)), by simp [env, wipeE], ?_⟩
        split
        · exact ⟨_, by simp [env]; rfl, rfl⟩
        · rfl)
    have h60 : (60 : Int).toNat = 60 := rfl
    rw [h60] at c1
    unfold env at q ⊢
    simp [l7, a1, c1, q, slice_rw, -List.append_assoc]
    rfl
  rintro ρ rfl
  generalize hTs : [F, Cl, L, (F ++ F).take 60, L.filter (fun r => !decide (45 ∈ r)), cutL L (some (-1)) none, []] = Ts at hA
  have hT7 : Ts.length = 7 := by rw [← hTs]; rfl
  have hEb : ∀ {T : List (List Nat)}, Lns m T → run (k + 7) 9 [(.me, .ins 7 [] []), (.sh, .int (m : Nat)), (.ro, rwD T)] = .ok (.sh .non) (some (bkD m T)) := fun h => e_init (k := k + 4) (h.rws m0 m6)
  refine seq_ex (R := LwR) (fun ρ => ρ = env ns ds m o (some (.sh, rwD L)) (some (.sh, rwD F)) (some (.sh, rwD Cl)) (some (.ow, txL Ts)) (some (.ow, bkL m [])) none none none none none) ⟨_, by simp [env]; rfl, rfl⟩ ?_
  rintro ρ rfl
  refine seq_ex (R := LwR) (fun ρ => ∃ y z, ρ = env ns ds m o (some (.sh, rwD L)) (some (.sh, rwD F)) (some (.sh, rwD Cl)) (some (.sh, txL Ts)) (some (.ow, bkL m Ts)) y z none none none) ?_ ?_
  · simp [env]
    refine for_to Ts rwD (fun j ρ => ∃ y z, ρ = env ns ds m o (some (.sh, rwD L)) (some (.sh, rwD F)) (some (.sh, rwD Cl)) (some (.sh, txL Ts)) (some (.ow, bkL m (Ts.take j))) y z none none none) ⟨none, none, rfl⟩ ?_ ?_
    · rintro j T hj ρ ⟨y, z, rfl⟩
      have hT := hA T (List.mem_of_getElem? hj)
      have hjl := (List.getElem?_eq_some_iff.mp hj).1
      refine ⟨env ns ds m o (some (.sh, rwD L)) (some (.sh, rwD F)) (some (.sh, rwD Cl)) (some (.sh, txL Ts)) (some (.ow, bkL m (Ts.take j))) (some (.sh, rwD T)) z none none none, rfl, env ns ds m o (some (.sh, rwD L)) (some (.sh, rwD F)) (some (.sh, rwD Cl)) (some (.sh, txL Ts)) (some (.ow, bkL m (Ts.take (j + 1)))) (some (.sh, rwD T)) (some (.ow, rwD (List.replicate m 45 :: T))) none none none, ?_, _, _, rfl⟩
      have htk : Ts.take (j + 1) = Ts.take j ++ [T] := by
        have h1 : (some T).toList = [T] := rfl
        rw [List.take_succ, hj, h1]
      rw [htk]
      have hap := app_bk (m := m) (Ts := Ts.take j) (t := T) (by rw [hlim, List.length_take]; omega)
      have hin := ins_rw (L := T) (s := List.replicate m 45) (by have := hT.len; rw [hlim]; omega)
      have hmk : ∀ ρ, ρ = env ns ds m o (some (.sh, rwD L)) (some (.sh, rwD F)) (some (.sh, rwD Cl)) (some (.sh, txL Ts)) (some (.ow, bkL m (Ts.take j))) (some (.sh, rwD T)) (some (.ow, rwD T)) none none none → makeE 7 (run (k + 7) 9) 3 [] [.sh (.int (m : Nat)), .pk 11] ρ = .ok (.tm (bkD m T)) ρ := fun ρ hρ => by
        subst hρ
        exact makeE_ok (as := [(.sh, .int (m : Nat)), (.ro, rwD T)]) (by simp [env]) rfl (hEb hT)
      have hmk := hmk _ rfl
      unfold env at hmk ⊢
      simp [list_rw, hmk, hap, mul_dash m6, hin]
    · rintro ρ ⟨y, z, rfl⟩
      rw [List.take_length]
      exact ⟨y, z, rfl⟩
  rintro ρ ⟨y, z, rfl⟩
  have rn : rng1D [.int (Ts.length : Nat)] = some (ups Ts.length) := rng_ups (by omega)
  have hW : ∀ {T : List (List Nat)}, Lns m T → run (k + 8) 42 [(.ro, otL (PT.ords m m)), (.sh, rwD T), (.sh, bkD m T)] = .ok (.sh (.bl true)) none := fun h => e_lawright (k := k) (h.rws m0 m6)
  have hS : ∀ {T : List (List Nat)}, Lns m T → run (k + 8) 27 [(.sh, .tup (T.map .str)), (.sh, rwD T)] = .ok (.sh (.bl true)) none := fun h => same_rows (k := k + 5) (fun r hr => row_sok (h.row r hr)) (by have := h.len; omega)
  refine seq_ex (R := LwR) (fun ρ => ∃ w, ρ = env ns ds m o (some (.sh, rwD L)) (some (.sh, rwD F)) (some (.sh, rwD Cl)) (some (.sh, txL Ts)) (some (.ow, bkL m Ts)) y z w none none) ?_ ?_
  · simp [env, rn, ups]
    refine for_to (List.range Ts.length) (fun j => .int (j : Nat)) (fun _ ρ => ∃ w, ρ = env ns ds m o (some (.sh, rwD L)) (some (.sh, rwD F)) (some (.sh, rwD Cl)) (some (.sh, txL Ts)) (some (.ow, bkL m Ts)) y z w none none) ⟨none, rfl⟩ ?_ ?_
    · rintro j x hj ρ ⟨w, rfl⟩
      have hx : x < Ts.length := List.mem_range.mp (List.mem_of_getElem? hj)
      refine ⟨env ns ds m o (some (.sh, rwD L)) (some (.sh, rwD F)) (some (.sh, rwD Cl)) (some (.sh, txL Ts)) (some (.ow, bkL m Ts)) y z (some (.sh, .int (x : Nat))) none none, rfl, env ns ds m o (some (.sh, rwD L)) (some (.sh, rwD F)) (some (.sh, rwD Cl)) (some (.sh, txL Ts)) (some (.ow, bkL m Ts)) y z (some (.sh, .int (x : Nat))) none none, ?_, _, rfl⟩
      have hT := hA _ (List.getElem_mem hx)
      simp [env, ix_tx hx, ix_bk hx, hW hT]
    · rintro ρ h
      exact h
  rintro ρ ⟨w, rfl⟩
  refine seq_ex (R := LwR) (fun ρ => ∃ w v, ρ = env ns ds m o (some (.sh, rwD L)) (some (.sh, rwD F)) (some (.sh, rwD Cl)) (some (.sh, txL Ts)) (some (.ow, bkL m Ts)) y z w v none) ?_ ?_
  · simp [env, rn, ups]
    refine for_to (List.range Ts.length) (fun j => .int (j : Nat)) (fun _ ρ => ∃ w v, ρ = env ns ds m o (some (.sh, rwD L)) (some (.sh, rwD F)) (some (.sh, rwD Cl)) (some (.sh, txL Ts)) (some (.ow, bkL m Ts)) y z w v none) ⟨w, none, rfl⟩ ?_ ?_
    · rintro j x hj ρ ⟨w, v, rfl⟩
      have hx : x < Ts.length := List.mem_range.mp (List.mem_of_getElem? hj)
      obtain ⟨a, ha, hae⟩ : ∃ a : Nat, (Ts.length : Int) - 1 - (x : Int) = a ∧ a < Ts.length := ⟨Ts.length - 1 - x, by omega, by omega⟩
      refine ⟨env ns ds m o (some (.sh, rwD L)) (some (.sh, rwD F)) (some (.sh, rwD Cl)) (some (.sh, txL Ts)) (some (.ow, bkL m Ts)) y z (some (.sh, .int (x : Nat))) v none, rfl, env ns ds m o (some (.sh, rwD L)) (some (.sh, rwD F)) (some (.sh, rwD Cl)) (some (.sh, txL Ts)) (some (.ow, bkL m Ts)) y z (some (.sh, .int (x : Nat))) (some (.sh, .int (a : Nat))) none, ?_, _, _, rfl⟩
      have hT := hA _ (List.getElem_mem hae)
      simp [env, ha, ix_tx hae, ix_bk hae, hW hT, hS hT, fld_rows]
    · rintro ρ h
      exact h
  rintro ρ ⟨w, v, rfl⟩
  unfold LwR
  simp
end LW

set_option maxHeartbeats 200000
set_option maxHeartbeats 0
section
open PySem PySem.W PySem.Calls PyProof.Rows
theorem PySem.Challenge.cw_rankedtongues_k16_first_ranking_that_fit_holds : PySem.Challenge.rw_rankedtongues_k16_first_ranking_that_fit.Holds := by
  w_on; o_law
  refine HandSHeadRun.head_any (r := LW.RR) (q := PySem.W.view LW.RR.prog [53]) (H := LW.hk) (ob := LW.ob) (M := 4000) (loose := LW.loose) (d := HandSHeadRun.topDef LW.RR.prog 53) (kwd := []) LW.ob_eq
    (by kernel_rfl) (fun s => by kernel_rfl) LW.runs (by kernel_rfl) (by kernel_rfl) (by kernel_rfl) (by rfl) (by first | assumption | decide +kernel) (by decide +kernel) ⟨rfl, rfl, rfl, rfl, rfl, by decide +kernel⟩ ?hw ?hc
  case hw => w_witness2
  case hc =>
    refine VL.walk_w (l := PySem.Challenge.rw_rankedtongues_k16_first_ranking_that_fit) (k := 18) (C := fun w => L2N.CX LW.PR w) rfl (by kernel_rfl) ⟨rfl, by decide, by decide⟩ ?F (fun _ _ _ _ _ z => VL.no_air z)
    intro w mg fa h Y G hmg0
    obtain ⟨K, KX, c⟩ := Y
    have hmg : mg ("law" : PySem.Str) = some (.ref fa) := by
      have e : (HandSHeadRun.topDef LW.RR.prog 53).name = ("law" : PySem.Str) := by kernel_rfl
      rw [← e]
      exact hmg0
    exact LW.ends (n := 16) c KX G hmg fun ns _ => LW.r_law (k := 9)
end

set_option maxHeartbeats 200000
