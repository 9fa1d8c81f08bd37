import PyProof.Rows.All
import Wide.All
import OpenK.AllK
import Wide.FinOn
import KE.KStateDown
import Lean
import HandS.ForMost
import HandS.ForExc
import HandS.Defaults
import HandS.Wide
import HandS.WideBits
import HandS.Gcd
import HandS.IsInst
import HandS.TupAny
import PySem.Challenge.RW_mappedout_k88_transforms_and_their_numbe
import HandS.ExcInit
import HandS.WordsExc
import HandS.HotCalls
import HandS.ExcField
import HandS.ExcIs
import HandS.Deep
import HandS.Text
import HandS.SetFor
import KE.KExcIs
import HandS.Head0
import HandS.Head1
import HandS.Head2
import HandS.Head3
import HandS.HeadEnd
import HandS.HeadHook1
import HandS.HeadHook2
set_option Elab.async false
set_option linter.all false
set_option maxRecDepth 100000
set_option maxHeartbeats 0
/-! A1 -/
/-! A layer of plain data over the hand layer: what a reading asks of data alone. -/
namespace L2
open PySem PySem.Spec PyProof.Rows
abbrev D := PyData
/-! data at a value: lists as they stand in the part F, tuples there or in the written part -/
mutual
inductive Dq (K : PySem.W.Frag) (F : Hp) : V → PyData → Prop
  | non : Dq K F .non .none
  | bl (b : Bool) : Dq K F (.bl b) (.bool b)
  | int (i : Int) : Dq K F (.int i) (.int i)
  | str (x : Str) : Dq K F (.str x) (.str x)
  | lst {a : Addr} {xs : List V} {ds : List PyData} : F a = some (.lst xs) → DqAll K F xs ds → Dq K F (.ref a) (.list ds)
  | tup {a : Addr} {xs : List V} {ds : List PyData} : SqT K F a xs → DqAll K F xs ds → Dq K F (.ref a) (.tuple ds)
inductive DqAll (K : PySem.W.Frag) (F : Hp) : List V → List PyData → Prop
  | nil : DqAll K F [] []
  | cons {v : V} {vs : List V} {d : PyData} {ds : List PyData} : Dq K F v d → DqAll K F vs ds → DqAll K F (v :: vs) (d :: ds)
end
theorem sqT_mono {K : PySem.W.Frag} {F F' : Hp} {a : Addr} {xs : List V} (e : Same F F') (h : SqT K F a xs) : SqT K F' a xs := h.imp (fun r => r.imp (e _ _) fun ⟨o, r⟩ => ⟨o, e _ _ r⟩) id
mutual
theorem Dq.dp {K : PySem.W.Frag} {F : Hp} : ∀ (d : D) (v : V), Dq K F v d → Dp K F v d
  | .none, _, h => by cases h; exact .non
  | .bool _, _, h => by cases h; exact .bl _
  | .int _, _, h => by cases h; exact .int _
  | .str _, _, h => by cases h; exact .str _
  | .list ds, _, h => by
    cases h with
    | lst hs ha => exact .lst (SqL.of hs) (DqAll.dp ds _ ha)
  | .tuple ds, _, h => by
    cases h with
    | tup hs ha => exact .tup hs (DqAll.dp ds _ ha)
  | .dict _, _, h => by cases h
theorem DqAll.dp {K : PySem.W.Frag} {F : Hp} : ∀ (ds : List D) (vs : List V), DqAll K F vs ds → DpAll K F vs ds
  | [], _, h => by cases h; exact .nil
  | d :: ds, _, h => by
    cases h with
    | cons h1 h2 => exact .cons (Dq.dp d _ h1) (DqAll.dp ds _ h2)
end
/-! ### data at values, in the part F of the heap that is never written -/
mutual
theorem Dq.mono {K : PySem.W.Frag} {F F' : Hp} (e : Same F F') : ∀ (d : D) (v : V), Dq K F v d → Dq K F' v d
  | .none, _, h => by cases h; exact .non
  | .bool _, _, h => by cases h; exact .bl _
  | .int _, _, h => by cases h; exact .int _
  | .str _, _, h => by cases h; exact .str _
  | .list ds, _, h => by
    cases h with
    | lst hs ha => exact .lst (e _ _ hs) (DqAll.mono e ds _ ha)
  | .tuple ds, _, h => by
    cases h with
    | tup hs ha => exact .tup (sqT_mono e hs) (DqAll.mono e ds _ ha)
  | .dict _, _, h => by cases h
theorem DqAll.mono {K : PySem.W.Frag} {F F' : Hp} (e : Same F F') : ∀ (ds : List D) (vs : List V), DqAll K F vs ds → DqAll K F' vs ds
  | [], _, h => by cases h; exact .nil
  | d :: ds, _, h => by
    cases h with
    | cons h1 h2 => exact .cons (Dq.mono e d _ h1) (DqAll.mono e ds _ h2)
end
theorem DqAll.len {K : PySem.W.Frag} {F : Hp} : ∀ {ds : List D} {vs : List V}, DqAll K F vs ds → vs.length = ds.length
  | [], _, h => by cases h; rfl
  | d :: ds, _, h => by
    cases h with
    | cons h1 h2 => show _ + 1 = _ + 1; rw [DqAll.len h2]
theorem DqAll.get {K : PySem.W.Frag} {F : Hp} : ∀ {ds : List D} {vs : List V} {i : Nat} {d : D}, DqAll K F vs ds → ds[i]? = some d → ∃ v, vs[i]? = some v ∧ Dq K F v d
  | [], _, _, _, _, h => by simp at h
  | d :: ds, _, 0, x, h, e => by
    cases h with
    | cons h1 h2 =>
      cases (show some d = some x from e)
      exact ⟨_, rfl, h1⟩
  | d :: ds, _, i + 1, x, h, e => by
    cases h with
    | cons h1 h2 =>
      obtain ⟨v, q1, q2⟩ := DqAll.get (i := i) (d := x) h2 (by simpa using e)
      exact ⟨v, by simpa using q1, q2⟩
theorem DqAll.getV {K : PySem.W.Frag} {F : Hp} {ds : List D} {vs : List V} {i : Nat} {v : V} (h : DqAll K F vs ds) (e : vs[i]? = some v) : ∃ d, ds[i]? = some d ∧ Dq K F v d := by
  have hl := h.len
  obtain ⟨hi, _⟩ := List.getElem?_eq_some_iff.mp e
  obtain ⟨w, q1, q2⟩ := h.get (i := i) (d := ds[i]'(by omega)) (List.getElem?_eq_getElem _)
  rw [e] at q1
  cases q1
  exact ⟨_, List.getElem?_eq_getElem _, q2⟩
theorem DqAll.app {K : PySem.W.Frag} {F : Hp} : ∀ {ds es : List D} {vs ws : List V}, DqAll K F vs ds → DqAll K F ws es → DqAll K F (vs ++ ws) (ds ++ es)
  | [], _, _, _, h, q => by cases h; exact q
  | d :: ds, _, _, _, h, q => by
    cases h with
    | cons h1 h2 => exact .cons h1 (DqAll.app h2 q)
theorem DqAll.drop {K : PySem.W.Frag} {F : Hp} : ∀ {ds : List D} {vs : List V} (n : Nat), DqAll K F vs ds → DqAll K F (vs.drop n) (ds.drop n)
  | _, _, 0, h => h
  | [], _, n + 1, h => by cases h; exact .nil
  | d :: ds, _, n + 1, h => by
    cases h with
    | cons h1 h2 => exact DqAll.drop n h2
theorem DqAll.take {K : PySem.W.Frag} {F : Hp} : ∀ {ds : List D} {vs : List V} (n : Nat), DqAll K F vs ds → DqAll K F (vs.take n) (ds.take n)
  | _, _, 0, h => .nil
  | [], _, n + 1, h => by cases h; exact .nil
  | d :: ds, _, n + 1, h => by
    cases h with
    | cons h1 h2 => exact .cons h1 (DqAll.take n h2)
theorem DqAll.erase {K : PySem.W.Frag} {F : Hp} : ∀ {ds : List D} {vs : List V} (n : Nat), DqAll K F vs ds → DqAll K F (vs.eraseIdx n) (ds.eraseIdx n)
  | [], _, _, h => by cases h; exact .nil
  | d :: ds, _, 0, h => by
    cases h with
    | cons h1 h2 => exact h2
  | d :: ds, _, n + 1, h => by
    cases h with
    | cons h1 h2 => exact .cons h1 (DqAll.erase n h2)
theorem DqAll.of_ints {K : PySem.W.Frag} {F : Hp} : ∀ ns : List Int, DqAll K F (ns.map V.int) (ns.map PyData.int)
  | [] => .nil
  | n :: r => .cons (.int n) (DqAll.of_ints r)
end L2
namespace AL
open PySem PySem.Spec PyProof.Rows L2
/-! ### slots -/
/-- i: data that stays; m: a list of the def's own, by its items; o: a value as it is -/
inductive AV where
  | i (d : D) | m (ds : List D) | o (v : V) | x (v : V) (d : Addr) (fs : List (Str × V))
abbrev Rho := List (Option AV)
/-- a stream: its place, its list of ints -/
structure Zs where
  a : Addr
  l : Addr
  ns : List Int
def zn (z : Option Zs) (p : Addr) : Prop := ∀ s, z = some s → s.a ≠ p
/-- the stream s: a list of a list of ints, two ints that are not below 0 -/
def Strm (F H : Hp) (s : Zs) : Prop := F s.a = none ∧ F s.l = some (.lst (s.ns.map V.int)) ∧ ∃ c k : Int, H s.a = some (.lst [.ref s.l, .int c, .int k]) ∧ 0 ≤ c ∧ 0 ≤ k
structure Wd (z : Option Zs) (F H : Hp) : Prop where
  sub : Same F H
  st : ∀ s, z = some s → Strm F H s
structure Stp (z : Option Zs) (F H F' H' : Hp) : Prop where
  fx : Same F F'
  keep : ∀ a o, H a = some o → zn z a → H' a = some o
  out : ∀ a o, H a = some o → F a = none → F' a = none
theorem zn_none (p : Addr) : zn none p := fun _ e => nomatch e
theorem Wd.zn_new {z : Option Zs} {F H : Hp} (w : Wd z F H) {p : Addr} (h : H p = none) : zn z p := fun s e c => by
  obtain ⟨_, _, _, _, hx, _⟩ := w.st s e
  rw [c, h] at hx
  cases hx
theorem Stp.refl {z : Option Zs} {F H : Hp} : Stp z F H F H := ⟨fun _ _ e => e, fun _ _ e _ => e, fun _ _ _ e => e⟩
theorem Stp.trans {z : Option Zs} {F H F1 H1 F2 H2 : Hp} (w1 : Wd z F1 H1) (a : Stp z F H F1 H1) (b : Stp z F1 H1 F2 H2) : Stp z F H F2 H2 where
  fx := fun x o e => b.fx x o (a.fx x o e)
  keep := fun x o e n => b.keep x o (a.keep x o e n) n
  out := fun x o e n => by
    by_cases hz : zn z x
    · exact b.out x o (a.keep x o e hz) (a.out x o e n)
    · obtain ⟨s, hs⟩ := Classical.not_forall.mp hz
      obtain ⟨h1, h2⟩ := Classical.not_imp.mp hs
      have h3 : s.a = x := Classical.not_not.mp h2
      obtain ⟨_, _, c, k, hx, _⟩ := w1.st s h1
      rw [h3] at hx
      exact b.out x _ hx (a.out x o e n)
/-- without a stream: with one, it stands -/
theorem Wd.none {z : Option Zs} {F H : Hp} (w : Wd z F H) : Wd none F H := ⟨w.sub, fun _ e => nomatch e⟩
theorem Wd.back {z : Option Zs} {F H F' H' : Hp} (w : Wd z F H) (w' : Wd Option.none F' H') (s : Stp Option.none F H F' H') : Wd z F' H' := ⟨w'.sub, fun a e => by
  obtain ⟨h1, h2, c, k, h3, h4, h5⟩ := w.st a e
  exact ⟨s.out _ _ h3 h1, s.fx _ _ h2, c, k, s.keep _ _ h3 (zn_none _), h4, h5⟩⟩
theorem Stp.back {z : Option Zs} {F H F' H' : Hp} (s : Stp Option.none F H F' H') : Stp z F H F' H' := ⟨s.fx, fun a o e _ => s.keep a o e (zn_none _), s.out⟩
/-- a new object that stays -/
theorem Wd.new {z : Option Zs} {F H : Hp} (w : Wd z F H) {p : Addr} {o : HO} (h : H p = Option.none) : Wd z (upd F p o) (upd H p o) := by
  refine ⟨fun a u e => ?_, fun a e => ?_⟩
  · by_cases q : a = p
    · subst q
      rw [upd_same] at e ⊢
      exact e
    · rw [upd_ne q] at e ⊢
      exact w.sub a u e
  · obtain ⟨h1, h2, c, k, h3, h4, h5⟩ := w.st a e
    have ha : a.a ≠ p := ne_of_none h3 h
    have hl : a.l ≠ p := ne_of_none (w.sub _ _ h2) h
    exact ⟨by rw [upd_ne ha]; exact h1, by rw [upd_ne hl]; exact h2, c, k, by rw [upd_ne ha]; exact h3, h4, h5⟩
theorem Stp.new {z : Option Zs} {F H : Hp} (w : Wd z F H) {p : Addr} {o : HO} (h : H p = Option.none) : Stp z F H (upd F p o) (upd H p o) := by
  have hf : F p = Option.none := by
    cases e : F p with
    | none => rfl
    | some u => rw [w.sub p u e] at h; cases h
  refine ⟨fun a u e => ?_, fun a u e _ => ?_, fun a u e n => ?_⟩
  · rw [upd_ne (ne_of_none e hf)]; exact e
  · rw [upd_ne (ne_of_none e h)]; exact e
  · rw [upd_ne (ne_of_none e h)]; exact n
/-- a new object that is not in F: an own list -/
theorem Wd.own {z : Option Zs} {F H : Hp} (w : Wd z F H) {p : Addr} {o : HO} (h : H p = Option.none) : Wd z F (upd H p o) := by
  refine ⟨fun a u e => ?_, fun a e => ?_⟩
  · rw [upd_ne (ne_of_none (w.sub a u e) h)]
    exact w.sub a u e
  · obtain ⟨h1, h2, c, k, h3, h4, h5⟩ := w.st a e
    exact ⟨h1, h2, c, k, by rw [upd_ne (ne_of_none h3 h)]; exact h3, h4, h5⟩
/-- the own list p changes -/
theorem Wd.chg {z : Option Zs} {F H : Hp} (w : Wd z F H) {p : Addr} {o : HO} (h : F p = Option.none) (hz : zn z p) : Wd z F (upd H p o) := by
  refine ⟨fun a u e => ?_, fun a e => ?_⟩
  · rw [upd_ne (fun c => by rw [c, h] at e; cases e)]
    exact w.sub a u e
  · obtain ⟨h1, h2, c, k, h3, h4, h5⟩ := w.st a e
    exact ⟨h1, h2, c, k, by rw [upd_ne (hz a e)]; exact h3, h4, h5⟩
/-- the own list p stays from now on -/
theorem Wd.frz {z : Option Zs} {F H : Hp} (w : Wd z F H) {p : Addr} {o : HO} (h : F p = Option.none) (hp : H p = some o) (hz : zn z p) : Wd z (upd F p o) H := by
  refine ⟨fun a u e => ?_, fun a e => ?_⟩
  · by_cases c : a = p
    · subst c
      rw [upd_same] at e
      cases e
      exact hp
    · rw [upd_ne c] at e
      exact w.sub a u e
  · obtain ⟨h1, h2, c, k, h3, h4, h5⟩ := w.st a e
    exact ⟨by rw [upd_ne (hz a e)]; exact h1, by rw [upd_ne (fun z => by rw [z, h] at h2; cases h2)]; exact h2, c, k, h3, h4, h5⟩
theorem Stp.own {z : Option Zs} {F H : Hp} {p : Addr} {o : HO} (h : H p = Option.none) : Stp z F H F (upd H p o) :=
  ⟨fun _ _ e => e, fun a u e _ => by rw [upd_ne (ne_of_none e h)]; exact e, fun _ _ _ n => n⟩
def VOk (K : PySem.W.Frag) (F : Hp) (v : V) : AV → Prop
  | .i d => Dq K F v d
  | .o w => v = w
  | .m _ => False
  | .x w d fs => v = w ∧ F d = some (.xd fs)
def VAll (K : PySem.W.Frag) (F : Hp) : List V → List AV → Prop
  | [], [] => True
  | v :: vs, a :: as => VOk K F v a ∧ VAll K F vs as
  | _, _ => False
theorem VOk.mono {K : PySem.W.Frag} {F F' : Hp} (e : Same F F') {v : V} : ∀ {a : AV}, VOk K F v a → VOk K F' v a
  | .i d, h => Dq.mono e d v h
  | .o _, h => h
  | .m _, h => h
  | .x _ _ _, h => ⟨h.1, e _ _ h.2⟩
theorem VAll.mono {K : PySem.W.Frag} {F F' : Hp} (e : Same F F') : ∀ {vs : List V} {as : List AV}, VAll K F vs as → VAll K F' vs as
  | [], [], _ => trivial
  | v :: vs, a :: as, h => ⟨h.1.mono e, VAll.mono e h.2⟩
  | [], _ :: _, h => h
  | _ :: _, [], h => h
theorem VAll.app {K : PySem.W.Frag} {F : Hp} : ∀ {vs ws : List V} {as bs : List AV}, VAll K F vs as → VAll K F ws bs → VAll K F (vs ++ ws) (as ++ bs)
  | [], _, [], _, _, q => q
  | v :: vs, _, a :: as, _, h, q => ⟨h.1, VAll.app h.2 q⟩
  | [], _, _ :: _, _, h, _ => h.elim
  | _ :: _, _, [], _, h, _ => h.elim
theorem VAll.len {K : PySem.W.Frag} {F : Hp} : ∀ {vs : List V} {as : List AV}, VAll K F vs as → vs.length = as.length
  | [], [], _ => rfl
  | v :: vs, a :: as, h => by show _ + 1 = _ + 1; rw [VAll.len h.2]
  | [], _ :: _, h => h.elim
  | _ :: _, [], h => h.elim
def gs {α : Type} (σ : List (Option α)) (i : Nat) : Option α := match σ[i]? with
  | some x => x
  | none => none
theorem gs_some {α : Type} {σ : List (Option α)} {i : Nat} {x : α} : gs σ i = some x ↔ σ[i]? = some (some x) := by
  unfold gs
  cases e : σ[i]? with
  | none => simp
  | some y => simp
theorem gs_set {α : Type} {σ : List (Option α)} {i j : Nat} {x : Option α} : gs (σ.set i x) j = if i = j ∧ j < σ.length then x else gs σ j := by
  unfold gs
  rw [List.getElem?_set]
  by_cases h : i = j
  · subst h
    by_cases q : i < σ.length
    · simp [q]
    · simp [q, List.getElem?_eq_none (Nat.le_of_not_lt q)]
  · simp [h]
def SlotI (K : PySem.W.Frag) (F : Hp) (x : Option V) : Option AV → Prop
  | some (.i d) => ∃ v, x = some v ∧ Dq K F v d
  | some (.o w) => x = some w
  | some (.x w d fs) => x = some w ∧ F d = some (.xd fs)
  | _ => True
def EnvI (K : PySem.W.Frag) (F : Hp) (σ : L2.St) (ρ : Rho) : Prop := σ.length = ρ.length ∧ ∀ i, SlotI K F (gs σ i) (gs ρ i)
theorem SlotI.mono {K : PySem.W.Frag} {F F' : Hp} (e : Same F F') {x : Option V} : ∀ {a : Option AV}, SlotI K F x a → SlotI K F' x a
  | some (.i d), ⟨v, h1, h2⟩ => ⟨v, h1, Dq.mono e d v h2⟩
  | some (.o _), h => h
  | some (.x _ _ _), h => ⟨h.1, e _ _ h.2⟩
  | some (.m _), h => h
  | Option.none, h => h
theorem EnvI.mono {K : PySem.W.Frag} {F F' : Hp} (e : Same F F') {σ : L2.St} {ρ : Rho} (h : EnvI K F σ ρ) : EnvI K F' σ ρ := ⟨h.1, fun i => (h.2 i).mono e⟩
theorem EnvI.set {K : PySem.W.Frag} {F : Hp} {σ : L2.St} {ρ : Rho} (h : EnvI K F σ ρ) {v : V} {d : D} (q : Dq K F v d) (j : Nat) : EnvI K F (σ.set j (some v)) (ρ.set j (some (.i d))) := by
  refine ⟨by rw [List.length_set, List.length_set]; exact h.1, fun i => ?_⟩
  rw [gs_set, gs_set, h.1]
  by_cases c : j = i ∧ i < ρ.length
  · rw [if_pos c, if_pos c]
    exact ⟨v, rfl, q⟩
  · rw [if_neg c, if_neg c]
    exact h.2 i
theorem EnvI.setM {K : PySem.W.Frag} {F : Hp} {σ : L2.St} {ρ : Rho} (h : EnvI K F σ ρ) (v : Option V) (ds : List D) (j : Nat) : EnvI K F (σ.set j v) (ρ.set j (some (.m ds))) := by
  refine ⟨by rw [List.length_set, List.length_set]; exact h.1, fun i => ?_⟩
  rw [gs_set, gs_set, h.1]
  by_cases c : j = i ∧ i < ρ.length
  · rw [if_pos c, if_pos c]
    trivial
  · rw [if_neg c, if_neg c]
    exact h.2 i
theorem EnvI.setN {K : PySem.W.Frag} {F : Hp} {σ : L2.St} {ρ : Rho} (h : EnvI K F σ ρ) (v : Option V) (j : Nat) : EnvI K F (σ.set j v) (ρ.set j none) := by
  refine ⟨by rw [List.length_set, List.length_set]; exact h.1, fun i => ?_⟩
  rw [gs_set, gs_set, h.1]
  by_cases c : j = i ∧ i < ρ.length
  · rw [if_pos c, if_pos c]
    trivial
  · rw [if_neg c, if_neg c]
    exact h.2 i
end AL
/-! A2 -/
namespace AL
open PySem PySem.Spec PyProof.Rows L2
/-! ### what is wanted -/
/-- a refusal: its class's place, its fields -/
structure AExc where
  cls : Addr
  fs : List (Str × V)
def XOk (F : Hp) (C : Value) (dd : Option Addr) (ex : AExc) : Prop := C = .ref ex.cls ∧ ∃ d, dd = some d ∧ F d = some (.xd ex.fs)
structure Gam where
  K : PySem.W.Frag
  z : Option Zs
  X : XK
  xe : AExc → Prop
def XGood (Γ : Gam) (F H : Hp) : Prop := ∀ C dd F' H' ex, Wd Γ.z F' H' → Stp Γ.z F H F' H' → XOk F' C dd ex → Γ.xe ex → Γ.X C dd H'
structure In (Γ : Gam) (F H : Hp) (σ : L2.St) (ρ : Rho) : Prop where
  w : Wd Γ.z F H
  e : EnvI Γ.K F σ ρ
  x : XGood Γ F H
variable {Γ : Gam} {F H F' H' : Hp} {σ : L2.St} {ρ : Rho}
theorem XGood.next (w' : Wd Γ.z F' H') (s : Stp Γ.z F H F' H') (x : XGood Γ F H) : XGood Γ F' H' := fun C dd F2 H2 ex w2 s2 o q => x C dd F2 H2 ex w2 (s.trans w' s2) o q
theorem In.next (i : In Γ F H σ ρ) (w' : Wd Γ.z F' H') (s : Stp Γ.z F H F' H') : In Γ F' H' σ ρ := ⟨w', i.e.mono s.fx, i.x.next w' s⟩
def WE (Γ : Gam) (te : TE) (ρ : Rho) (k : D → Prop) : Prop := ∀ F H σ (Q : VK), In Γ F H σ ρ →
  (∀ v d F' H', Wd Γ.z F' H' → Stp Γ.z F H F' H' → Dq Γ.K F' v d → k d → Q v H') → te σ H Q
def WT (Γ : Gam) (tt : TT) (ρ : Rho) (k : Bool → Prop) : Prop := ∀ F H σ (Q : Bool → Hp → Prop), In Γ F H σ ρ →
  (∀ b F' H', Wd Γ.z F' H' → Stp Γ.z F H F' H' → k b → Q b H') → tt σ H Q
def WA (Γ : Gam) (ta : TA) (ρ : Rho) (k : List AV → Prop) : Prop := ∀ F H σ (Q : List V → Hp → Prop), In Γ F H σ ρ →
  (∀ vs as F' H', Wd Γ.z F' H' → Stp Γ.z F H F' H' → VAll Γ.K F' vs as → k as → Q vs H') → ta σ H Q
def WL (Γ : Gam) (ta : TA) (ρ : Rho) (k : List D → Prop) : Prop := ∀ F H σ (Q : List V → Hp → Prop), In Γ F H σ ρ →
  (∀ vs ds F' H', Wd Γ.z F' H' → Stp Γ.z F H F' H' → DqAll Γ.K F' vs ds → k ds → Q vs H') → ta σ H Q
/-- an operation on two values, on a list of values -/
def RB (Γ : Gam) (r : R2) (x y : D) (k : D → Prop) : Prop := ∀ F H v u (Q : VK), Wd Γ.z F H → Dq Γ.K F v x → Dq Γ.K F u y →
  (∀ w d F' H', Wd Γ.z F' H' → Stp Γ.z F H F' H' → Dq Γ.K F' w d → k d → Q w H') → r v u H Q
def RU (Γ : Gam) (r : V → Hp → VK → Prop) (x : D) (k : D → Prop) : Prop := ∀ F H v (Q : VK), Wd Γ.z F H → Dq Γ.K F v x →
  (∀ w d F' H', Wd Γ.z F' H' → Stp Γ.z F H F' H' → Dq Γ.K F' w d → k d → Q w H') → r v H Q
def RC (Γ : Gam) (r : List V → Hp → VK → Prop) (xs : List D) (k : D → Prop) : Prop := ∀ F H vs (Q : VK), Wd Γ.z F H → DqAll Γ.K F vs xs →
  (∀ w d F' H', Wd Γ.z F' H' → Stp Γ.z F H F' H' → Dq Γ.K F' w d → k d → Q w H') → r vs H Q
def RM (Γ : Gam) (T : String) (r : V → List V → Hp → VK → Prop) (x : D) (xs : List D) (k : D → Prop) : Prop := ∀ F H v vs (Q : VK), Wd Γ.z F H → Dq Γ.K F v x → DqAll Γ.K F vs xs →
  (∀ w d F' H', Wd Γ.z F' H' → Stp Γ.z F H F' H' → Dq Γ.K F' w d → k d → Q w H') → r v vs H Q
section
variable {k k' : D → Prop} {ta tb te : TE} {x y d : D} {r : R2}
theorem WE.mono (h : WE Γ te ρ k) (m : ∀ d, k d → k' d) : WE Γ te ρ k' := fun F H σ Q i q => h F H σ Q i fun v d F' H' w s p kd => q v d F' H' w s p (m d kd)
theorem WT.mono {tt : TT} {k k' : Bool → Prop} (h : WT Γ tt ρ k) (m : ∀ d, k d → k' d) : WT Γ tt ρ k' := fun F H σ Q i q => h F H σ Q i fun b F' H' w s kd => q b F' H' w s (m b kd)
theorem gsl (i : In Γ F H σ ρ) {j : Nat} {d : D} (h : ρ[j]? = some (some (.i d))) : ∃ v, σ[j]? = some (some v) ∧ Dq Γ.K F v d := by
  have q := i.e.2 j
  rw [gs_some.mpr h] at q
  obtain ⟨v, h1, h2⟩ := q
  exact ⟨v, gs_some.mp h1, h2⟩
theorem gso (i : In Γ F H σ ρ) {j : Nat} {v : V} (h : ρ[j]? = some (some (.o v))) : σ[j]? = some (some v) := by
  have q := i.e.2 j
  rw [gs_some.mpr h] at q
  exact gs_some.mp q
theorem gsx (i : In Γ F H σ ρ) {j : Nat} {v : V} {d : Addr} {fs : List (Str × V)} (h : ρ[j]? = some (some (.x v d fs))) : σ[j]? = some (some v) ∧ F d = some (.xd fs) := by
  have q := i.e.2 j
  rw [gs_some.mpr h] at q
  exact ⟨gs_some.mp q.1, q.2⟩
theorem w_var {j : Nat} (h : ρ[j]? = some (some (.i d))) (q : k d) : WE Γ (tVar j) ρ k := fun F H σ Q i c => by
  obtain ⟨v, h1, h2⟩ := gsl i h
  exact ⟨v, h1, c v d F H i.w .refl h2 q⟩
theorem w_int {n : Int} (q : k (.int n)) : WE Γ (tC (.int n)) ρ k := fun F H σ Q i c => c _ _ F H i.w .refl (.int n) q
theorem w_bl {n : Bool} (q : k (.bool n)) : WE Γ (tC (.bl n)) ρ k := fun F H σ Q i c => c _ _ F H i.w .refl (.bl n) q
theorem w_str {n : Str} (q : k (.str n)) : WE Γ (tC (.str n)) ρ k := fun F H σ Q i c => c _ _ F H i.w .refl (.str n) q
theorem w_non (q : k .none) : WE Γ (tC .non) ρ k := fun F H σ Q i c => c _ _ F H i.w .refl .non q
theorem w_ref {a : Addr} (h : ∀ F, Dq Γ.K F (.ref a) d) (q : k d) : WE Γ (tC (.ref a)) ρ k := fun F H σ Q i c => c _ _ F H i.w .refl (h F) q
theorem w_op (h : WE Γ ta ρ fun x => WE Γ tb ρ fun y => RB Γ r x y k) : WE Γ (tOp r ta tb) ρ k := fun F H σ Q i c =>
  h F H σ _ i fun v x F1 H1 w1 s1 p1 h1 => h1 F1 H1 σ _ (i.next w1 s1) fun u y F2 H2 w2 s2 p2 h2 =>
    h2 F2 H2 v u Q w2 (p1.mono s2.fx) p2 fun w d F3 H3 w3 s3 p3 q => c w d F3 H3 w3 (s1.trans w1 (s2.trans w2 s3)) p3 q
theorem w_un {r : V → Hp → VK → Prop} (h : WE Γ ta ρ fun x => RU Γ r x k) : WE Γ (tUn r ta) ρ k := fun F H σ Q i c =>
  h F H σ _ i fun v x F1 H1 w1 s1 p1 h1 => h1 F1 H1 v Q w1 p1 fun w d F3 H3 w3 s3 p3 q => c w d F3 H3 w3 (s1.trans w1 s3) p3 q
theorem wl_nil {k : List D → Prop} (q : k []) : WL Γ tNil ρ k := fun F H σ Q i c => c [] [] F H i.w .refl .nil q
theorem wl_cons {tr : TA} {k : List D → Prop} (h : WE Γ te ρ fun d => WL Γ tr ρ fun ds => k (d :: ds)) : WL Γ (tCons te tr) ρ k := fun F H σ Q i c =>
  h F H σ _ i fun v x F1 H1 w1 s1 p1 h1 => h1 F1 H1 σ _ (i.next w1 s1) fun vs ds F2 H2 w2 s2 p2 h2 => c (v :: vs) (x :: ds) F2 H2 w2 (s1.trans w1 s2) (.cons (p1.mono s2.fx) p2) h2
theorem wa_nil {k : List AV → Prop} (q : k []) : WA Γ tNil ρ k := fun F H σ Q i c => c [] [] F H i.w .refl trivial q
theorem wa_cons {tr : TA} {k : List AV → Prop} (h : WE Γ te ρ fun d => WA Γ tr ρ fun ds => k (.i d :: ds)) : WA Γ (tCons te tr) ρ k := fun F H σ Q i c =>
  h F H σ _ i fun v x F1 H1 w1 s1 p1 h1 => h1 F1 H1 σ _ (i.next w1 s1) fun vs ds F2 H2 w2 s2 p2 h2 => c (v :: vs) (.i x :: ds) F2 H2 w2 (s1.trans w1 s2) ⟨p1.mono s2.fx, p2⟩ h2
theorem wa_consO {tr : TA} {k : List AV → Prop} {j : Nat} {v : V} (h : ρ[j]? = some (some (.o v))) (q : WA Γ tr ρ fun ds => k (.o v :: ds)) : WA Γ (tCons (tVar j) tr) ρ k := fun F H σ Q i c =>
  ⟨v, gso i h, q F H σ _ i fun vs ds F2 H2 w2 s2 p2 h2 => c (v :: vs) (.o v :: ds) F2 H2 w2 s2 ⟨rfl, p2⟩ h2⟩
theorem wa_consX {tr : TA} {k : List AV → Prop} {j : Nat} {v : V} {d : Addr} {fs : List (Str × V)} (h : ρ[j]? = some (some (.x v d fs))) (q : WA Γ tr ρ fun ds => k (.x v d fs :: ds)) : WA Γ (tCons (tVar j) tr) ρ k := fun F H σ Q i c => by
  obtain ⟨h1, h2⟩ := gsx i h
  exact ⟨v, h1, q F H σ _ i fun vs ds F2 H2 w2 s2 p2 g2 => c (v :: vs) (.x v d fs :: ds) F2 H2 w2 s2 ⟨⟨rfl, s2.fx _ _ h2⟩, p2⟩ g2⟩
theorem w_tup {ta : TA} (h : WL Γ ta ρ fun ds => ds.length ≤ 1000 ∧ k (.tuple ds)) : WE Γ (tTup ta) ρ k := fun F H σ Q i c =>
  h F H σ _ i fun vs ds F1 H1 w1 s1 p1 h1 => ⟨Nat.le_trans (by rw [p1.len]; exact h1.1) (by decide), fun p hp => c _ _ (upd F1 p (.tup vs)) _ (w1.new hp) (s1.trans w1 (Stp.new w1 hp)) (.tup (SqT.of upd_same) (DqAll.mono (Stp.new (z := Γ.z) w1 hp).fx ds vs p1)) h1.2⟩
theorem w_lst {ta : TA} (h : WL Γ ta ρ fun ds => ds.length ≤ 1000 ∧ k (.list ds)) : WE Γ (tLst ta) ρ k := fun F H σ Q i c =>
  h F H σ _ i fun vs ds F1 H1 w1 s1 p1 h1 => ⟨Nat.le_trans (by rw [p1.len]; exact h1.1) (by decide), fun p hp => c _ _ (upd F1 p (.lst vs)) _ (w1.new hp) (s1.trans w1 (Stp.new w1 hp)) (.lst upd_same (DqAll.mono (Stp.new (z := Γ.z) w1 hp).fx ds vs p1)) h1.2⟩
theorem w_cb {ta : TA} {r : List V → Hp → VK → Prop} (h : WL Γ ta ρ fun ds => RC Γ r ds k) : WE Γ (tCB r ta) ρ k := fun F H σ Q i c =>
  h F H σ _ i fun vs ds F1 H1 w1 s1 p1 h1 => h1 F1 H1 vs Q w1 p1 fun w d F3 H3 w3 s3 p3 q => c w d F3 H3 w3 (s1.trans w1 s3) p3 q
theorem w_if {tt : TT} (h : WT Γ tt ρ fun b => (b = true → WE Γ ta ρ k) ∧ (b = false → WE Γ tb ρ k)) : WE Γ (tIf tt ta tb) ρ k := fun F H σ Q i c =>
  h F H σ _ i fun b F1 H1 w1 s1 h1 => by
    cases b with
    | true => exact h1.1 rfl F1 H1 σ Q (i.next w1 s1) fun w d F3 H3 w3 s3 p3 q => c w d F3 H3 w3 (s1.trans w1 s3) p3 q
    | false => exact h1.2 rfl F1 H1 σ Q (i.next w1 s1) fun w d F3 H3 w3 s3 p3 q => c w d F3 H3 w3 (s1.trans w1 s3) p3 q
theorem w_and (h : WE Γ ta ρ fun x => ∃ b, x = .bool b ∧ (b = true → WE Γ tb ρ k) ∧ (b = false → k (.bool false))) : WE Γ (tAndV ta tb) ρ k := fun F H σ Q i c =>
  h F H σ _ i fun v x F1 H1 w1 s1 p1 h1 => by
    obtain ⟨b, rfl, h2, h3⟩ := h1
    cases p1
    refine ⟨b, rfl, ?_⟩
    cases b with
    | true => exact h2 rfl F1 H1 σ Q (i.next w1 s1) fun w d F3 H3 w3 s3 p3 q => c w d F3 H3 w3 (s1.trans w1 s3) p3 q
    | false => exact c _ _ F1 H1 w1 s1 (.bl _) (h3 rfl)
theorem w_or (h : WE Γ ta ρ fun x => ∃ b, x = .bool b ∧ (b = false → WE Γ tb ρ k) ∧ (b = true → k (.bool true))) : WE Γ (tOrV ta tb) ρ k := fun F H σ Q i c =>
  h F H σ _ i fun v x F1 H1 w1 s1 p1 h1 => by
    obtain ⟨b, rfl, h2, h3⟩ := h1
    cases p1
    refine ⟨b, rfl, ?_⟩
    cases b with
    | false => exact h2 rfl F1 H1 σ Q (i.next w1 s1) fun w d F3 H3 w3 s3 p3 q => c w d F3 H3 w3 (s1.trans w1 s3) p3 q
    | true => exact c _ _ F1 H1 w1 s1 (.bl _) (h3 rfl)
theorem w_not (h : WE Γ ta ρ fun x => ∃ b, x = .bool b ∧ k (.bool (!b))) : WE Γ (tNotV ta) ρ k := fun F H σ Q i c =>
  h F H σ _ i fun v x F1 H1 w1 s1 p1 h1 => by
    obtain ⟨b, rfl, h2⟩ := h1
    cases p1
    exact ⟨b, rfl, c _ _ F1 H1 w1 s1 (.bl _) h2⟩
end
/-! ### tests -/
section
variable {k : Bool → Prop} {t u : TT} {te ta tb tc : TE} {r r' : R2}
theorem t_test (h : WE Γ te ρ fun x => ∃ b, x = .bool b ∧ k b) : WT Γ (tTest te) ρ k := fun F H σ Q i c =>
  h F H σ _ i fun v x F1 H1 w1 s1 p1 h1 => by
    obtain ⟨b, rfl, h2⟩ := h1
    cases p1
    exact ⟨b, rfl, c _ F1 H1 w1 s1 h2⟩
theorem t_B (h : WE Γ te ρ fun x => ∃ b, x = .bool b ∧ k b) : WT Γ (tB te) ρ k := fun F H σ Q i c =>
  h F H σ _ i fun v x F1 H1 w1 s1 p1 h1 => by
    obtain ⟨b, rfl, h2⟩ := h1
    cases p1
    exact ⟨b, rfl, c _ F1 H1 w1 s1 h2⟩
theorem t_and (h : WT Γ t ρ fun b => (b = true → WT Γ u ρ k) ∧ (b = false → k false)) : WT Γ (tAnd t u) ρ k := fun F H σ Q i c =>
  h F H σ _ i fun b F1 H1 w1 s1 h1 => by
    cases b with
    | true => exact h1.1 rfl F1 H1 σ Q (i.next w1 s1) fun b F3 H3 w3 s3 q => c b F3 H3 w3 (s1.trans w1 s3) q
    | false => exact c _ F1 H1 w1 s1 (h1.2 rfl)
theorem t_or (h : WT Γ t ρ fun b => (b = false → WT Γ u ρ k) ∧ (b = true → k true)) : WT Γ (tOr t u) ρ k := fun F H σ Q i c =>
  h F H σ _ i fun b F1 H1 w1 s1 h1 => by
    cases b with
    | false => exact h1.1 rfl F1 H1 σ Q (i.next w1 s1) fun b F3 H3 w3 s3 q => c b F3 H3 w3 (s1.trans w1 s3) q
    | true => exact c _ F1 H1 w1 s1 (h1.2 rfl)
theorem t_not (h : WT Γ t ρ fun b => k (!b)) : WT Γ (tNot t) ρ k := fun F H σ Q i c =>
  h F H σ _ i fun b F1 H1 w1 s1 h1 => c _ F1 H1 w1 s1 h1
theorem t_yes (q : k true) : WT Γ tYes ρ k := fun F H σ Q i c => c _ F H i.w .refl q
end
/-! ### chains: a < b < c -/
theorem w_chain {k : D → Prop} {ta tb tc : TE} {r r' : R2} (h : WE Γ ta ρ fun x => WE Γ tb ρ fun y => RB Γ r x y fun z => ∃ b, z = .bool b ∧ (b = true → WE Γ tc ρ fun w => RB Γ r' y w k) ∧ (b = false → k (.bool false))) : WE Γ (tChain r r' ta tb tc) ρ k := fun F H σ Q i c =>
  h F H σ _ i fun v x F1 H1 w1 s1 p1 h1 => h1 F1 H1 σ _ (i.next w1 s1) fun u y F2 H2 w2 s2 p2 h2 =>
    h2 F2 H2 v u _ w2 (p1.mono s2.fx) p2 fun w z F3 H3 w3 s3 p3 h3 => by
      obtain ⟨b, rfl, h4, h5⟩ := h3
      cases p3
      refine ⟨b, rfl, ?_⟩
      have s13 := s1.trans w1 (s2.trans w2 s3)
      cases b with
      | true =>
        show tc σ H3 _
        exact h4 rfl F3 H3 σ _ ((i.next w1 s1).next w2 s2 |>.next w3 s3) fun m e F4 H4 w4 s4 p4 h6 => h6 F4 H4 u m Q w4 (p2.mono (s3.trans w3 s4).fx) p4 fun n f F5 H5 w5 s5 p5 q => c n f F5 H5 w5 (s13.trans w3 (s4.trans w4 s5)) p5 q
      | false => exact c _ _ F3 H3 w3 s13 (.bl _) (h5 rfl)
end AL
/-! A3 -/
namespace AL
open PySem PySem.Spec PyProof.Rows L2
variable {Γ : Gam} {F H F' H' F0 H0 : Hp} {σ : L2.St} {ρ : Rho}
/-! ### statements -/
/-- the own lists: each at a place of its own, made behind the entry, not in F -/
structure Own (Γ : Gam) (F0 H0 F H : Hp) (σ : L2.St) (ρ : Rho) : Prop where
  own : ∀ i ds, gs ρ i = some (.m ds) → ∃ p xs, gs σ i = some (.ref p) ∧ H0 p = none ∧ F p = none ∧ zn Γ.z p ∧ H p = some (.lst xs) ∧ DqAll Γ.K F xs ds
  sep : ∀ i j ds es p, gs ρ i = some (.m ds) → gs ρ j = some (.m es) → gs σ i = some (.ref p) → gs σ j = some (.ref p) → i = j
structure SOk (Γ : Gam) (F0 H0 F H : Hp) (σ : L2.St) (ρ : Rho) : Prop where
  i : In Γ F H σ ρ
  w0 : Wd Γ.z F0 H0
  x0 : XGood Γ F0 H0
  s : Stp Γ.z F0 H0 F H
  o : Own Γ F0 H0 F H σ ρ
def WS (Γ : Gam) (t : TS) (ρ : Rho) (nx : Rho → Prop) (rt : D → Prop) (bk ct : Rho → Prop) : Prop := ∀ F0 H0 F H σ (D : Ends), SOk Γ F0 H0 F H σ ρ →
  (∀ F' H' σ' ρ', Same F F' → SOk Γ F0 H0 F' H' σ' ρ' → nx ρ' → D.nx σ' H') →
  (∀ F' H' σ' ρ', Same F F' → SOk Γ F0 H0 F' H' σ' ρ' → bk ρ' → D.bk σ' H') →
  (∀ F' H' σ' ρ', Same F F' → SOk Γ F0 H0 F' H' σ' ρ' → ct ρ' → D.ct σ' H') →
  (∀ v d F' H', Wd Γ.z F' H' → Stp Γ.z F0 H0 F' H' → Dq Γ.K F' v d → rt d → D.rt v H') → t D σ H
theorem Own.next (o : Own Γ F0 H0 F H σ ρ) (w : Wd Γ.z F H) (s : Stp Γ.z F H F' H') : Own Γ F0 H0 F' H' σ ρ := ⟨fun i ds e => by
  obtain ⟨p, xs, h1, h2, h3, h4, h5, h6⟩ := o.own i ds e
  exact ⟨p, xs, h1, h2, s.out p _ h5 h3, h4, s.keep p _ h5 h4, DqAll.mono s.fx ds xs h6⟩, o.sep⟩
theorem SOk.next (k : SOk Γ F0 H0 F H σ ρ) (w' : Wd Γ.z F' H') (s : Stp Γ.z F H F' H') : SOk Γ F0 H0 F' H' σ ρ := ⟨k.i.next w' s, k.w0, k.x0, k.s.trans k.i.w s, k.o.next k.i.w s⟩
/-- a slot is set to a value of data -/
theorem SOk.set (k : SOk Γ F0 H0 F H σ ρ) {v : V} {d : D} (q : Dq Γ.K F v d) (j : Nat) : SOk Γ F0 H0 F H (σ.set j (some v)) (ρ.set j (some (.i d))) := by
  have hl := k.i.e.1
  refine ⟨⟨k.i.w, k.i.e.set q j, k.i.x⟩, k.w0, k.x0, k.s, ⟨fun i ds e => ?_, fun i i' ds es p e1 e2 e3 e4 => ?_⟩⟩
  · rw [gs_set] at e
    by_cases c : j = i ∧ i < ρ.length
    · rw [if_pos c] at e
      cases e
    · rw [if_neg c] at e
      rw [gs_set, if_neg (by rw [hl]; exact c)]
      exact k.o.own i ds e
  · rw [gs_set] at e1 e2 e3 e4
    have c1 : ¬ (j = i ∧ i < ρ.length) := fun c => by rw [if_pos c] at e1; cases e1
    have c2 : ¬ (j = i' ∧ i' < ρ.length) := fun c => by rw [if_pos c] at e2; cases e2
    rw [if_neg c1] at e1
    rw [if_neg c2] at e2
    rw [if_neg (by rw [hl]; exact c1)] at e3
    rw [if_neg (by rw [hl]; exact c2)] at e4
    exact k.o.sep i i' ds es p e1 e2 e3 e4
/-- a slot is set to a new own list -/
theorem SOk.setM (k : SOk Γ F0 H0 F H σ ρ) {p : Addr} {xs : List V} {ds : List D} (h : H p = none) (q : DqAll Γ.K F xs ds) (j : Nat) : SOk Γ F0 H0 F (upd H p (.lst xs)) (σ.set j (some (.ref p))) (ρ.set j (some (.m ds))) := by
  have hl := k.i.e.1
  have w' : Wd Γ.z F (upd H p (.lst xs)) := k.i.w.own h
  have s' : Stp Γ.z F H F (upd H p (.lst xs)) := Stp.own h
  have hf : F p = none := by
    cases e : F p with
    | none => rfl
    | some u => rw [k.i.w.sub p u e] at h; cases h
  have hz : zn Γ.z p := k.i.w.zn_new h
  have h0 : H0 p = none := by
    cases e : H0 p with
    | none => rfl
    | some u =>
      rw [k.s.keep p u e hz] at h
      cases h
  have k' := k.next w' s'
  refine ⟨⟨w', k'.i.e.setM _ ds j, k'.i.x⟩, k.w0, k.x0, k'.s, ⟨fun i es e => ?_, fun i i' es fs a e1 e2 e3 e4 => ?_⟩⟩
  · rw [gs_set] at e
    rw [gs_set, hl]
    by_cases c : j = i ∧ i < ρ.length
    · rw [if_pos c] at e
      cases e
      rw [if_pos c]
      exact ⟨p, xs, rfl, h0, hf, hz, upd_same, q⟩
    · rw [if_neg c] at e
      rw [if_neg c]
      exact k'.o.own i es e
  · have nep : ∀ i es, gs ρ i = some (.m es) → gs σ i ≠ some (.ref p) := fun i es e1 e2 => by
      obtain ⟨p', xs', g1, _, _, _, g5, _⟩ := k.o.own i es e1
      rw [e2] at g1
      cases g1
      rw [h] at g5
      cases g5
    rw [gs_set] at e1 e2 e3 e4
    rw [hl] at e3 e4
    by_cases c1 : j = i ∧ i < ρ.length
    · rw [if_pos c1] at e1 e3
      cases e3
      by_cases c2 : j = i' ∧ i' < ρ.length
      · exact c1.1.symm.trans c2.1
      · rw [if_neg c2] at e2 e4
        exact absurd e4 (nep i' _ e2)
    · rw [if_neg c1] at e1 e3
      by_cases c2 : j = i' ∧ i' < ρ.length
      · rw [if_pos c2] at e2 e4
        cases e4
        exact absurd e3 (nep i _ e1)
      · rw [if_neg c2] at e2 e4
        exact k'.o.sep i i' es fs a e1 e2 e3 e4
/-- an own list is given up: from now on it stays -/
theorem SOk.frz (k : SOk Γ F0 H0 F H σ ρ) {j : Nat} {ds : List D} (e : ρ[j]? = some (some (.m ds))) : ∃ F', Same F F' ∧ SOk Γ F0 H0 F' H σ (ρ.set j (some (.i (.list ds)))) := by
  obtain ⟨p, xs, h1, h2, h3, h4, h5, h6⟩ := k.o.own j ds (gs_some.mpr e)
  have w' : Wd Γ.z (upd F p (.lst xs)) H := k.i.w.frz h3 h5 h4
  have fx : Same F (upd F p (.lst xs)) := fun a u q => by
    rw [upd_ne (fun z => by rw [z, h3] at q; cases q)]
    exact q
  have s0 : Stp Γ.z F0 H0 (upd F p (.lst xs)) H := ⟨fun a u q => fx a u (k.s.fx a u q), k.s.keep, fun a u q n => by
    rw [upd_ne (fun z => by rw [z, h2] at q; cases q)]
    exact k.s.out a u q n⟩
  have hd : Dq Γ.K (upd F p (.lst xs)) (.ref p) (.list ds) := .lst upd_same (DqAll.mono fx ds xs h6)
  have hl := k.i.e.1
  have x' : XGood Γ (upd F p (.lst xs)) H := k.x0.next w' s0
  refine ⟨_, fx, ⟨⟨w', ⟨by rw [List.length_set]; exact hl, fun i => ?_⟩, x'⟩, k.w0, k.x0, s0, ⟨fun i es q => ?_, fun i i' es fs a e1 e2 e3 e4 => ?_⟩⟩⟩
  · rw [gs_set]
    by_cases c : j = i ∧ i < ρ.length
    · rw [if_pos c, ← c.1]
      exact ⟨_, h1, hd⟩
    · rw [if_neg c]
      exact (k.i.e.2 i).mono fx
  · rw [gs_set] at q
    by_cases c : j = i ∧ i < ρ.length
    · rw [if_pos c] at q
      cases q
    · rw [if_neg c] at q
      obtain ⟨p', xs', g1, g2, g3, g4, g5, g6⟩ := k.o.own i es q
      have hp : p' ≠ p := fun z => by
        subst z
        have hij := k.o.sep j i ds es p' (gs_some.mpr e) q h1 g1
        refine c ⟨hij, ?_⟩
        obtain ⟨hi, _⟩ := List.getElem?_eq_some_iff.mp e
        omega
      exact ⟨p', xs', g1, g2, by rw [upd_ne hp]; exact g3, g4, g5, DqAll.mono fx es xs' g6⟩
  · rw [gs_set] at e1 e2
    have c1 : ¬ (j = i ∧ i < ρ.length) := fun c => by rw [if_pos c] at e1; cases e1
    have c2 : ¬ (j = i' ∧ i' < ρ.length) := fun c => by rw [if_pos c] at e2; cases e2
    rw [if_neg c1] at e1
    rw [if_neg c2] at e2
    exact k.o.sep i i' es fs a e1 e2 e3 e4
variable {nx bk ct : Rho → Prop} {rt : D → Prop} {t u : TS} {te : TE}
theorem s_seq (h : WS Γ t ρ (fun ρ' => WS Γ u ρ' nx rt bk ct) rt bk ct) : WS Γ (tSeq t u) ρ nx rt bk ct := fun F0 H0 F H σ D k n b c r =>
  h F0 H0 F H σ { D with nx := u D } k (fun F' H' σ' ρ' fx k' q => q F0 H0 F' H' σ' D k' (fun F2 H2 σ2 ρ2 f2 => n F2 H2 σ2 ρ2 (fx.trans f2)) (fun F2 H2 σ2 ρ2 f2 => b F2 H2 σ2 ρ2 (fx.trans f2)) (fun F2 H2 σ2 ρ2 f2 => c F2 H2 σ2 ρ2 (fx.trans f2)) r) b c r
theorem s_next (h : nx ρ) : WS Γ tNext ρ nx rt bk ct := fun F0 H0 F H σ D k n b c r => n F H σ ρ (Same.refl F) k h
theorem s_break (h : bk ρ) : WS Γ tBreak ρ nx rt bk ct := fun F0 H0 F H σ D k n b c r => b F H σ ρ (Same.refl F) k h
theorem s_cont (h : ct ρ) : WS Γ tCont ρ nx rt bk ct := fun F0 H0 F H σ D k n b c r => c F H σ ρ (Same.refl F) k h
theorem s_ret (h : WE Γ te ρ rt) : WS Γ (tRet te) ρ nx rt bk ct := fun F0 H0 F H σ D k n b c r => h F H σ D.rt k.i fun v d F' H' w s p q => r v d F' H' w (k.s.trans k.i.w s) p q
theorem s_retN (h : rt .none) : WS Γ tRetN ρ nx rt bk ct := fun F0 H0 F H σ D k n b c r => r .non .none F H k.i.w k.s .non h
theorem s_asg {j : Nat} (h : WE Γ te ρ fun d => nx (ρ.set j (some (.i d)))) : WS Γ (tAsg te (gName j)) ρ nx rt bk ct := fun F0 H0 F H σ D k n b c r =>
  h F H σ _ k.i fun v d F' H' w s p q => n F' H' _ _ s.fx ((k.next w s).set p j) q
theorem s_drop (h : WE Γ te ρ fun _ => nx ρ) : WS Γ (tDrop te) ρ nx rt bk ct := fun F0 H0 F H σ D k n b c r =>
  h F H σ _ k.i fun v d F' H' w s p q => n F' H' _ _ s.fx (k.next w s) q
theorem s_if {tt : TT} (h : WT Γ tt ρ fun b => (b = true → WS Γ t ρ nx rt bk ct) ∧ (b = false → WS Γ u ρ nx rt bk ct)) : WS Γ (tIfS tt t u) ρ nx rt bk ct := fun F0 H0 F H σ D k n b c r =>
  h F H σ _ k.i fun b' F' H' w s q => by
    cases b' with
    | true => exact q.1 rfl F0 H0 F' H' σ D (k.next w s) (fun F2 H2 σ2 ρ2 f2 => n F2 H2 σ2 ρ2 (s.fx.trans f2)) (fun F2 H2 σ2 ρ2 f2 => b F2 H2 σ2 ρ2 (s.fx.trans f2)) (fun F2 H2 σ2 ρ2 f2 => c F2 H2 σ2 ρ2 (s.fx.trans f2)) r
    | false => exact q.2 rfl F0 H0 F' H' σ D (k.next w s) (fun F2 H2 σ2 ρ2 f2 => n F2 H2 σ2 ρ2 (s.fx.trans f2)) (fun F2 H2 σ2 ρ2 f2 => b F2 H2 σ2 ρ2 (s.fx.trans f2)) (fun F2 H2 σ2 ρ2 f2 => c F2 H2 σ2 ρ2 (s.fx.trans f2)) r
/-- an own list: a display -/
theorem s_asgM {ta : TA} {j : Nat} (h : WL Γ ta ρ fun ds => ds.length ≤ 1000 ∧ nx (ρ.set j (some (.m ds)))) : WS Γ (tAsg (tLst ta) (gName j)) ρ nx rt bk ct := fun F0 H0 F H σ D k n b c r =>
  h F H σ _ k.i fun vs ds F' H' w s p q => ⟨Nat.le_trans (by rw [p.len]; exact q.1) (by decide), fun a ha => n F' _ _ _ s.fx ((k.next w s).setM ha p j) q.2⟩
theorem s_frz {j : Nat} {ds : List D} (e : ρ[j]? = some (some (.m ds))) (h : WS Γ t (ρ.set j (some (.i (.list ds)))) nx rt bk ct) : WS Γ t ρ nx rt bk ct := fun F0 H0 F H σ D k n b c r => by
  obtain ⟨F', fx, k'⟩ := k.frz e
  exact h F0 H0 F' H σ D k' (fun F2 H2 σ2 ρ2 f2 => n F2 H2 σ2 ρ2 (fx.trans f2)) (fun F2 H2 σ2 ρ2 f2 => b F2 H2 σ2 ρ2 (fx.trans f2)) (fun F2 H2 σ2 ρ2 f2 => c F2 H2 σ2 ρ2 (fx.trans f2)) r
theorem s_mono {nx' bk' ct' : Rho → Prop} {rt' : D → Prop} (h : WS Γ t ρ nx rt bk ct) (hn : ∀ ρ', nx ρ' → nx' ρ') (hr : ∀ d, rt d → rt' d) (hb : ∀ ρ', bk ρ' → bk' ρ') (hc : ∀ ρ', ct ρ' → ct' ρ') : WS Γ t ρ nx' rt' bk' ct' := fun F0 H0 F H σ D k n b c r =>
  h F0 H0 F H σ D k (fun F' H' σ' ρ' fx k' q => n F' H' σ' ρ' fx k' (hn ρ' q)) (fun F' H' σ' ρ' fx k' q => b F' H' σ' ρ' fx k' (hb ρ' q)) (fun F' H' σ' ρ' fx k' q => c F' H' σ' ρ' fx k' (hc ρ' q)) (fun v d F' H' w s p q => r v d F' H' w s p (hr d q))
theorem SOk.upM (k : SOk Γ F0 H0 F H σ ρ) {j : Nat} {p : Addr} {ds es : List D} {xs ys : List V} (e : ρ[j]? = some (some (.m ds))) (hp : σ[j]? = some (some (.ref p))) (hx : H p = some (.lst xs)) (q : DqAll Γ.K F ys es) : SOk Γ F0 H0 F (upd H p (.lst ys)) σ (ρ.set j (some (.m es))) := by
  obtain ⟨p', xs', h1, h2, h3, h4, h5, h6⟩ := k.o.own j ds (gs_some.mpr e)
  rw [gs_some.mpr hp] at h1
  cases h1
  have w' : Wd Γ.z F (upd H p (.lst ys)) := k.i.w.chg h3 h4
  have s0 : Stp Γ.z F0 H0 F (upd H p (.lst ys)) := ⟨k.s.fx, fun a u q n => by
    rw [upd_ne (fun z => by rw [z, h2] at q; cases q)]
    exact k.s.keep a u q n, k.s.out⟩
  have hl := k.i.e.1
  have hj : j < ρ.length := (List.getElem?_eq_some_iff.mp e).1
  refine ⟨⟨w', ⟨by rw [List.length_set]; exact hl, fun i => ?_⟩, k.x0.next w' s0⟩, k.w0, k.x0, s0, ⟨fun i fs q' => ?_, fun i i' fs gs' a e1 e2 e3 e4 => ?_⟩⟩
  · rw [gs_set]
    by_cases c : j = i ∧ i < ρ.length
    · rw [if_pos c]
      trivial
    · rw [if_neg c]
      exact k.i.e.2 i
  · rw [gs_set] at q'
    by_cases c : j = i ∧ i < ρ.length
    · rw [if_pos c] at q'
      cases q'
      rw [← c.1]
      exact ⟨p, ys, gs_some.mpr hp, h2, h3, h4, upd_same, q⟩
    · rw [if_neg c] at q'
      obtain ⟨p', xs', g1, g2, g3, g4, g5, g6⟩ := k.o.own i fs q'
      have hpp : p' ≠ p := fun z => by
        subst z
        have hij := k.o.sep j i ds fs p' (gs_some.mpr e) q' (gs_some.mpr hp) g1
        exact c ⟨hij, by omega⟩
      exact ⟨p', xs', g1, g2, g3, g4, by rw [upd_ne hpp]; exact g5, g6⟩
  · have m : ∀ i fs, gs (ρ.set j (some (.m es))) i = some (.m fs) → ∃ fs', gs ρ i = some (.m fs') := fun i fs q' => by
      rw [gs_set] at q'
      by_cases c : j = i ∧ i < ρ.length
      · exact ⟨ds, by rw [← c.1]; exact gs_some.mpr e⟩
      · rw [if_neg c] at q'
        exact ⟨fs, q'⟩
    obtain ⟨f1, m1⟩ := m i fs e1
    obtain ⟨f2, m2⟩ := m i' gs' e2
    exact k.o.sep i i' f1 f2 a m1 m2 e3 e4
/-- x.append(e), x an own list -/
theorem s_app {j : Nat} {ds : List D} (e : ρ[j]? = some (some (.m ds))) (h : WE Γ te ρ fun d => ds.length < 100000 ∧ nx (ρ.set j (some (.m (ds ++ [d]))))) : WS Γ (tDrop (tBM Γ.K "list" rAppend (tVar j) (tCons te tNil))) ρ nx rt bk ct := fun F0 H0 F H σ D k n b c r => by
  obtain ⟨p, xs, h1, h2, h3, h4, h5, h6⟩ := k.o.own j ds (gs_some.mpr e)
  refine ⟨.ref p, gs_some.mp h1, .inl ⟨rfl, xs, SqL.of h5⟩, h F H σ _ k.i fun v d F' H' w s q ⟨hz, hn⟩ => ?_⟩
  refine ⟨p, xs, v, rfl, rfl, s.keep p _ h5 h4, ?_, ?_⟩
  · rw [h6.len]
    exact Nat.lt_of_lt_of_le hz (by decide)
  · exact n F' _ σ _ s.fx ((k.next w s).upM e (gs_some.mp h1) (s.keep p _ h5 h4) ((DqAll.mono s.fx ds xs h6).app (.cons q .nil))) hn
end AL
/-! A4 -/
namespace AL
open PySem PySem.Spec PyProof.Rows L2
variable {Γ : Gam} {F H F' H' F0 H0 : Hp} {σ : L2.St} {ρ : Rho}
/-! ### targets: which slots hold what -/
def putV (σ : L2.St) : List (Nat × V) → L2.St
  | [] => σ
  | (j, v) :: r => putV (σ.set j (some v)) r
def putD (ρ : Rho) : List (Nat × D) → Rho
  | [] => ρ
  | (j, d) :: r => putD (ρ.set j (some (.i d))) r
def Pairs (K : PySem.W.Frag) (F : Hp) : List (Nat × V) → List (Nat × D) → Prop
  | [], [] => True
  | (j, v) :: r, (i, d) :: q => j = i ∧ Dq K F v d ∧ Pairs K F r q
  | _, _ => False
def WG (K : PySem.W.Frag) (g : TG) (d : D) (js : List (Nat × D)) : Prop := ∀ F H v σ (Q : L2.St → Hp → Prop), Same F H → Dq K F v d → (∀ us, Pairs K F us js → Q (putV σ us) H) → g v σ H Q
def WGs (K : PySem.W.Frag) (g : TGs) (ds : List D) (js : List (Nat × D)) : Prop := ∀ F H vs σ (Q : L2.St → Hp → Prop), Same F H → DqAll K F vs ds → (∀ us, Pairs K F us js → Q (putV σ us) H) → g vs σ H Q
theorem g_name {K : PySem.W.Frag} {j : Nat} {d : D} : WG K (gName j) d [(j, d)] := fun F H v σ Q s p q => q [(j, v)] ⟨rfl, p, trivial⟩
theorem gs_nil {K : PySem.W.Frag} : WGs K gNil [] [] := fun F H vs σ Q s p q => by cases p; exact ⟨rfl, q [] trivial⟩
theorem gs_one {K : PySem.W.Frag} {j : Nat} {d : D} {ds : List D} {g : TGs} {js : List (Nat × D)} (h : WGs K g ds js) : WGs K (gCons (gName j) g) (d :: ds) ((j, d) :: js) := fun F H vs σ Q s p q => by
  cases p with
  | cons p1 p2 => exact ⟨_, _, rfl, h F H _ _ Q s p2 fun us hu => q ((j, _) :: us) ⟨rfl, p1, hu⟩⟩
theorem g_tup {K : PySem.W.Frag} {n : Nat} {g : TGs} {ds : List D} {js : List (Nat × D)} (h : WGs K g ds js) (hl : ds.length = n) : WG K (gTup K n g) (.tuple ds) js := fun F H v σ Q s p q => by
  cases p with
  | tup ht ha => exact ⟨_, _, rfl, ht.imp (fun r => r.imp (s _ _) fun ⟨o, r⟩ => ⟨o, s _ _ r⟩) id, ha.len.trans hl, h F H _ σ Q s ha q⟩
theorem g_lst {K : PySem.W.Frag} {n : Nat} {g : TGs} {ds : List D} {js : List (Nat × D)} (h : WGs K g ds js) (hl : ds.length = n) : WG K (gLst K n g) (.list ds) js := fun F H v σ Q s p q => by
  cases p with
  | lst ht ha => exact ⟨_, _, rfl, SqL.of (s _ _ ht), ha.len.trans hl, h F H _ σ Q s ha q⟩
theorem SOk.put : ∀ {us : List (Nat × V)} {js : List (Nat × D)} {σ : L2.St} {ρ : Rho}, SOk Γ F0 H0 F H σ ρ → Pairs Γ.K F us js → SOk Γ F0 H0 F H (putV σ us) (putD ρ js)
  | [], [], _, _, k, _ => k
  | (j, v) :: r, (i, d) :: q, _, _, k, p => by
    obtain ⟨rfl, p1, p2⟩ := p
    exact SOk.put (us := r) (js := q) (k.set p1 j) p2
  | [], _ :: _, _, _, _, p => p.elim
  | _ :: _, [], _, _, _, p => p.elim
theorem EnvI.put {K : PySem.W.Frag} : ∀ {us : List (Nat × V)} {js : List (Nat × D)} {σ : L2.St} {ρ : Rho}, EnvI K F σ ρ → Pairs K F us js → EnvI K F (putV σ us) (putD ρ js)
  | [], [], _, _, k, _ => k
  | (j, v) :: r, (i, d) :: q, _, _, k, p => by
    obtain ⟨rfl, p1, p2⟩ := p
    exact EnvI.put (us := r) (js := q) (k.set p1 j) p2
  | [], _ :: _, _, _, _, p => p.elim
  | _ :: _, [], _, _, _, p => p.elim
/-! ### the slots that a block forgets -/
def wipeR (ρ : Rho) : List Nat → Rho
  | [] => ρ
  | v :: vs => (wipeR ρ vs).set v none
theorem wipe_gs : ∀ {σ : L2.St} {vs : List Nat} {i : Nat}, gs (wipe σ vs) i = if i ∈ vs then none else gs σ i
  | σ, [], i => by simp [wipe]
  | σ, v :: vs, i => by
    unfold wipe
    rw [gs_set, wipe_gs]
    by_cases h : v = i
    · subst h
      by_cases q : v < (wipe σ vs).length
      · simp [q]
      · have e : gs σ v = none := by
          unfold gs
          rw [List.getElem?_eq_none (by rw [wipe_length] at q; omega)]
        simp [q, e]
    · have h' : ¬ i = v := fun e => h e.symm
      simp [h, h']
theorem wipeR_gs : ∀ {ρ : Rho} {vs : List Nat} {i : Nat}, gs (wipeR ρ vs) i = if i ∈ vs then none else gs ρ i
  | ρ, [], i => by simp [wipeR]
  | ρ, v :: vs, i => by
    have hl : ∀ vs : List Nat, (wipeR ρ vs).length = ρ.length := fun vs => by
      induction vs with
      | nil => rfl
      | cons a r ih => unfold wipeR; rw [List.length_set, ih]
    unfold wipeR
    rw [gs_set, wipeR_gs]
    by_cases h : v = i
    · subst h
      by_cases q : v < (wipeR ρ vs).length
      · simp [q]
      · have e : gs ρ v = none := by
          unfold gs
          rw [List.getElem?_eq_none (by rw [hl] at q; omega)]
        simp [q, e]
    · have h' : ¬ i = v := fun e => h e.symm
      simp [h, h']
theorem wipeR_length (ρ : Rho) : ∀ vs : List Nat, (wipeR ρ vs).length = ρ.length
  | [] => rfl
  | v :: vs => by unfold wipeR; rw [List.length_set, wipeR_length ρ vs]
theorem EnvI.wipe {K : PySem.W.Frag} (e : EnvI K F σ ρ) (vs : List Nat) : EnvI K F (L2.wipe σ vs) (wipeR ρ vs) := ⟨by rw [wipe_length, wipeR_length]; exact e.1, fun i => by
  rw [wipe_gs, wipeR_gs]
  split
  · trivial
  · exact e.2 i⟩
theorem gs_ext {σ τ : L2.St} (hl : σ.length = τ.length) (h : ∀ i, i < σ.length → gs σ i = gs τ i) : σ = τ := by
  refine List.ext_getElem? fun i => ?_
  by_cases q : i < σ.length
  · have e := h i q
    unfold gs at e
    rw [List.getElem?_eq_getElem q, List.getElem?_eq_getElem (hl ▸ q)] at e ⊢
    exact congrArg some e
  · rw [List.getElem?_eq_none (by omega), List.getElem?_eq_none (by omega)]
theorem wipe_set {σ : L2.St} {vs : List Nat} {j : Nat} {x : Option V} (h : j ∈ vs) : wipe (σ.set j x) vs = wipe σ vs := by
  refine gs_ext (by rw [wipe_length, wipe_length, List.length_set]) fun i _ => ?_
  rw [wipe_gs, wipe_gs, gs_set]
  by_cases c : i ∈ vs
  · simp [c]
  · have : ¬ (j = i ∧ i < σ.length) := fun z => c (z.1 ▸ h)
    simp [c, this]
theorem wipe_put : ∀ {us : List (Nat × V)} {σ : L2.St} {vs : List Nat}, (∀ p ∈ us, p.1 ∈ vs) → wipe (putV σ us) vs = wipe σ vs
  | [], _, _, _ => rfl
  | (j, v) :: r, σ, vs, h => by
    unfold putV
    rw [wipe_put (fun p hp => h p (List.mem_cons_of_mem _ hp)), wipe_set (h _ List.mem_cons_self)]
theorem wipe_wipe {σ : L2.St} {vs : List Nat} : wipe (wipe σ vs) vs = wipe σ vs := by
  refine gs_ext (by rw [wipe_length, wipe_length]) fun i _ => ?_
  rw [wipe_gs, wipe_gs]
  split <;> rfl
theorem Pairs.dom {K : PySem.W.Frag} {vs : List Nat} : ∀ {us : List (Nat × V)} {js : List (Nat × D)}, Pairs K F us js → (js.all fun p => vs.contains p.1) = true → ∀ p ∈ us, p.1 ∈ vs
  | [], [], _, _ => fun p hp => by cases hp
  | (j, v) :: r, (i, d) :: q, h, a => by
    obtain ⟨rfl, _, h2⟩ := h
    rw [List.all_cons, Bool.and_eq_true] at a
    intro p hp
    rcases List.mem_cons.mp hp with rfl | hp
    · exact List.contains_iff_mem.mp a.1
    · exact Pairs.dom h2 a.2 p hp
  | [], _ :: _, h, _ => h.elim
  | _ :: _, [], h, _ => h.elim
/-! ### loops -/
variable {nx bk ct : Rho → Prop} {rt : D → Prop} {tb : TS} {te tl : TE} {g : TG} {tt : TT}
theorem s_asgG (h : WE Γ te ρ fun d => ∃ js, WG Γ.K g d js ∧ nx (putD ρ js)) : WS Γ (tAsg te g) ρ nx rt bk ct := fun F0 H0 F H σ D k n b c r =>
  h F H σ _ k.i fun v d F' H' w s p ⟨js, hg, q⟩ => hg F' H' v σ D.nx w.sub p fun us hu => n F' H' _ _ s.fx ((k.next w s).put hu) q
theorem s_forL (h : WE Γ tl ρ fun x => ∃ ds, x = .list ds ∧ ∃ Pv : Nat → Rho → Prop, Pv 0 ρ ∧
      (∀ i d ρ', ds[i]? = some d → Pv i ρ' → ∃ js, WG Γ.K g d js ∧ WS Γ tb (putD ρ' js) (Pv (i + 1)) rt nx (Pv (i + 1))) ∧ ∀ ρ', Pv ds.length ρ' → nx ρ') :
    WS Γ (tFor (iList Γ.K tl) g tb) ρ nx rt bk ct := fun F0 H0 F H σ D k n b c r =>
  h F H σ _ k.i fun v x F1 H1 w s p ⟨ds, hx, Pv, h0, hs, hd⟩ => by
    subst hx
    cases p with
    | @lst a xs _ hq ha =>
      refine ⟨a, rfl, ⟨xs, SqL.of (w.sub _ _ hq)⟩, for_list (xs := xs) (fun i σ' H' => ∃ F' ρ', Same F1 F' ∧ SOk Γ F0 H0 F' H' σ' ρ' ∧ Pv i ρ') ⟨F1, ρ, Same.refl F1, k.next w s, h0⟩ (fun i σ' H' _ ⟨F', ρ', f, k', _⟩ => SqL.of (k'.i.w.sub _ _ (f _ _ hq))) (fun i y σ' H' hi ⟨F', ρ', f, k', pv⟩ => ?_) (fun σ' H' ⟨F', ρ', f, k', pv⟩ => ?_)⟩
      · obtain ⟨d, hd1, hd2⟩ := ha.getV hi
        obtain ⟨js, hg, hb⟩ := hs i d ρ' hd1 pv
        exact hg F' H' y σ' _ k'.i.w.sub (hd2.mono f) fun us hu => hb F0 H0 F' H' _ _ (k'.put hu) (fun F2 H2 σ2 ρ2 f2 k2 q => ⟨F2, ρ2, f.trans f2, k2, q⟩) (fun F2 H2 σ2 ρ2 f2 k2 q => n F2 H2 σ2 ρ2 (s.fx.trans (f.trans f2)) k2 q) (fun F2 H2 σ2 ρ2 f2 k2 q => ⟨F2, ρ2, f.trans f2, k2, q⟩) r
      · refine n F' H' σ' ρ' (s.fx.trans f) k' (hd ρ' ?_)
        rw [← ha.len]
        exact pv
theorem s_forT (h : WE Γ tl ρ fun x => ∃ ds, x = .tuple ds ∧ ∃ Pv : Nat → Rho → Prop, Pv 0 ρ ∧
      (∀ i d ρ', ds[i]? = some d → Pv i ρ' → ∃ js, WG Γ.K g d js ∧ WS Γ tb (putD ρ' js) (Pv (i + 1)) rt nx (Pv (i + 1))) ∧ ∀ ρ', Pv ds.length ρ' → nx ρ') :
    WS Γ (tFor (iTup Γ.K tl) g tb) ρ nx rt bk ct := fun F0 H0 F H σ D k n b c r =>
  h F H σ _ k.i fun v x F1 H1 w s p ⟨ds, hx, Pv, h0, hs, hd⟩ => by
    subst hx
    cases p with
    | @tup a xs _ hq ha =>
      have sq : ∀ {F' H' : Hp}, Same F1 F' → Same F' H' → SqT Γ.K H' a xs := fun f1 f2 => hq.imp (fun r => r.imp (f1.trans f2 _ _) fun ⟨o, r⟩ => ⟨o, f1.trans f2 _ _ r⟩) id
      refine ⟨a, rfl, ⟨xs, sq (Same.refl F1) w.sub⟩, for_tup (xs := xs) (fun i σ' H' => ∃ F' ρ', Same F1 F' ∧ SOk Γ F0 H0 F' H' σ' ρ' ∧ Pv i ρ') ⟨F1, ρ, Same.refl F1, k.next w s, h0⟩ (fun i σ' H' _ ⟨F', ρ', f, k', _⟩ => sq f k'.i.w.sub) (fun i y σ' H' hi ⟨F', ρ', f, k', pv⟩ => ?_) (fun σ' H' ⟨F', ρ', f, k', pv⟩ => ?_)⟩
      · obtain ⟨d, hd1, hd2⟩ := ha.getV hi
        obtain ⟨js, hg, hb⟩ := hs i d ρ' hd1 pv
        exact hg F' H' y σ' _ k'.i.w.sub (hd2.mono f) fun us hu => hb F0 H0 F' H' _ _ (k'.put hu) (fun F2 H2 σ2 ρ2 f2 k2 q => ⟨F2, ρ2, f.trans f2, k2, q⟩) (fun F2 H2 σ2 ρ2 f2 k2 q => n F2 H2 σ2 ρ2 (s.fx.trans (f.trans f2)) k2 q) (fun F2 H2 σ2 ρ2 f2 k2 q => ⟨F2, ρ2, f.trans f2, k2, q⟩) r
      · refine n F' H' σ' ρ' (s.fx.trans f) k' (hd ρ' ?_)
        rw [← ha.len]
        exact pv
/-- range(n) -/
theorem s_forR {ta : TA} {j : Nat} (h : WL Γ ta ρ fun x => ∃ m : Int, x = [.int m] ∧ m < 2 ^ 62 ∧ -(2 ^ 62) ≤ m ∧ ∃ Pv : Nat → Rho → Prop, Pv 0 ρ ∧
      (∀ (i : Nat) ρ', (i : Int) < m → Pv i ρ' → WS Γ tb (ρ'.set j (some (.i (.int (i : Int))))) (Pv (i + 1)) rt nx (Pv (i + 1))) ∧ ∀ ρ', Pv m.toNat ρ' → nx ρ') :
    WS Γ (tFor (iRng1 ta) (gName j) tb) ρ nx rt bk ct := fun F0 H0 F H σ D k n b c r =>
  h F H σ _ k.i fun v x F1 H1 w s p ⟨m, hx, h1, h2, Pv, h0, hs, hd⟩ => by
    subst hx
    cases p with
    | cons p1 p2 =>
      cases p1
      cases p2
      refine ⟨m, rfl, h2, h1, for_range (lo := 0) (n := m.toNat) (fun i σ' H' => ∃ F' ρ', Same F1 F' ∧ SOk Γ F0 H0 F' H' σ' ρ' ∧ Pv i ρ') ⟨F1, ρ, Same.refl F1, k.next w s, h0⟩ (fun i σ' H' hi ⟨F', ρ', f, k', pv⟩ => ?_) (fun σ' H' ⟨F', ρ', f, k', pv⟩ => n F' H' σ' ρ' (s.fx.trans f) k' (hd ρ' pv))⟩
      have e0 : (0 : Int) + (i : Int) = (i : Int) := Int.zero_add _
      rw [e0]
      exact hs i ρ' (by omega) pv F0 H0 F' H' _ _ (k'.set (.int _) j) (fun F2 H2 σ2 ρ2 f2 k2 q => ⟨F2, ρ2, f.trans f2, k2, q⟩) (fun F2 H2 σ2 ρ2 f2 k2 q => n F2 H2 σ2 ρ2 (s.fx.trans (f.trans f2)) k2 q) (fun F2 H2 σ2 ρ2 f2 k2 q => ⟨F2, ρ2, f.trans f2, k2, q⟩) r
/-- range(a, b) -/
theorem s_forR2 {ta : TA} {j : Nat} (h : WL Γ ta ρ fun x => ∃ lo m : Int, x = [.int lo, .int m] ∧ (-(2 ^ 62) ≤ lo ∧ lo < 2 ^ 62 ∧ -(2 ^ 62) ≤ m ∧ m < 2 ^ 62) ∧ ∃ Pv : Nat → Rho → Prop, Pv 0 ρ ∧
      (∀ (i : Nat) ρ', lo + (i : Int) < m → Pv i ρ' → WS Γ tb (ρ'.set j (some (.i (.int (lo + (i : Int)))))) (Pv (i + 1)) rt nx (Pv (i + 1))) ∧ ∀ ρ', Pv (m - lo).toNat ρ' → nx ρ') :
    WS Γ (tFor (iRng2 ta) (gName j) tb) ρ nx rt bk ct := fun F0 H0 F H σ D k n b c r =>
  h F H σ _ k.i fun v x F1 H1 w s p ⟨lo, m, hx, h1, Pv, h0, hs, hd⟩ => by
    subst hx
    cases p with
    | cons p1 p2 =>
      cases p1
      cases p2 with
      | cons p1 p2 =>
        cases p1
        cases p2
        refine ⟨lo, m, rfl, h1, for_range (lo := lo) (n := (m - lo).toNat) (fun i σ' H' => ∃ F' ρ', Same F1 F' ∧ SOk Γ F0 H0 F' H' σ' ρ' ∧ Pv i ρ') ⟨F1, ρ, Same.refl F1, k.next w s, h0⟩ (fun i σ' H' hi ⟨F', ρ', f, k', pv⟩ => ?_) (fun σ' H' ⟨F', ρ', f, k', pv⟩ => n F' H' σ' ρ' (s.fx.trans f) k' (hd ρ' pv))⟩
        exact hs i ρ' (by omega) pv F0 H0 F' H' _ _ (k'.set (.int _) j) (fun F2 H2 σ2 ρ2 f2 k2 q => ⟨F2, ρ2, f.trans f2, k2, q⟩) (fun F2 H2 σ2 ρ2 f2 k2 q => n F2 H2 σ2 ρ2 (s.fx.trans (f.trans f2)) k2 q) (fun F2 H2 σ2 ρ2 f2 k2 q => ⟨F2, ρ2, f.trans f2, k2, q⟩) r
theorem s_while (Pv : Nat → Rho → Prop) (m0 : Nat) (h0 : Pv m0 ρ)
    (hs : ∀ m ρ', Pv m ρ' → WT Γ tt ρ' fun b => (b = true → WS Γ tb ρ' (fun ρ2 => ∃ m', m' < m ∧ Pv m' ρ2) rt nx (fun ρ2 => ∃ m', m' < m ∧ Pv m' ρ2)) ∧ (b = false → nx ρ')) :
    WS Γ (tWhile tt tb) ρ nx rt bk ct := fun F0 H0 F H σ D k n b c r => by
  refine ⟨fun m σ' H' => ∃ F' ρ', Same F F' ∧ SOk Γ F0 H0 F' H' σ' ρ' ∧ Pv m ρ', ⟨m0, F, ρ, Same.refl F, k, h0⟩, ?_⟩
  rintro m σ' H' ⟨F', ρ', f, k', pv⟩
  refine hs m ρ' pv F' H' σ' _ k'.i fun b' F1 H1 w s q => ?_
  cases b' with
  | true =>
    refine ⟨fun σ2 H2 => ∃ m', m' < m ∧ ∃ F2 ρ2, Same F F2 ∧ SOk Γ F0 H0 F2 H2 σ2 ρ2 ∧ Pv m' ρ2, fun σ2 H2 ⟨m', hm, F2, ρ2, f2, k2, q2⟩ => ⟨m', hm, F2, ρ2, f2, k2, q2⟩, ?_⟩
    exact q.1 rfl F0 H0 F1 H1 σ' _ (k'.next w s) (fun F2 H2 σ2 ρ2 f2 k2 ⟨m', hm, q2⟩ => ⟨m', hm, F2, ρ2, f.trans (s.fx.trans f2), k2, q2⟩) (fun F2 H2 σ2 ρ2 f2 k2 q2 => n F2 H2 σ2 ρ2 (f.trans (s.fx.trans f2)) k2 q2) (fun F2 H2 σ2 ρ2 f2 k2 ⟨m', hm, q2⟩ => ⟨m', hm, F2, ρ2, f.trans (s.fx.trans f2), k2, q2⟩) r
  | false => exact n F1 H1 σ' ρ' (f.trans s.fx) (k'.next w s) (q.2 rfl)
end AL
/-! A5 -/
namespace AL
open PySem PySem.Spec PyProof.Rows L2
variable {Γ : Gam} {F H F' H' F0 H0 : Hp} {σ : L2.St} {ρ : Rho}
/-! ### comprehensions -/
/-- between two turns: the new list at Dl -/
structure Lcw (Γ : Gam) (F1 H1 : Hp) (Dl : Addr) (Iv : List D → Prop) (F H : Hp) : Prop where
  w : Wd Γ.z F H
  s : Stp Γ.z F1 H1 F H
  l : ∃ xs acc, H Dl = some (.lst xs) ∧ F Dl = none ∧ DqAll Γ.K F xs acc ∧ Iv acc
  n : H1 Dl = none
  z : zn Γ.z Dl
theorem Lcw.start {F1 H1 : Hp} {Dl : Addr} {Iv : List D → Prop} (w : Wd Γ.z F1 H1) (h : H1 Dl = none) (q : Iv []) : Lcw Γ F1 H1 Dl Iv F1 (upd H1 Dl (.lst [])) := by
  have hf : F1 Dl = none := by
    cases e : F1 Dl with
    | none => rfl
    | some u => rw [w.sub Dl u e] at h; cases h
  exact ⟨w.own h, Stp.own h, ⟨[], [], upd_same, hf, .nil, q⟩, h, w.zn_new h⟩
theorem Lcw.same {F1 H1 F2 H2 : Hp} {Dl : Addr} {Iv Iv' : List D → Prop} (L : Lcw Γ F1 H1 Dl Iv F H) (w : Wd Γ.z F2 H2) (s : Stp Γ.z F H F2 H2) (q : ∀ acc, Iv acc → Iv' acc) : Lcw Γ F1 H1 Dl Iv' F2 H2 := by
  obtain ⟨xs, acc, h1, h2, h3, h4⟩ := L.l
  exact ⟨w, L.s.trans L.w s, ⟨xs, acc, s.keep Dl _ h1 L.z, s.out Dl _ h1 h2, DqAll.mono s.fx acc xs h3, q acc h4⟩, L.n, L.z⟩
theorem Lcw.app {F1 H1 : Hp} {Dl : Addr} {Iv Iv' : List D → Prop} (L : Lcw Γ F1 H1 Dl Iv F H) {v : V} {d : D} (p : Dq Γ.K F v d) (q : ∀ acc, Iv acc → acc.length < 100000 ∧ Iv' (acc ++ [d])) :
    ∃ xs, H Dl = some (.lst xs) ∧ xs.length < sizeLine ∧ Lcw Γ F1 H1 Dl Iv' F (upd H Dl (.lst (xs ++ [v]))) := by
  obtain ⟨xs, acc, h1, h2, h3, h4⟩ := L.l
  obtain ⟨hz, q'⟩ := q acc h4
  refine ⟨xs, h1, by rw [h3.len]; exact Nat.lt_of_lt_of_le hz (by decide), ⟨L.w.chg h2 L.z, ⟨L.s.fx, fun a u e n => ?_, L.s.out⟩, ⟨xs ++ [v], acc ++ [d], upd_same, h2, h3.app (.cons p .nil), q'⟩, L.n, L.z⟩⟩
  rw [upd_ne (fun c => by rw [c, L.n] at e; cases e)]
  exact L.s.keep a u e n
theorem Lcw.fin {F1 H1 : Hp} {Dl : Addr} {Iv : List D → Prop} (L : Lcw Γ F1 H1 Dl Iv F H) : ∃ F' acc, Wd Γ.z F' H ∧ Stp Γ.z F1 H1 F' H ∧ Dq Γ.K F' (.ref Dl) (.list acc) ∧ Iv acc := by
  obtain ⟨xs, acc, h1, h2, h3, h4⟩ := L.l
  have fx : Same F (upd F Dl (.lst xs)) := fun a u q => by
    rw [upd_ne (fun z => by rw [z, h2] at q; cases q)]
    exact q
  refine ⟨upd F Dl (.lst xs), acc, L.w.frz h2 h1 L.z, ⟨L.s.fx.trans fx, L.s.keep, fun a u q n => ?_⟩, .lst upd_same (DqAll.mono fx acc xs h3), h4⟩
  rw [upd_ne (fun z => by rw [z, L.n] at q; cases q)]
  exact L.s.out a u q n
/-- one turn of a block: what a turn from data d on asks, acc made so far -/
def Turn1 (Γ : Gam) (g : TG) (tt : TT) (te : TE) (vs : List Nat) (ρ : Rho) (d : D) (Iv Iv' : List D → Prop) : Prop :=
  ∀ acc, Iv acc → ∃ js, WG Γ.K g d js ∧ (js.all fun p => vs.contains p.1) = true ∧ WT Γ tt (putD (wipeR ρ vs) js) fun b => (b = true → WE Γ te (putD (wipeR ρ vs) js) fun e => acc.length < 100000 ∧ Iv' (acc ++ [e])) ∧ (b = false → Iv' acc)
theorem Turn1.go {g : TG} {tt : TT} {te : TE} {vs : List Nat} {d : D} {Iv Iv' : List D → Prop} {F1 H1 : Hp} {Dl : Addr} {y : V} (T : Turn1 Γ g tt te vs ρ d Iv Iv') (e : EnvI Γ.K F1 σ ρ) (x : XGood Γ F1 H1) (L : Lcw Γ F1 H1 Dl Iv F H) (p : Dq Γ.K F y d) :
    g y (wipe σ vs) H fun σ2 H2 => wipe σ2 vs = wipe σ vs ∧ tt σ2 H2 fun b H3 =>
      if b = true then te σ2 H3 fun y H4 => ∃ acc, H4 Dl = some (.lst acc) ∧ acc.length < sizeLine ∧ (∃ F, Lcw Γ F1 H1 Dl Iv' F (upd H4 Dl (.lst (acc ++ [y])))) else ∃ F, Lcw Γ F1 H1 Dl Iv' F H3 := by
  obtain ⟨xs0, acc0, g1, g2, g3, g4⟩ := L.l
  have L0 : Lcw Γ F1 H1 Dl (fun a => a = acc0) F H := ⟨L.w, L.s, ⟨xs0, acc0, g1, g2, g3, rfl⟩, L.n, L.z⟩
  obtain ⟨js, hg, hj, ht⟩ := T acc0 g4
  refine hg F H y _ _ L.w.sub p fun us hu => ⟨?_, ?_⟩
  · rw [wipe_put (hu.dom hj), wipe_wipe]
  · have i2 : In Γ F H (putV (wipe σ vs) us) (putD (wipeR ρ vs) js) := ⟨L.w, ((e.mono L.s.fx).wipe vs).put hu, x.next L.w L.s⟩
    refine ht F H _ _ i2 fun b F2 H2 w2 s2 q2 => ?_
    cases b with
    | true =>
      show te _ H2 _
      refine q2.1 rfl F2 H2 _ _ (i2.next w2 s2) fun v d F3 H3 w3 s3 p3 q3 => ?_
      obtain ⟨xs, h1, h2, L'⟩ := (L0.same (Iv' := fun a => a = acc0) w3 (s2.trans w2 s3) fun acc h => h).app (Iv' := Iv') p3 (fun a h => by rw [h]; exact q3)
      exact ⟨xs, h1, h2, F3, L'⟩
    | false => exact ⟨F2, L0.same w2 s2 fun a h => by rw [h]; exact q2.2 rfl⟩
section
variable {k : D → Prop} {g : TG} {tt : TT} {te tl : TE} {vs : List Nat}
theorem w_lcL (h : WE Γ tl ρ fun x => ∃ ds, x = .list ds ∧ ∃ Iv : Nat → List D → Prop, Iv 0 [] ∧ (∀ i d, ds[i]? = some d → Turn1 Γ g tt te vs ρ d (Iv i) (Iv (i + 1))) ∧ ∀ acc, Iv ds.length acc → k (.list acc)) :
    WE Γ (tLc (iList Γ.K tl) g tt te vs) ρ k := fun F H σ Q i c =>
  h F H σ _ i fun v x F1 H1 w1 s1 p1 ⟨ds, hx, Iv, h0, hs, hd⟩ => by
    subst hx
    cases p1 with
    | @lst a xs _ hq ha =>
      refine ⟨a, rfl, ⟨xs, SqL.of (w1.sub _ _ hq)⟩, fun Dl hD => lc_list (xs := xs) (fun i H' => ∃ F', Lcw Γ F1 H1 Dl (Iv i) F' H') ⟨F1, Lcw.start w1 hD h0⟩ (fun i H' _ ⟨F', L⟩ => SqL.of (L.w.sub _ _ (L.s.fx _ _ hq))) (fun j y H' hj ⟨F', L⟩ => ?_) (fun H' ⟨F', L⟩ => ?_)⟩
      · obtain ⟨d, hd1, hd2⟩ := ha.getV hj
        exact (hs j d hd1).go (i.next w1 s1).e (i.next w1 s1).x L (hd2.mono L.s.fx)
      · obtain ⟨F2, acc, w2, s2, p2, q2⟩ := L.fin
        rw [ha.len] at q2
        exact c _ _ F2 H' w2 (s1.trans w1 s2) p2 (hd acc q2)
theorem w_lcT (h : WE Γ tl ρ fun x => ∃ ds, x = .tuple ds ∧ ∃ Iv : Nat → List D → Prop, Iv 0 [] ∧ (∀ i d, ds[i]? = some d → Turn1 Γ g tt te vs ρ d (Iv i) (Iv (i + 1))) ∧ ∀ acc, Iv ds.length acc → k (.list acc)) :
    WE Γ (tLc (iTup Γ.K tl) g tt te vs) ρ k := fun F H σ Q i c =>
  h F H σ _ i fun v x F1 H1 w1 s1 p1 ⟨ds, hx, Iv, h0, hs, hd⟩ => by
    subst hx
    cases p1 with
    | @tup a xs _ hq ha =>
      have sq : ∀ {F' H' : Hp}, Same F1 F' → Same F' H' → SqT Γ.K H' a xs := fun f1 f2 => hq.imp (fun r => r.imp (f1.trans f2 _ _) fun ⟨o, r⟩ => ⟨o, f1.trans f2 _ _ r⟩) id
      refine ⟨a, rfl, ⟨xs, sq (Same.refl F1) w1.sub⟩, fun Dl hD => lc_tup (xs := xs) (fun i H' => ∃ F', Lcw Γ F1 H1 Dl (Iv i) F' H') ⟨F1, Lcw.start w1 hD h0⟩ (fun i H' _ ⟨F', L⟩ => sq L.s.fx L.w.sub) (fun j y H' hj ⟨F', L⟩ => ?_) (fun H' ⟨F', L⟩ => ?_)⟩
      · obtain ⟨d, hd1, hd2⟩ := ha.getV hj
        exact (hs j d hd1).go (i.next w1 s1).e (i.next w1 s1).x L (hd2.mono L.s.fx)
      · obtain ⟨F2, acc, w2, s2, p2, q2⟩ := L.fin
        rw [ha.len] at q2
        exact c _ _ F2 H' w2 (s1.trans w1 s2) p2 (hd acc q2)
theorem w_lcR {ta : TA} (h : WL Γ ta ρ fun x => ∃ m : Int, x = [.int m] ∧ m < 2 ^ 62 ∧ -(2 ^ 62) ≤ m ∧ ∃ Iv : Nat → List D → Prop, Iv 0 [] ∧ (∀ i : Nat, (i : Int) < m → Turn1 Γ g tt te vs ρ (.int (i : Int)) (Iv i) (Iv (i + 1))) ∧ ∀ acc, Iv m.toNat acc → k (.list acc)) :
    WE Γ (tLc (iRng1 ta) g tt te vs) ρ k := fun F H σ Q i c =>
  h F H σ _ i fun v x F1 H1 w1 s1 p1 ⟨m, hx, h1, h2, Iv, h0, hs, hd⟩ => by
    subst hx
    cases p1 with
    | cons p1 p2 =>
      cases p1
      cases p2
      refine ⟨m, rfl, h2, h1, fun Dl hD => lc_range (lo := 0) (n := m.toNat) (fun i H' => ∃ F', Lcw Γ F1 H1 Dl (Iv i) F' H') ⟨F1, Lcw.start w1 hD h0⟩ (fun j H' hj ⟨F', L⟩ => ?_) (fun H' ⟨F', L⟩ => ?_)⟩
      · have e0 : (0 : Int) + (j : Int) = (j : Int) := Int.zero_add _
        rw [e0]
        exact (hs j (by omega)).go (i.next w1 s1).e (i.next w1 s1).x L (.int _)
      · obtain ⟨F2, acc, w2, s2, p2, q2⟩ := L.fin
        exact c _ _ F2 H' w2 (s1.trans w1 s2) p2 (hd acc q2)
end
/-! ### over a list of data that is written out: turn by turn -/
def LcU (Γ : Gam) (g : TG) (tt : TT) (te : TE) (vs : List Nat) (ρ : Rho) (k : D → Prop) : List D → List D → Prop
  | [], acc => k (.list acc)
  | d :: r, acc => ∃ js, WG Γ.K g d js ∧ (js.all fun p => vs.contains p.1) = true ∧ acc.length < 100000 ∧ WT Γ tt (putD (wipeR ρ vs) js) fun b => (b = true → WE Γ te (putD (wipeR ρ vs) js) fun e => LcU Γ g tt te vs ρ k r (acc ++ [e])) ∧ (b = false → LcU Γ g tt te vs ρ k r acc)
theorem lcU_turn {g : TG} {tt : TT} {te : TE} {vs : List Nat} {k : D → Prop} {ds : List D} (i : Nat) (d : D) (h : ds[i]? = some d) : Turn1 Γ g tt te vs ρ d (LcU Γ g tt te vs ρ k (ds.drop i)) (LcU Γ g tt te vs ρ k (ds.drop (i + 1))) := fun acc q => by
  obtain ⟨hi, e⟩ := List.getElem?_eq_some_iff.mp h
  rw [List.drop_eq_getElem_cons hi, e] at q
  obtain ⟨js, h1, h2, h3, h4⟩ := q
  exact ⟨js, h1, h2, h4.mono fun b ⟨q1, q2⟩ => ⟨fun hb => (q1 hb).mono fun e q => ⟨h3, q⟩, q2⟩⟩
theorem w_lcTU {g : TG} {tt : TT} {te tl : TE} {vs : List Nat} {k : D → Prop} (h : WE Γ tl ρ fun x => ∃ ds, x = .tuple ds ∧ LcU Γ g tt te vs ρ k ds []) : WE Γ (tLc (iTup Γ.K tl) g tt te vs) ρ k :=
  w_lcT (h.mono fun x ⟨ds, e, q⟩ => ⟨ds, e, fun i => LcU Γ g tt te vs ρ k (ds.drop i), q, fun i d hd => lcU_turn i d hd, fun acc q => by
    have q' : LcU Γ g tt te vs ρ k (ds.drop ds.length) acc := q
    rw [List.drop_length] at q'
    exact q'⟩)
theorem w_lcLU {g : TG} {tt : TT} {te tl : TE} {vs : List Nat} {k : D → Prop} (h : WE Γ tl ρ fun x => ∃ ds, x = .list ds ∧ LcU Γ g tt te vs ρ k ds []) : WE Γ (tLc (iList Γ.K tl) g tt te vs) ρ k :=
  w_lcL (h.mono fun x ⟨ds, e, q⟩ => ⟨ds, e, fun i => LcU Γ g tt te vs ρ k (ds.drop i), q, fun i d hd => lcU_turn i d hd, fun acc q => by
    have q' : LcU Γ g tt te vs ρ k (ds.drop ds.length) acc := q
    rw [List.drop_length] at q'
    exact q'⟩)
theorem lcU_nil {g : TG} {tt : TT} {te : TE} {vs : List Nat} {k : D → Prop} {acc : List D} (q : k (.list acc)) : LcU Γ g tt te vs ρ k [] acc := q
/-- a turn without a test, the target a name -/
theorem lcU_one {j : Nat} {te : TE} {vs : List Nat} {k : D → Prop} {d : D} {r acc : List D} (hj : vs.contains j = true) (hl : acc.length < 100000) (q : WE Γ te ((wipeR ρ vs).set j (some (.i d))) fun e => LcU Γ (gName j) tYes te vs ρ k r (acc ++ [e])) : LcU Γ (gName j) tYes te vs ρ k (d :: r) acc :=
  ⟨[(j, d)], g_name, by rw [List.all_cons, hj]; rfl, hl, t_yes ⟨fun _ => q, fun e => by cases e⟩⟩
def Unr (Γ : Gam) (g : TG) (tb : TS) (nx : Rho → Prop) (rt : D → Prop) : List D → Rho → Prop
  | [], ρ => nx ρ
  | d :: r, ρ => ∃ js, WG Γ.K g d js ∧ WS Γ tb (putD ρ js) (Unr Γ g tb nx rt r) rt nx (Unr Γ g tb nx rt r)
theorem s_forTU {g : TG} {tb : TS} {tl : TE} {nx bk ct : Rho → Prop} {rt : D → Prop} (h : WE Γ tl ρ fun x => ∃ ds, x = .tuple ds ∧ Unr Γ g tb nx rt ds ρ) : WS Γ (tFor (iTup Γ.K tl) g tb) ρ nx rt bk ct :=
  s_forT (h.mono fun x ⟨ds, e, q⟩ => ⟨ds, e, fun i => Unr Γ g tb nx rt (ds.drop i), q, fun i d ρ' hd q => by
    obtain ⟨hi, e⟩ := List.getElem?_eq_some_iff.mp hd
    have q' : Unr Γ g tb nx rt (ds.drop i) ρ' := q
    rw [List.drop_eq_getElem_cons hi, e] at q'
    exact q', fun ρ' q => by
    have q' : Unr Γ g tb nx rt (ds.drop ds.length) ρ' := q
    rw [List.drop_length] at q'
    exact q'⟩)
theorem s_forLU {g : TG} {tb : TS} {tl : TE} {nx bk ct : Rho → Prop} {rt : D → Prop} (h : WE Γ tl ρ fun x => ∃ ds, x = .list ds ∧ Unr Γ g tb nx rt ds ρ) : WS Γ (tFor (iList Γ.K tl) g tb) ρ nx rt bk ct :=
  s_forL (h.mono fun x ⟨ds, e, q⟩ => ⟨ds, e, fun i => Unr Γ g tb nx rt (ds.drop i), q, fun i d ρ' hd q => by
    obtain ⟨hi, e⟩ := List.getElem?_eq_some_iff.mp hd
    have q' : Unr Γ g tb nx rt (ds.drop i) ρ' := q
    rw [List.drop_eq_getElem_cons hi, e] at q'
    exact q', fun ρ' q => by
    have q' : Unr Γ g tb nx rt (ds.drop ds.length) ρ' := q
    rw [List.drop_length] at q'
    exact q'⟩)
theorem unr_nil {g : TG} {tb : TS} {nx : Rho → Prop} {rt : D → Prop} (q : nx ρ) : Unr Γ g tb nx rt [] ρ := q
theorem unr_one {j : Nat} {tb : TS} {nx : Rho → Prop} {rt : D → Prop} {d : D} {r : List D} (q : WS Γ tb (ρ.set j (some (.i d))) (Unr Γ (gName j) tb nx rt r) rt nx (Unr Γ (gName j) tb nx rt r)) : Unr Γ (gName j) tb nx rt (d :: r) ρ := ⟨[(j, d)], g_name, q⟩
/-! ### own lists looked at -/
def pkA : Option AV → Option AV
  | some (.m ds) => some (.i (.list ds))
  | x => x
def peek (ρ : Rho) : Rho := ρ.map pkA
def pkn (n : Nat) (ρ : Rho) : Rho := (ρ.take n).map pkA ++ ρ.drop n
theorem pkn_len (n : Nat) (ρ : Rho) : (pkn n ρ).length = ρ.length := by
  unfold pkn
  rw [List.length_append, List.length_map, ← List.length_append, List.take_append_drop]
theorem pkn_get (n : Nat) (ρ : Rho) (i : Nat) : (pkn n ρ)[i]? = if i < n then ρ[i]?.map pkA else ρ[i]? := by
  unfold pkn
  by_cases h : i < n
  · rw [if_pos h]
    by_cases q : i < ρ.length
    · rw [List.getElem?_append_left (by simp; omega), List.getElem?_map, List.getElem?_take_of_lt h]
    · rw [List.getElem?_eq_none (l := ρ) (by omega), List.getElem?_eq_none]
      · rfl
      · rw [List.length_append, List.length_map, ← List.length_append, List.take_append_drop]; omega
  · rw [if_neg h]
    by_cases q : n ≤ ρ.length
    · rw [List.getElem?_append_right (by simp; omega), List.getElem?_drop]
      congr 1
      simp
      omega
    · rw [List.getElem?_eq_none (l := ρ) (by omega), List.getElem?_eq_none]
      rw [List.length_append, List.length_map, ← List.length_append, List.take_append_drop]; omega
theorem SOk.pk (k : SOk Γ F0 H0 F H σ ρ) : ∀ n, ∃ F', Same F F' ∧ SOk Γ F0 H0 F' H σ (pkn n ρ)
  | 0 => ⟨F, Same.refl F, k⟩
  | n + 1 => by
    obtain ⟨F', f, k'⟩ := k.pk n
    have same : (∀ ds, ρ[n]? ≠ some (some (.m ds))) → pkn (n + 1) ρ = pkn n ρ := fun hn => by
      refine List.ext_getElem? fun i => ?_
      rw [pkn_get, pkn_get]
      by_cases h : i < n
      · rw [if_pos h, if_pos (by omega)]
      · rw [if_neg h]
        by_cases e : i = n
        · subst e
          rw [if_pos (by omega)]
          cases q : ρ[i]? with
          | none => rfl
          | some a =>
            cases a with
            | none => rfl
            | some a =>
              cases a with
              | m ds => exact absurd q (hn ds)
              | i d => rfl
              | o v => rfl
              | x v d fs => rfl
        · rw [if_neg (by omega)]
    by_cases hn : ∃ ds, ρ[n]? = some (some (.m ds))
    · obtain ⟨ds, e⟩ := hn
      obtain ⟨F2, f2, k2⟩ := k'.frz (j := n) (ds := ds) (by rw [pkn_get, if_neg (by omega)]; exact e)
      refine ⟨F2, f.trans f2, ?_⟩
      have : (pkn n ρ).set n (some (.i (.list ds))) = pkn (n + 1) ρ := by
        refine List.ext_getElem? fun i => ?_
        have hl : n < ρ.length := (List.getElem?_eq_some_iff.mp e).1
        rw [List.getElem?_set, pkn_get, pkn_get, pkn_len]
        by_cases h : n = i
        · subst h
          rw [if_pos rfl, if_pos hl, if_pos (by omega), e]
          rfl
        · rw [if_neg h]
          by_cases q : i < n
          · rw [if_pos q, if_pos (by omega)]
          · rw [if_neg q, if_neg (by omega)]
      rw [← this]
      exact k2
    · exact ⟨F', f, by rw [same fun ds e => hn ⟨ds, e⟩]; exact k'⟩
theorem SOk.peek (k : SOk Γ F0 H0 F H σ ρ) : ∃ F', Same F F' ∧ SOk Γ F0 H0 F' H σ (peek ρ) := by
  have e : pkn ρ.length ρ = AL.peek ρ := by
    unfold pkn AL.peek
    rw [List.take_length, List.drop_length, List.append_nil]
  rw [← e]
  exact k.pk _
theorem SOk.retn {F1 F2 H2 : Hp} (k : SOk Γ F0 H0 F H σ ρ) (f : Same F F1) (w : Wd Γ.z F2 H2) (s : Stp Γ.z F1 H F2 H2) : SOk Γ F0 H0 F H2 σ ρ := by
  have w' : Wd Γ.z F H2 := ⟨fun a o e => w.sub a o (s.fx a o (f a o e)), fun a e => by
    obtain ⟨h1, h2, _⟩ := k.i.w.st a e
    obtain ⟨_, _, h3⟩ := w.st a e
    exact ⟨h1, h2, h3⟩⟩
  have s' : Stp Γ.z F0 H0 F H2 := ⟨k.s.fx, fun a o e n => s.keep a o (k.s.keep a o e n) n, k.s.out⟩
  exact ⟨⟨w', k.i.e, k.x0.next w' s'⟩, k.w0, k.x0, s', ⟨fun i ds e => by
    obtain ⟨p, xs, h1, h2, h3, h4, h5, h6⟩ := k.o.own i ds e
    exact ⟨p, xs, h1, h2, h3, h4, s.keep p _ h5 h4, h6⟩, k.o.sep⟩⟩
section
variable {nx bk ct : Rho → Prop} {rt : D → Prop} {t u tb : TS} {te : TE} {tt : TT}
theorem p_ret (h : WE Γ te (peek ρ) rt) : WS Γ (tRet te) ρ nx rt bk ct := fun F0 H0 F H σ D k n b c r => by
  obtain ⟨F1, f, k1⟩ := k.peek
  exact h F1 H σ D.rt k1.i fun v d F' H' w s p q => r v d F' H' w (k1.s.trans k1.i.w s) p q
theorem p_if (h : WT Γ tt (peek ρ) fun b => (b = true → WS Γ t ρ nx rt bk ct) ∧ (b = false → WS Γ u ρ nx rt bk ct)) : WS Γ (tIfS tt t u) ρ nx rt bk ct := fun F0 H0 F H σ D k n b c r => by
  obtain ⟨F1, f, k1⟩ := k.peek
  refine h F1 H σ _ k1.i fun b' F2 H2 w s q => ?_
  cases b' with
  | true => exact q.1 rfl F0 H0 F H2 σ D (k.retn f w s) n b c r
  | false => exact q.2 rfl F0 H0 F H2 σ D (k.retn f w s) n b c r
theorem p_forR {ta : TA} {j : Nat} (h : WL Γ ta (peek ρ) fun x => ∃ m : Int, x = [.int m] ∧ m < 2 ^ 62 ∧ -(2 ^ 62) ≤ m ∧ ∃ Pv : Nat → Rho → Prop, Pv 0 ρ ∧
      (∀ (i : Nat) ρ', (i : Int) < m → Pv i ρ' → WS Γ tb (ρ'.set j (some (.i (.int (i : Int))))) (Pv (i + 1)) rt nx (Pv (i + 1))) ∧ ∀ ρ', Pv m.toNat ρ' → nx ρ') :
    WS Γ (tFor (iRng1 ta) (gName j) tb) ρ nx rt bk ct := fun F0 H0 F H σ D k n b c r => by
  obtain ⟨F1, f, k1⟩ := k.peek
  refine h F1 H σ _ k1.i fun v x F2 H2 w s p ⟨m, hx, h1, h2, Pv, h0, hs, hd⟩ => ?_
  subst hx
  cases p with
  | cons p1 p2 =>
    cases p1
    cases p2
    have k2 := k.retn f w s
    refine ⟨m, rfl, h2, h1, for_range (lo := 0) (n := m.toNat) (fun i σ' H' => ∃ F' ρ', Same F F' ∧ SOk Γ F0 H0 F' H' σ' ρ' ∧ Pv i ρ') ⟨F, ρ, Same.refl F, k2, h0⟩ (fun i σ' H' hi ⟨F', ρ', f, k', pv⟩ => ?_) (fun σ' H' ⟨F', ρ', f, k', pv⟩ => n F' H' σ' ρ' f k' (hd ρ' pv))⟩
    have e0 : (0 : Int) + (i : Int) = (i : Int) := Int.zero_add _
    rw [e0]
    exact hs i ρ' (by omega) pv F0 H0 F' H' _ _ (k'.set (.int _) j) (fun F2 H2 σ2 ρ2 f2 k2 q => ⟨F2, ρ2, f.trans f2, k2, q⟩) (fun F2 H2 σ2 ρ2 f2 k2 q => n F2 H2 σ2 ρ2 (f.trans f2) k2 q) (fun F2 H2 σ2 ρ2 f2 k2 q => ⟨F2, ρ2, f.trans f2, k2, q⟩) r
end
/-! ### calls -/
/-- a contract: what must hold of the arguments so that every answer d has k d -/
abbrev Con := List AV → (D → Prop) → Prop
def spOf (K : PySem.W.Frag) (z : Option Zs) (c : Con) : Sp := fun vs H Q _ => ∃ F as k, Wd z F H ∧ VAll K F vs as ∧ c as k ∧
  ∀ v d F' H', Wd z F' H' → Stp z F H F' H' → Dq K F' v d → k d → Q v H'
theorem w_call {ta : TA} {c : Con} {dvs : List V} {das : List AV} {E : XK} {k : D → Prop} (hd : ∀ F, VAll Γ.K F dvs das) (h : WA Γ ta ρ fun as => c (as ++ das) k) : WE Γ (tCall (spOf Γ.K Γ.z c) dvs E ta) ρ k := fun F H σ Q i q =>
  h F H σ _ i fun vs as F1 H1 w1 s1 p1 h1 => ⟨F1, as ++ das, k, w1, p1.app (hd F1), h1, fun v d F' H' w s p kd => q v d F' H' w (s1.trans w1 s) p kd⟩
/-- a def without a stream -/
theorem w_callP {ta : TA} {c : Con} {dvs : List V} {das : List AV} {E : XK} {k : D → Prop} (hd : ∀ F, VAll Γ.K F dvs das) (h : WA Γ ta ρ fun as => c (as ++ das) k) : WE Γ (tCall (spOf Γ.K none c) dvs E ta) ρ k := fun F H σ Q i q =>
  h F H σ _ i fun vs as F1 H1 w1 s1 p1 h1 => ⟨F1, as ++ das, k, w1.none, p1.app (hd F1), h1, fun v d F' H' w s p kd => q v d F' H' (w1.back w s) (s1.trans w1 s.back) p kd⟩
abbrev ConX := List AV → (D → Prop) → (AExc → Prop) → Prop
/-- a def that may refuse (none of them has a stream) -/
def spX (K : PySem.W.Frag) (c : ConX) : Sp := fun vs H Q E => ∃ F as k ke, Wd none F H ∧ VAll K F vs as ∧ c as k ke ∧
  (∀ v d F' H', Wd none F' H' → Stp none F H F' H' → Dq K F' v d → k d → Q v H') ∧
  (∀ C dd F' H' ex, Wd none F' H' → Stp none F H F' H' → XOk F' C dd ex → ke ex → E C dd H')
theorem w_callX {ta : TA} {c : ConX} {dvs : List V} {das : List AV} {k : D → Prop} (hz : Γ.z = none) (hd : ∀ F, VAll Γ.K F dvs das) (h : WA Γ ta ρ fun as => c (as ++ das) k Γ.xe) : WE Γ (tCall (spX Γ.K c) dvs Γ.X ta) ρ k := fun F H σ Q i q =>
  h F H σ _ i fun vs as F1 H1 w1 s1 p1 h1 => by
    rw [hz] at w1 s1
    refine ⟨F1, as ++ das, k, Γ.xe, w1, p1.app (hd F1), h1, fun v d F' H' w s p kd => q v d F' H' (by rw [hz]; exact w) (by rw [hz]; exact s1.trans w1 s) p kd, fun C dd F' H' ex w s o e => i.x C dd F' H' ex (by rw [hz]; exact w) (by rw [hz]; exact s1.trans w1 s) o e⟩
/-! ### entering a def -/
def st0 (n : Nat) (as : List AV) : Rho := as.map some ++ List.replicate n none
theorem gs_app_l {α : Type} {l r : List (Option α)} {i : Nat} (h : i < l.length) : gs (l ++ r) i = gs l i := by
  unfold gs
  rw [List.getElem?_append_left h]
theorem VAll.slot {K : PySem.W.Frag} : ∀ {vs : List V} {as : List AV} (i : Nat), VAll K F vs as → SlotI K F (gs (vs.map some) i) (gs (as.map some) i) ∧ ∀ ds, gs (as.map some) i ≠ some (.m ds)
  | [], [], i, _ => by
    have e : gs (List.map some ([] : List AV)) i = none := by simp [gs]
    rw [e]
    exact ⟨trivial, fun ds h => nomatch h⟩
  | v :: vs, a :: as, 0, h => by
    have h1 := h.1
    have e1 : gs (List.map some (v :: vs)) 0 = some v := rfl
    have e2 : gs (List.map some (a :: as)) 0 = some a := rfl
    rw [e1, e2]
    cases a with
    | i d => exact ⟨⟨v, rfl, h1⟩, fun ds h => nomatch h⟩
    | o w => exact ⟨congrArg some h1, fun ds h => nomatch h⟩
    | x w d fs => exact ⟨⟨congrArg some h1.1, h1.2⟩, fun ds h => nomatch h⟩
    | m ds => exact h1.elim
  | v :: vs, a :: as, i + 1, h => by
    have e1 : gs (List.map some (v :: vs)) (i + 1) = gs (vs.map some) i := by simp [gs]
    have e2 : gs (List.map some (a :: as)) (i + 1) = gs (as.map some) i := by simp [gs]
    rw [e1, e2]
    exact VAll.slot i h.2
  | [], _ :: _, _, h => h.elim
  | _ :: _, [], _, h => h.elim
theorem gs_start {α : Type} {l : List (Option α)} {n i : Nat} : gs (l ++ List.replicate n none) i = gs l i := by
  unfold gs
  by_cases h : i < l.length
  · rw [List.getElem?_append_left h]
  · rw [List.getElem?_append_right (by omega), List.getElem?_eq_none (i := i) (by omega)]
    cases e : (List.replicate n (none : Option α))[i - l.length]? with
    | none => rfl
    | some x =>
      obtain ⟨hi, hx⟩ := List.getElem?_eq_some_iff.mp e
      rw [List.getElem_replicate] at hx
      rw [← hx]
theorem enter {K : PySem.W.Frag} {z : Option Zs} {c : Con} {vs : List V} {H : Hp} {Q : VK} {E : XK} {N : List Str} {t : TS} (h : spOf K z c vs H Q E) (n : Nat) (hn : ∀ as k, c as k → as.length + n = N.length)
    (hw : ∀ as k, c as k → WS ⟨K, z, E0, fun _ => False⟩ t (st0 n as) (fun _ => k .none) k (fun _ => False) (fun _ => False)) : t { nx := fun _ H' => Q .non H', rt := Q } (start N vs) H := by
  obtain ⟨F, as, k, w, va, hc, q⟩ := h
  have hl := va.len
  have hN := hn as k hc
  have e0 : N.length - vs.length = n := by omega
  have ev : EnvI K F (start N vs) (st0 n as) := by
    refine ⟨?_, fun i => ?_⟩
    · unfold L2.start st0
      rw [e0]
      simp [hl]
    · unfold L2.start st0
      rw [gs_start, gs_start]
      exact (va.slot i).1
  have x0 : XGood ⟨K, z, E0, fun _ => False⟩ F H := fun _ _ _ _ _ _ _ _ f => f.elim
  refine hw as k hc F H F H _ _ ⟨⟨w, ev, x0⟩, w, x0, .refl, ⟨fun i ds e => ?_, fun i j ds es p e1 _ _ _ => ?_⟩⟩ (fun F' H' σ' ρ' _ k' kd => q .non .none F' H' k'.i.w k'.s .non kd) (fun F' H' σ' ρ' _ k' kd => kd) (fun F' H' σ' ρ' _ k' kd => kd) fun v d F' H' w s p kd => q v d F' H' w s p kd
  · unfold st0 at e
    rw [gs_start] at e
    exact absurd e ((va.slot i).2 ds)
  · unfold st0 at e1
    rw [gs_start] at e1
    exact absurd e1 ((va.slot i).2 ds)
theorem enterX {K : PySem.W.Frag} {c : ConX} {vs : List V} {H : Hp} {Q : VK} {E : XK} {N : List Str} {t : TS} (h : spX K c vs H Q E) (n : Nat) (hn : ∀ as k ke, c as k ke → as.length + n = N.length)
    (hw : ∀ as k ke, c as k ke → WS ⟨K, none, E, ke⟩ t (st0 n as) (fun _ => k .none) k (fun _ => False) (fun _ => False)) : t { nx := fun _ H' => Q .non H', rt := Q } (start N vs) H := by
  obtain ⟨F, as, k, ke, w, va, hc, q, qe⟩ := h
  have hl := va.len
  have hN := hn as k ke hc
  have e0 : N.length - vs.length = n := by omega
  have ev : EnvI K F (start N vs) (st0 n as) := by
    refine ⟨?_, fun i => ?_⟩
    · unfold L2.start st0
      rw [e0]
      simp [hl]
    · unfold L2.start st0
      rw [gs_start, gs_start]
      exact (va.slot i).1
  have x0 : XGood ⟨K, none, E, ke⟩ F H := fun C dd F' H' ex w s o e => qe C dd F' H' ex w s o e
  refine hw as k ke hc F H F H _ _ ⟨⟨w, ev, x0⟩, w, x0, .refl, ⟨fun i ds e => ?_, fun i j ds es p e1 _ _ _ => ?_⟩⟩ (fun F' H' σ' ρ' _ k' kd => q .non .none F' H' k'.i.w k'.s .non kd) (fun F' H' σ' ρ' _ k' kd => kd) (fun F' H' σ' ρ' _ k' kd => kd) fun v d F' H' w s p kd => q v d F' H' w s p kd
  · unfold st0 at e
    rw [gs_start] at e
    exact absurd e ((va.slot i).2 ds)
  · unfold st0 at e1
    rw [gs_start] at e1
    exact absurd e1 ((va.slot i).2 ds)
end AL
/-! A6 -/
namespace L2
open PySem PySem.Spec PyProof.Rows
theorem DqAll.at {K : PySem.W.Frag} {F : Hp} {ds : List D} {vs : List V} {i : Int} {d : D} (h : DqAll K F vs ds) (e : atI ds i = some d) : ∃ v, atI vs i = some v ∧ Dq K F v d := by
  obtain ⟨j, hj, e2⟩ := Option.bind_eq_some_iff.mp e
  obtain ⟨v, h1, h2⟩ := h.get e2
  refine ⟨v, ?_, h2⟩
  unfold atI
  rw [h.len, hj]
  exact h1
def cutP (xs : List D) (lo hi : Option Int) : List D := (xs.drop (HT.sIx xs.length 0 lo)).take (HT.sIx xs.length xs.length hi - HT.sIx xs.length 0 lo)
theorem DqAll.cut {K : PySem.W.Frag} {F : Hp} {ds : List D} {vs : List V} {lo hi : Option Int} (h : DqAll K F vs ds) : DqAll K F (cutV vs lo hi) (cutP ds lo hi) := by
  unfold cutV cutP
  rw [h.len]
  exact (h.drop _).take _
theorem DqAll.rep {K : PySem.W.Frag} {F : Hp} {ds : List D} {vs : List V} (h : DqAll K F vs ds) : ∀ n : Nat, DqAll K F (List.replicate n vs).flatten (List.replicate n ds).flatten
  | 0 => .nil
  | n + 1 => by
    rw [List.replicate_succ, List.replicate_succ, List.flatten_cons, List.flatten_cons]
    exact h.app (h.rep n)
section
variable {X : Cx}
/-- // by any divisor that is not 0 and below 2 ^ 9000 in size -/
def CDivX (_ j : Int) : Prop := j ≠ 0 ∧ j.natAbs.log2 < 9000
theorem op_fdivX : OpR X (binaryOp .FloorDiv) (rI CDivX fun i j => .int (i.fdiv j)) := opI fun _ _ _ _ _ _ _ hc q => floordiv_int hc.1 q (.inl (PyProof.noPylong_of_log2 hc.2))
end
end L2
namespace AL
open PySem PySem.Spec PyProof.Rows L2
variable {Γ : Gam} {F H F' H' F0 H0 : Hp} {σ : L2.St} {ρ : Rho} {k : D → Prop}
/-! ### two values -/
theorem rb_i {g : Int → Int → Int} {i j : Int} (q : k (.int (g i j))) : RB Γ (rI0 fun i j => .int (g i j)) (.int i) (.int j) k := fun F H v u Q w p1 p2 c => by
  cases p1; cases p2
  exact ⟨i, j, rfl, rfl, c _ _ F H w .refl (.int _) q⟩
theorem rb_b {g : Int → Int → Bool} {i j : Int} (q : k (.bool (g i j))) : RB Γ (rI0 fun i j => .bl (g i j)) (.int i) (.int j) k := fun F H v u Q w p1 p2 c => by
  cases p1; cases p2
  exact ⟨i, j, rfl, rfl, c _ _ F H w .refl (.bl _) q⟩
theorem rb_c {C : Int → Int → Prop} {g : Int → Int → Int} {i j : Int} (h : C i j) (q : k (.int (g i j))) : RB Γ (rI C fun i j => .int (g i j)) (.int i) (.int j) k := fun F H v u Q w p1 p2 c => by
  cases p1; cases p2
  exact ⟨i, j, rfl, rfl, h, c _ _ F H w .refl (.int _) q⟩
theorem rb_eqI {i j : Int} (q : k (.bool (decide (i = j)))) : RB Γ rEq (.int i) (.int j) k := fun F H v u Q w p1 p2 c => by
  cases p1; cases p2
  exact ⟨rfl, by rw [dec_int, Bool.beq_eq_decide_eq]; exact c _ _ F H w .refl (.bl _) q⟩
theorem rb_neI {i j : Int} (q : k (.bool (!decide (i = j)))) : RB Γ rNe (.int i) (.int j) k := fun F H v u Q w p1 p2 c => by
  cases p1; cases p2
  exact ⟨rfl, by rw [dec_int, Bool.beq_eq_decide_eq]; exact c _ _ F H w .refl (.bl _) q⟩
theorem rb_eqS {i j : Str} (q : k (.bool (decide (i = j)))) : RB Γ rEq (.str i) (.str j) k := fun F H v u Q w p1 p2 c => by
  cases p1; cases p2
  exact ⟨rfl, by rw [dec_str, Bool.beq_eq_decide_eq]; exact c _ _ F H w .refl (.bl _) q⟩
theorem rb_eqB {i j : Bool} (q : k (.bool (decide (i = j)))) : RB Γ rEq (.bool i) (.bool j) k := fun F H v u Q w p1 p2 c => by
  cases p1; cases p2
  exact ⟨rfl, by rw [dec_bl, Bool.beq_eq_decide_eq]; exact c _ _ F H w .refl (.bl _) q⟩
theorem rb_neB {i j : Bool} (q : k (.bool (!decide (i = j)))) : RB Γ rNe (.bool i) (.bool j) k := fun F H v u Q w p1 p2 c => by
  cases p1; cases p2
  exact ⟨rfl, by rw [dec_bl, Bool.beq_eq_decide_eq]; exact c _ _ F H w .refl (.bl _) q⟩
/-- data of any depth -/
theorem rb_eqD {x y : D} (h1 : SeqAt.shaped x = true) (h2 : SeqAt.shaped y = true) (q : k (.bool (PyData.eqv x y))) : RB Γ (rEqD Γ.K) x y k := fun F H v u Q w p1 p2 c =>
  ⟨x, y, (p1.mono w.sub).dp, (p2.mono w.sub).dp, h1, h2, c _ _ F H w .refl (.bl _) q⟩
theorem rb_neD {x y : D} (h1 : SeqAt.shaped x = true) (h2 : SeqAt.shaped y = true) (q : k (.bool (!PyData.eqv x y))) : RB Γ (rNeD Γ.K) x y k := fun F H v u Q w p1 p2 c =>
  ⟨x, y, (p1.mono w.sub).dp, (p2.mono w.sub).dp, h1, h2, c _ _ F H w .refl (.bl _) q⟩
theorem rb_ixT {ds : List D} {i : Int} {d : D} (e : atI ds i = some d) (q : k d) : RB Γ (rIx Γ.K) (.tuple ds) (.int i) k := fun F H v u Q w p1 p2 c => by
  cases p1 with
  | tup ht ha =>
    cases p2
    obtain ⟨x, h1, h2⟩ := ha.at e
    exact .inr (.inl ⟨_, _, i, x, rfl, rfl, sqT_mono w.sub ht, h1, c x d F H w .refl h2 q⟩)
theorem rb_ixL {ds : List D} {i : Int} {d : D} (e : atI ds i = some d) (q : k d) : RB Γ (rIx Γ.K) (.list ds) (.int i) k := fun F H v u Q w p1 p2 c => by
  cases p1 with
  | lst ht ha =>
    cases p2
    obtain ⟨x, h1, h2⟩ := ha.at e
    exact .inl ⟨_, _, i, x, rfl, rfl, SqL.of (w.sub _ _ ht), h1, c x d F H w .refl h2 q⟩
theorem rb_catT {ds es : List D} (hz : ds.length + es.length ≤ 100000) (q : k (.tuple (ds ++ es))) : RB Γ (rCatA Γ.K) (.tuple ds) (.tuple es) k := fun F H v u Q w p1 p2 c => by
  cases p1 with
  | tup ht ha =>
    cases p2 with
    | tup hs hb =>
      refine ⟨_, _, _, _, rfl, rfl, sqT_mono w.sub ht, sqT_mono w.sub hs, by rw [ha.len, hb.len]; exact Nat.le_trans hz (by decide), fun e => ?_, fun e1 e2 => ?_, fun e1 e2 p hp => ?_⟩
      · subst e
        cases ha
        exact c _ _ F H w .refl (.tup hs hb) q
      · subst e2
        cases hb
        rw [List.append_nil] at q
        exact c _ _ F H w .refl (.tup ht ha) q
      · exact c _ _ _ _ (w.new hp) (Stp.new w hp) (.tup (SqT.of upd_same) ((ha.app hb).mono (Stp.new (z := Γ.z) w hp).fx)) q
theorem rb_catL {ds es : List D} (hz : ds.length + es.length ≤ 100000) (q : k (.list (ds ++ es))) : RB Γ rCat (.list ds) (.list es) k := fun F H v u Q w p1 p2 c => by
  cases p1 with
  | lst ht ha =>
    cases p2 with
    | lst hs hb =>
      exact ⟨_, _, _, _, rfl, rfl, w.sub _ _ ht, w.sub _ _ hs, by rw [ha.len, hb.len]; exact Nat.le_trans hz (by decide), fun p hp =>
        c _ _ _ _ (w.new hp) (Stp.new w hp) (.lst upd_same ((ha.app hb).mono (Stp.new (z := Γ.z) w hp).fx)) q⟩
theorem rb_rep {ds : List D} {n : Int} (h0 : -(2 ^ 63) ≤ n ∧ n < 2 ^ 63) (hz : ds.length * n.toNat ≤ 100000) (q : k (.list (List.replicate n.toNat ds).flatten)) : RB Γ rRep (.list ds) (.int n) k := fun F H v u Q w p1 p2 c => by
  cases p1 with
  | lst ht ha =>
    cases p2
    exact ⟨_, _, _, rfl, rfl, w.sub _ _ ht, h0.1, h0.2, by rw [ha.len]; exact Nat.le_trans hz (by decide), fun p hp =>
      c _ _ _ _ (w.new hp) (Stp.new w hp) (.lst upd_same ((ha.rep _).mono (Stp.new (z := Γ.z) w hp).fx)) q⟩
/-! ### slices -/
def WO (Γ : Gam) (to : TO) (ρ : Rho) (k : Option Int → Prop) : Prop := ∀ F H σ (Q : Option Int → Hp → Prop), In Γ F H σ ρ →
  (∀ o F' H', Wd Γ.z F' H' → Stp Γ.z F H F' H' → k o → Q o H') → to σ H Q
theorem o_none {k : Option Int → Prop} (q : k none) : WO Γ tNoPart ρ k := fun F H σ Q i c => c _ F H i.w .refl q
theorem o_some {te : TE} {k : Option Int → Prop} (h : WE Γ te ρ fun d => ∃ n, d = .int n ∧ k (some n)) : WO Γ (tPart te) ρ k := fun F H σ Q i c =>
  h F H σ _ i fun v d F1 H1 w1 s1 p1 ⟨n, e, q⟩ => by
    subst e
    cases p1
    exact ⟨n, rfl, c _ F1 H1 w1 s1 q⟩
def RS (Γ : Gam) (r : V → Option Int → Option Int → Hp → VK → Prop) (x : D) (lo hi : Option Int) (k : D → Prop) : Prop := ∀ F H v (Q : VK), Wd Γ.z F H → Dq Γ.K F v x →
  (∀ w d F' H', Wd Γ.z F' H' → Stp Γ.z F H F' H' → Dq Γ.K F' w d → k d → Q w H') → r v lo hi H Q
theorem w_sl {te : TE} {tl th : TO} {r : V → Option Int → Option Int → Hp → VK → Prop} (h : WE Γ te ρ fun x => WO Γ tl ρ fun lo => WO Γ th ρ fun hi => RS Γ r x lo hi k) : WE Γ (tSl r te tl th) ρ k := fun F H σ Q i c =>
  h F H σ _ i fun v x F1 H1 w1 s1 p1 h1 => h1 F1 H1 σ _ (i.next w1 s1) fun lo F2 H2 w2 s2 h2 => h2 F2 H2 σ _ ((i.next w1 s1).next w2 s2) fun hi F3 H3 w3 s3 h3 =>
    h3 F3 H3 v Q w3 (p1.mono (s2.trans w2 s3).fx) fun w d F4 H4 w4 s4 p4 q => c w d F4 H4 w4 (s1.trans w1 (s2.trans w2 (s3.trans w3 s4))) p4 q
theorem cut_all {ds : List D} {lo hi : Option Int} (h : HT.sIx ds.length 0 lo = 0 ∧ HT.sIx ds.length ds.length hi = ds.length) : cutP ds lo hi = ds := by
  unfold cutP
  rw [h.1, h.2]
  simp
theorem rs_T {ds : List D} {lo hi : Option Int} (q : k (.tuple (cutP ds lo hi))) : RS Γ (rSlA Γ.K) (.tuple ds) lo hi k := fun F H v Q w p c => by
  cases p with
  | tup ht ha =>
    refine ⟨_, _, rfl, sqT_mono w.sub ht, fun e => ?_, fun e p hp => ?_⟩
    · rw [ha.len] at e
      rw [cut_all e] at q
      exact c _ _ F H w .refl (.tup ht ha) q
    · exact c _ _ _ _ (w.new hp) (Stp.new w hp) (.tup (SqT.of upd_same) (ha.cut.mono (Stp.new (z := Γ.z) w hp).fx)) q
theorem rs_L {ds : List D} {lo hi : Option Int} (q : k (.list (cutP ds lo hi))) : RS Γ (rSlL Γ.K) (.list ds) lo hi k := fun F H v Q w p c => by
  cases p with
  | lst ht ha => exact ⟨_, _, rfl, SqL.of (w.sub _ _ ht), fun p hp => c _ _ _ _ (w.new hp) (Stp.new w hp) (.lst upd_same (ha.cut.mono (Stp.new (z := Γ.z) w hp).fx)) q⟩
/-! ### one value -/
theorem ru_i {g : Int → Int} {i : Int} (q : k (.int (g i))) : RU Γ (rU fun i => .int (g i)) (.int i) k := fun F H v Q w p c => by
  cases p
  exact ⟨i, rfl, c _ _ F H w .refl (.int _) q⟩
def isN : D → Bool
  | .none => true
  | _ => false
theorem isN_of {K : PySem.W.Frag} {v : V} {d : D} (h : Dq K F v d) : decide (v = .non) = isN d := by
  cases h <;> rfl
theorem w_isN {ta : TE} (h : WE Γ ta ρ fun d => k (.bool (isN d))) : WE Γ (tIsN ta) ρ k := fun F H σ Q i c =>
  h F H σ _ i fun v d F1 H1 w1 s1 p1 q => by
    rw [isN_of p1]
    exact c _ _ F1 H1 w1 s1 (.bl _) q
theorem w_notN {ta : TE} (h : WE Γ ta ρ fun d => k (.bool (!isN d))) : WE Γ (tNotN ta) ρ k := fun F H σ Q i c =>
  h F H σ _ i fun v d F1 H1 w1 s1 p1 q => by
    rw [isN_of p1]
    exact c _ _ F1 H1 w1 s1 (.bl _) q
/-! ### built-ins -/
/-- the type's name -/
def tyD : D → String
  | .none => "NoneType"
  | .bool _ => "bool"
  | .int _ => "int"
  | .str _ => "str"
  | .list _ => "list"
  | .tuple _ => "tuple"
  | .dict _ => "dict"
theorem ty_of {K : PySem.W.Frag} {v : V} {d : D} (w : Same F H) (h : Dq K F v d) : TyX K H v (.type (tyD d)) := by
  cases h with
  | non => exact .base .non
  | bl b => exact .base (.bl b)
  | int i => exact .base (.int i)
  | str x => exact .base (.str x)
  | lst h _ => exact .base (.lst (w _ _ h))
  | tup h _ =>
    rcases h with (h | ⟨o, h⟩) | ⟨o, its, n, h1, h2, _⟩
    · exact .base (.tup (w _ _ h))
    · exact .fTuple (w _ _ h)
    · exact .kTuple h1 h2
theorem w_isi {ta : TE} {n : String} (f : D → Bool) (hf : ∀ d, (∀ es, d ≠ .dict es) → kitB (tyD d) n = some (f d)) (h : WE Γ ta ρ fun d => k (.bool (f d))) : WE Γ (tCB (rIsi Γ.K) (tCons ta (tCons (tC (.ty n)) tNil))) ρ k := fun F H σ Q i c =>
  h F H σ _ i fun v d F1 H1 w1 s1 p1 q => by
    refine ⟨v, .ty n, _, _, f d, rfl, ?_, ty_of w1.sub p1, kit_ty (hf d ?_), c _ _ F1 H1 w1 s1 (.bl _) q⟩
    · first
        | exact .ty _
        | exact ClsV.ty
        | constructor
    · intro es e
      subst e
      cases p1
def isT : D → Bool
  | .tuple _ => true
  | _ => false
def isL : D → Bool
  | .list _ => true
  | _ => false
def isI : D → Bool
  | .int _ => true
  | .bool _ => true
  | _ => false
def isB : D → Bool
  | .bool _ => true
  | _ => false
def isS : D → Bool
  | .str _ => true
  | _ => false
theorem kT (d : D) (h : ∀ es, d ≠ .dict es) : kitB (tyD d) "tuple" = some (isT d) := by
  cases d with
  | none => (show kitB "NoneType" "tuple" = some false; decide +kernel)
  | bool _ => (show kitB "bool" "tuple" = some false; decide +kernel)
  | int _ => (show kitB "int" "tuple" = some false; decide +kernel)
  | str _ => (show kitB "str" "tuple" = some false; decide +kernel)
  | list _ => (show kitB "list" "tuple" = some false; decide +kernel)
  | tuple _ => (show kitB "tuple" "tuple" = some true; decide +kernel)
  | dict es => exact absurd rfl (h es)
theorem kL (d : D) (h : ∀ es, d ≠ .dict es) : kitB (tyD d) "list" = some (isL d) := by
  cases d with
  | none => (show kitB "NoneType" "list" = some false; decide +kernel)
  | bool _ => (show kitB "bool" "list" = some false; decide +kernel)
  | int _ => (show kitB "int" "list" = some false; decide +kernel)
  | str _ => (show kitB "str" "list" = some false; decide +kernel)
  | list _ => (show kitB "list" "list" = some true; decide +kernel)
  | tuple _ => (show kitB "tuple" "list" = some false; decide +kernel)
  | dict es => exact absurd rfl (h es)
theorem kI (d : D) (h : ∀ es, d ≠ .dict es) : kitB (tyD d) "int" = some (isI d) := by
  cases d with
  | none => (show kitB "NoneType" "int" = some false; decide +kernel)
  | bool _ => (show kitB "bool" "int" = some true; decide +kernel)
  | int _ => (show kitB "int" "int" = some true; decide +kernel)
  | str _ => (show kitB "str" "int" = some false; decide +kernel)
  | list _ => (show kitB "list" "int" = some false; decide +kernel)
  | tuple _ => (show kitB "tuple" "int" = some false; decide +kernel)
  | dict es => exact absurd rfl (h es)
theorem kB (d : D) (h : ∀ es, d ≠ .dict es) : kitB (tyD d) "bool" = some (isB d) := by
  cases d with
  | none => (show kitB "NoneType" "bool" = some false; decide +kernel)
  | bool _ => (show kitB "bool" "bool" = some true; decide +kernel)
  | int _ => (show kitB "int" "bool" = some false; decide +kernel)
  | str _ => (show kitB "str" "bool" = some false; decide +kernel)
  | list _ => (show kitB "list" "bool" = some false; decide +kernel)
  | tuple _ => (show kitB "tuple" "bool" = some false; decide +kernel)
  | dict es => exact absurd rfl (h es)
theorem kS (d : D) (h : ∀ es, d ≠ .dict es) : kitB (tyD d) "str" = some (isS d) := by
  cases d with
  | none => (show kitB "NoneType" "str" = some false; decide +kernel)
  | bool _ => (show kitB "bool" "str" = some false; decide +kernel)
  | int _ => (show kitB "int" "str" = some false; decide +kernel)
  | str _ => (show kitB "str" "str" = some true; decide +kernel)
  | list _ => (show kitB "list" "str" = some false; decide +kernel)
  | tuple _ => (show kitB "tuple" "str" = some false; decide +kernel)
  | dict es => exact absurd rfl (h es)
theorem w_isT {ta : TE} (h : WE Γ ta ρ fun d => k (.bool (isT d))) : WE Γ (tCB (rIsi Γ.K) (tCons ta (tCons (tC (.ty "tuple")) tNil))) ρ k := w_isi isT kT h
theorem w_isL {ta : TE} (h : WE Γ ta ρ fun d => k (.bool (isL d))) : WE Γ (tCB (rIsi Γ.K) (tCons ta (tCons (tC (.ty "list")) tNil))) ρ k := w_isi isL kL h
theorem w_isI {ta : TE} (h : WE Γ ta ρ fun d => k (.bool (isI d))) : WE Γ (tCB (rIsi Γ.K) (tCons ta (tCons (tC (.ty "int")) tNil))) ρ k := w_isi isI kI h
theorem w_isB {ta : TE} (h : WE Γ ta ρ fun d => k (.bool (isB d))) : WE Γ (tCB (rIsi Γ.K) (tCons ta (tCons (tC (.ty "bool")) tNil))) ρ k := w_isi isB kB h
theorem w_isS {ta : TE} (h : WE Γ ta ρ fun d => k (.bool (isS d))) : WE Γ (tCB (rIsi Γ.K) (tCons ta (tCons (tC (.ty "str")) tNil))) ρ k := w_isi isS kS h
theorem rc_lenL {ds : List D} (q : k (.int ds.length)) : RC Γ (fun xs H Q => ∃ p ys, xs = [.ref p] ∧ (SqL Γ.K H p ys ∨ SqT Γ.K H p ys) ∧ Q (.int ys.length) H) [.list ds] k := fun F H vs Q w p c => by
  cases p with
  | cons p1 p2 =>
    cases p2
    cases p1 with
    | lst h ha => exact ⟨_, _, rfl, .inl (SqL.of (w.sub _ _ h)), by rw [ha.len]; exact c _ _ F H w .refl (.int _) q⟩
theorem rc_lenT {ds : List D} (q : k (.int ds.length)) : RC Γ (fun xs H Q => ∃ p ys, xs = [.ref p] ∧ (SqL Γ.K H p ys ∨ SqT Γ.K H p ys) ∧ Q (.int ys.length) H) [.tuple ds] k := fun F H vs Q w p c => by
  cases p with
  | cons p1 p2 =>
    cases p2
    cases p1 with
    | tup h ha => exact ⟨_, _, rfl, .inr (sqT_mono w.sub h), by rw [ha.len]; exact c _ _ F H w .refl (.int _) q⟩
theorem rc_listL {ds : List D} (q : k (.list ds)) : RC Γ (fun xs H Q => ∃ p ys, xs = [.ref p] ∧ (SqL Γ.K H p ys ∨ SqT Γ.K H p ys) ∧ ∀ l, H l = none → Q (.ref l) (upd H l (.lst ys))) [.list ds] k := fun F H vs Q w p c => by
  cases p with
  | cons p1 p2 =>
    cases p2
    cases p1 with
    | lst h ha => exact ⟨_, _, rfl, .inl (SqL.of (w.sub _ _ h)), fun p hp => c _ _ _ _ (w.new hp) (Stp.new w hp) (.lst upd_same (ha.mono (Stp.new (z := Γ.z) w hp).fx)) q⟩
theorem rc_listT {ds : List D} (q : k (.list ds)) : RC Γ (fun xs H Q => ∃ p ys, xs = [.ref p] ∧ (SqL Γ.K H p ys ∨ SqT Γ.K H p ys) ∧ ∀ l, H l = none → Q (.ref l) (upd H l (.lst ys))) [.tuple ds] k := fun F H vs Q w p c => by
  cases p with
  | cons p1 p2 =>
    cases p2
    cases p1 with
    | tup h ha => exact ⟨_, _, rfl, .inr (sqT_mono w.sub h), fun p hp => c _ _ _ _ (w.new hp) (Stp.new w hp) (.lst upd_same (ha.mono (Stp.new (z := Γ.z) w hp).fx)) q⟩
theorem rc_tupL {ds : List D} (q : k (.tuple ds)) : RC Γ (fun xs H Q => ∃ p ys, xs = [.ref p] ∧ ((SqL Γ.K H p ys ∧ ∀ l, H l = none → Q (.ref l) (upd H l (.tup ys))) ∨ (SqT Γ.K H p ys ∧ Q (.ref p) H))) [.list ds] k := fun F H vs Q w p c => by
  cases p with
  | cons p1 p2 =>
    cases p2
    cases p1 with
    | lst h ha => exact ⟨_, _, rfl, .inl ⟨SqL.of (w.sub _ _ h), fun p hp => c _ _ _ _ (w.new hp) (Stp.new w hp) (.tup (SqT.of upd_same) (ha.mono (Stp.new (z := Γ.z) w hp).fx)) q⟩⟩
theorem rc_abs {i : Int} (q : k (.int (if i < 0 then -i else i))) : RC Γ (fun xs H Q => ∃ i, xs = [.int i] ∧ Q (.int (if i < 0 then -i else i)) H) [.int i] k := fun F H vs Q w p c => by
  cases p with
  | cons p1 p2 =>
    cases p2
    cases p1
    exact ⟨i, rfl, c _ _ F H w .refl (.int _) q⟩
theorem rc_int {i : Int} (q : k (.int i)) : RC Γ (fun xs H Q => (∃ i, xs = [.int i] ∧ Q (.int i) H) ∨ ∃ k, xs = [.bl k] ∧ Q (.int (if k then 1 else 0)) H) [.int i] k := fun F H vs Q w p c => by
  cases p with
  | cons p1 p2 =>
    cases p2
    cases p1
    exact .inl ⟨i, rfl, c _ _ F H w .refl (.int _) q⟩
theorem rc_min {i j : Int} (q : k (.int (if j < i then j else i))) : RC Γ (fun xs H Q => ∃ i j, xs = [.int i, .int j] ∧ Q (.int (if j < i then j else i)) H) [.int i, .int j] k := fun F H vs Q w p c => by
  cases p with
  | cons p1 p2 =>
    cases p1
    cases p2 with
    | cons p1 p2 =>
      cases p1
      cases p2
      exact ⟨i, j, rfl, c _ _ F H w .refl (.int _) q⟩
theorem rc_gcd {i j : Int} (q : k (.int ((Nat.gcd i.natAbs j.natAbs : Nat) : Int))) : RC Γ rGcd [.int i, .int j] k := fun F H vs Q w p c => by
  cases p with
  | cons p1 p2 =>
    cases p1
    cases p2 with
    | cons p1 p2 =>
      cases p1
      cases p2
      exact ⟨i, j, rfl, c _ _ F H w .refl (.int _) q⟩
theorem DqAll.bools {K : PySem.W.Frag} : ∀ {bs : List Bool} {vs : List V}, DqAll K F vs (bs.map PyData.bool) → vs = bs.map V.bl
  | [], _, h => by cases h; rfl
  | b :: r, _, h => by
    cases h with
    | cons h1 h2 =>
      cases h1
      rw [DqAll.bools h2]
      rfl
theorem rc_all {bs : List Bool} {ds : List D} (e : ds = bs.map PyData.bool) (q : k (.bool (bs.all id))) : RC Γ (rAll Γ.K) [.list ds] k := fun F H vs Q w p c => by
  subst e
  cases p with
  | cons p1 p2 =>
    cases p2
    cases p1 with
    | lst h ha =>
      have e := DqAll.bools ha
      subst e
      exact ⟨_, bs, rfl, SqL.of (w.sub _ _ h), c _ _ F H w .refl (.bl _) q⟩
theorem w_bits {te : TE} (h : WE Γ te ρ fun d => ∃ n, d = .int n ∧ k (.int (Builtin.Int.intBits n : Nat))) : WE Γ (tBits te) ρ k := fun F H σ Q i c =>
  h F H σ _ i fun v d F1 H1 w1 s1 p1 ⟨n, e, q⟩ => by
    subst e
    cases p1
    exact ⟨n, rfl, c _ _ F1 H1 w1 s1 (.int _) q⟩
end AL
/-! A7 -/
namespace L2
open PySem PySem.Spec PyProof.Rows
section
variable {X : Cx}
/-- + of ints, of tuples, of lists -/
def rAddG (K : PySem.W.Frag) : R2 := fun x y H Q => rI0 (fun i j => .int (i + j)) x y H Q ∨ rCatA K x y H Q ∨ rCat x y H Q
theorem op_addG : OpR X (binaryOp .Add) (rAddG X.K) := OpR.or op_add (OpR.or op_catA op_cat)
def rMulG : R2 := fun x y H Q => rI CMulX (fun i j => .int (i * j)) x y H Q ∨ rRep x y H Q
theorem op_mulG : OpR X (binaryOp .Mult) rMulG := OpR.or op_mulX op_rep
def rEqG (K : PySem.W.Frag) : R2 := fun x y H Q => rEq x y H Q ∨ rEqD K x y H Q
theorem op_eqG (hu : X.A.units + 64 < cLine) : OpR X (compareOp .Eq) (rEqG X.K) := OpR.or op_eq (op_eqD hu)
def rNeG (K : PySem.W.Frag) : R2 := fun x y H Q => rNe x y H Q ∨ rNeD K x y H Q
theorem op_neG (hu : X.A.units + 64 < cLine) : OpR X (compareOp .NotEq) (rNeG X.K) := OpR.or op_ne (op_neD hu)
def rSlG (K : PySem.W.Frag) : V → Option Int → Option Int → Hp → VK → Prop := fun x lo hi H Q => rSlA K x lo hi H Q ∨ rSlL K x lo hi H Q
theorem sl_G : SlR X (rSlG X.K) := by
  intro pins s σ H x v vl vu lo hi sl Q I rx hs pl pu h
  rcases h with h | h
  · exact sl_tupA pins s σ H x v vl vu lo hi sl Q I rx hs pl pu h
  · exact sl_list pins s σ H x v vl vu lo hi sl Q I rx hs pl pu h
def rTupG (K : PySem.W.Frag) : List V → Hp → VK → Prop := fun xs H Q => ∃ p ys, xs = [.ref p] ∧ ((SqL K H p ys ∧ ∀ l, H l = none → Q (.ref l) (upd H l (.tup ys))) ∨ (SqT K H p ys ∧ Q (.ref p) H))
theorem call_tupG : CallR X (.type "tuple") (rTupG X.K) := call_tuple_of
def rListG (K : PySem.W.Frag) : List V → Hp → VK → Prop := fun xs H Q => ∃ p ys, xs = [.ref p] ∧ (SqL K H p ys ∨ SqT K H p ys) ∧ ∀ l, H l = none → Q (.ref l) (upd H l (.lst ys))
theorem call_listG : CallR X (.type "list") (rListG X.K) := call_list_of
def rLenG (K : PySem.W.Frag) : List V → Hp → VK → Prop := fun xs H Q => ∃ p ys, xs = [.ref p] ∧ (SqL K H p ys ∨ SqT K H p ys) ∧ Q (.int ys.length) H
theorem call_lenG : CallR X (.builtin "len") (rLenG X.K) := call_len_seq
def rAbs : List V → Hp → VK → Prop := fun xs H Q => ∃ i, xs = [.int i] ∧ Q (.int (if i < 0 then -i else i)) H
theorem call_absG : CallR X (.builtin "abs") rAbs := call_abs
def rInt : List V → Hp → VK → Prop := fun xs H Q => (∃ i, xs = [.int i] ∧ Q (.int i) H) ∨ ∃ k, xs = [.bl k] ∧ Q (.int (if k then 1 else 0)) H
theorem call_intG : CallR X (.type "int") rInt := call_int1
def rMin2 : List V → Hp → VK → Prop := fun xs H Q => ∃ i j, xs = [.int i, .int j] ∧ Q (.int (if j < i then j else i)) H
theorem call_minG (hc : X.calm = true) : CallR X (.builtin "min") rMin2 := call_min2 hc
def rOdd : R2 := fun x y H Q => ∃ n : Nat, x = .int (n : Int) ∧ y = .int 1 ∧ Q (.int ((n % 2 : Nat) : Int)) H
theorem op_oddG : OpR X (binaryOp .BitAnd) rOdd := op_odd
def rHalf : R2 := fun x y H Q => ∃ n : Nat, x = .int (n : Int) ∧ y = .int 1 ∧ Q (.int ((n / 2 : Nat) : Int)) H
theorem op_halfG : OpR X (binaryOp .RShift) rHalf := op_halfN
/-! ### the written part as a letter of its own -/
variable {K : PySem.W.Frag}
theorem kIx (hK : X.K = K := by rfl) : IxR X (rIx K) := hK ▸ ix_seq
theorem kAdd (hK : X.K = K := by rfl) : OpR X (binaryOp .Add) (rAddG K) := hK ▸ op_addG
theorem kEq (hu : X.A.units + 64 < cLine) (hK : X.K = K := by rfl) : OpR X (compareOp .Eq) (rEqG K) := hK ▸ op_eqG hu
theorem kNe (hu : X.A.units + 64 < cLine) (hK : X.K = K := by rfl) : OpR X (compareOp .NotEq) (rNeG K) := hK ▸ op_neG hu
theorem kIn (hK : X.K = K := by rfl) : OpR X (compareOp .In) (rIn K false) := hK ▸ op_in_seq
theorem kSl (hK : X.K = K := by rfl) : SlR X (rSlG K) := hK ▸ sl_G
theorem kTup (hK : X.K = K := by rfl) : CallR X (.type "tuple") (rTupG K) := hK ▸ call_tupG
theorem kList (hK : X.K = K := by rfl) : CallR X (.type "list") (rListG K) := hK ▸ call_listG
theorem kLen (hK : X.K = K := by rfl) : CallR X (.builtin "len") (rLenG K) := hK ▸ call_lenG
theorem kIsi (hK : X.K = K := by rfl) : CallR X (.builtin "isinstance") (rIsi K) := hK ▸ call_isi
theorem kAll (hc : X.calm = true) (hK : X.K = K := by rfl) : CallR X (.builtin "all") (rAll K) := hK ▸ cr_all hc
theorem kiList {tg l : Expr} {tl : TE} (hl : PE X l tl) (hK : X.K = K := by rfl) : PI X tg l (iList K tl) := hK ▸ pi_list hl
theorem kiTup {tg l : Expr} {tl : TE} (hl : PE X l tl) (hK : X.K = K := by rfl) : PI X tg l (iTup K tl) := hK ▸ pi_tup hl
theorem kgTup {pos : Pos} {es : List Expr} {k : Nat} {t : TGs} {n : Nat} (hc : X.calm = true) (h : PGs X es t) (hK : X.K = K := by rfl)
    (hn : (assignEach es X.env).length = n := by rfl) (hst : (assignEach es X.env).findIdx? (·.1) = none := by rfl) : PG X (.Tuple es k pos) (gTup K n t) := hK ▸ pg_tup hc h hn hst
theorem kgLst {pos : Pos} {es : List Expr} {k : Nat} {t : TGs} {n : Nat} (hc : X.calm = true) (h : PGs X es t) (hK : X.K = K := by rfl)
    (hn : (assignEach es X.env).length = n := by rfl) (hst : (assignEach es X.env).findIdx? (·.1) = none := by rfl) : PG X (.Tuple es k pos) (gLst K n t) := hK ▸ pg_lst hc h hn hst
theorem kApp {o e : Expr} {to : TE} {t : TA} {apos cpos : Pos} (ho : PE X o to) (ha : PA X [e] t) (hK : X.K = K := by rfl)
    (hbase : attributeBase o "append" X.env (eval o X.env) = eval o X.env := by rfl)
    (hfew : ((backTo cpos (starEach [e] X.env)).all (fun x => !x.1) && (backToKw cpos (keywordEach [] X.env)).all (fun x => x.1.isSome)
      && decide ([e].length + ([] : List Keyword).length + (if ([] : List Keyword).isEmpty then 0 else 1) < 30)) = true := by rfl)
    (hline : (apos.endLine == cpos.line) = true := by rfl) (hs : starEach [e] X.env = (false, eval e X.env) :: starEach [] X.env := by rfl) (hplain : (backTo cpos (starEach [] X.env)).any (·.1) = false := by rfl) :
    PE X (.Call (.Attribute o "append" apos) [e] [] cpos) (tBM K "list" rAppend to t) := hK ▸ pe_bm PySem.F.plainAttrs_list PySem.F.slot_list_append PySem.F.type_list_append mt_append ho ha hbase hfew hline hs hplain
def tTruth (K : PySem.W.Frag) (ta : TE) : TT := fun σ H Q => ta σ H fun x H' => ∃ k, TruV K x H' k ∧ Q k H'
theorem ktTruth {a : Expr} {ta : TE} (ha : PE X a ta) (he : ∀ whole, isTrue a X.env whole = (do let v ← whole; standAt a.pos; holding [v] (truthy v))) (hK : X.K = K := by rfl) : PT X a (tTruth K ta) := by
  subst hK
  exact pt_truth ha he
end
end L2
namespace AL
open PySem PySem.Spec PyProof.Rows L2
variable {Γ : Gam} {F H F' H' F0 H0 : Hp} {σ : L2.St} {ρ : Rho} {k : D → Prop}
theorem RB.inl {r r' : R2} {x y : D} (h : RB Γ r x y k) : RB Γ (fun x y H Q => r x y H Q ∨ r' x y H Q) x y k := fun F H v u Q w p1 p2 c => .inl (h F H v u Q w p1 p2 c)
theorem b_addI {i j : Int} (q : k (.int (i + j))) : RB Γ (rAddG Γ.K) (.int i) (.int j) k := fun F H v u Q w p1 p2 c => .inl (rb_i (g := fun i j => i + j) q F H v u Q w p1 p2 c)
theorem b_addT {ds es : List D} (hz : ds.length + es.length ≤ 100000) (q : k (.tuple (ds ++ es))) : RB Γ (rAddG Γ.K) (.tuple ds) (.tuple es) k := fun F H v u Q w p1 p2 c => .inr (.inl (rb_catT hz q F H v u Q w p1 p2 c))
theorem b_addL {ds es : List D} (hz : ds.length + es.length ≤ 100000) (q : k (.list (ds ++ es))) : RB Γ (rAddG Γ.K) (.list ds) (.list es) k := fun F H v u Q w p1 p2 c => .inr (.inr (rb_catL hz q F H v u Q w p1 p2 c))
theorem b_mulI {i j : Int} (hc : CMulX i j) (q : k (.int (i * j))) : RB Γ rMulG (.int i) (.int j) k := fun F H v u Q w p1 p2 c => .inl (rb_c (g := fun i j => i * j) hc q F H v u Q w p1 p2 c)
theorem b_mulL {ds : List D} {n : Int} (h0 : -(2 ^ 63) ≤ n ∧ n < 2 ^ 63) (hz : ds.length * n.toNat ≤ 100000) (q : k (.list (List.replicate n.toNat ds).flatten)) : RB Γ rMulG (.list ds) (.int n) k := fun F H v u Q w p1 p2 c => .inr (rb_rep h0 hz q F H v u Q w p1 p2 c)
theorem b_sub {i j : Int} (q : k (.int (i - j))) : RB Γ (rI0 fun i j => .int (i - j)) (.int i) (.int j) k := rb_i (g := fun i j => i - j) q
theorem b_eqI {i j : Int} (q : k (.bool (decide (i = j)))) : RB Γ (rEqG Γ.K) (.int i) (.int j) k := fun F H v u Q w p1 p2 c => .inl (rb_eqI q F H v u Q w p1 p2 c)
theorem b_eqS {i j : Str} (q : k (.bool (decide (i = j)))) : RB Γ (rEqG Γ.K) (.str i) (.str j) k := fun F H v u Q w p1 p2 c => .inl (rb_eqS q F H v u Q w p1 p2 c)
theorem b_eqB {i j : Bool} (q : k (.bool (decide (i = j)))) : RB Γ (rEqG Γ.K) (.bool i) (.bool j) k := fun F H v u Q w p1 p2 c => .inl (rb_eqB q F H v u Q w p1 p2 c)
theorem b_eqT {xs ys : List D} (h1 : SeqAt.shaped (.tuple xs) = true) (h2 : SeqAt.shaped (.tuple ys) = true) (q : k (.bool (PyData.eqvAll xs ys))) : RB Γ (rEqG Γ.K) (.tuple xs) (.tuple ys) k := fun F H v u Q w p1 p2 c => .inr (rb_eqD h1 h2 q F H v u Q w p1 p2 c)
theorem b_neI {i j : Int} (q : k (.bool (!decide (i = j)))) : RB Γ (rNeG Γ.K) (.int i) (.int j) k := fun F H v u Q w p1 p2 c => .inl (rb_neI q F H v u Q w p1 p2 c)
theorem b_neB {i j : Bool} (q : k (.bool (!decide (i = j)))) : RB Γ (rNeG Γ.K) (.bool i) (.bool j) k := fun F H v u Q w p1 p2 c => .inl (rb_neB q F H v u Q w p1 p2 c)
theorem b_neT {xs ys : List D} (h1 : SeqAt.shaped (.tuple xs) = true) (h2 : SeqAt.shaped (.tuple ys) = true) (q : k (.bool (!PyData.eqvAll xs ys))) : RB Γ (rNeG Γ.K) (.tuple xs) (.tuple ys) k := fun F H v u Q w p1 p2 c => .inr (rb_neD h1 h2 q F H v u Q w p1 p2 c)
theorem b_odd {n : Nat} (q : k (.int ((n % 2 : Nat) : Int))) : RB Γ rOdd (.int (n : Int)) (.int 1) k := fun F H v u Q w p1 p2 c => by
  cases p1; cases p2
  exact ⟨n, rfl, rfl, c _ _ F H w .refl (.int _) q⟩
theorem b_half {n : Nat} (q : k (.int ((n / 2 : Nat) : Int))) : RB Γ rHalf (.int (n : Int)) (.int 1) k := fun F H v u Q w p1 p2 c => by
  cases p1; cases p2
  exact ⟨n, rfl, rfl, c _ _ F H w .refl (.int _) q⟩
theorem sG_T {ds : List D} {lo hi : Option Int} (q : k (.tuple (cutP ds lo hi))) : RS Γ (rSlG Γ.K) (.tuple ds) lo hi k := fun F H v Q w p c => .inl (rs_T q F H v Q w p c)
theorem sG_L {ds : List D} {lo hi : Option Int} (q : k (.list (cutP ds lo hi))) : RS Γ (rSlG Γ.K) (.list ds) lo hi k := fun F H v Q w p c => .inr (rs_L q F H v Q w p c)
theorem c_lenL {ds : List D} (q : k (.int ds.length)) : RC Γ (rLenG Γ.K) [.list ds] k := rc_lenL q
theorem c_lenT {ds : List D} (q : k (.int ds.length)) : RC Γ (rLenG Γ.K) [.tuple ds] k := rc_lenT q
theorem c_listL {ds : List D} (q : k (.list ds)) : RC Γ (rListG Γ.K) [.list ds] k := rc_listL q
theorem c_listT {ds : List D} (q : k (.list ds)) : RC Γ (rListG Γ.K) [.tuple ds] k := rc_listT q
theorem c_tupL {ds : List D} (q : k (.tuple ds)) : RC Γ (rTupG Γ.K) [.list ds] k := rc_tupL q
theorem c_abs {i : Int} (q : k (.int (if i < 0 then -i else i))) : RC Γ rAbs [.int i] k := rc_abs q
theorem c_int {i : Int} (q : k (.int i)) : RC Γ rInt [.int i] k := rc_int q
theorem c_min {i j : Int} (q : k (.int (if j < i then j else i))) : RC Γ rMin2 [.int i, .int j] k := rc_min q
/-- the truth of an int -/
theorem t_truthI {te : TE} {k : Bool → Prop} (h : WE Γ te ρ fun d => ∃ n, d = .int n ∧ k (n != 0)) : WT Γ (tTruth Γ.K te) ρ k := fun F H σ Q i c =>
  h F H σ _ i fun v d F1 H1 w1 s1 p1 ⟨n, e, q⟩ => by
    subst e
    cases p1
    exact ⟨n != 0, rfl, c _ F1 H1 w1 s1 q⟩
/-! ### defs by their names -/
/-- the module's name x holds a def of promise sp, at level k; dvs: the values that fill up the arguments that are not written -/
def Has (P : Program) (w : World) (K : PySem.W.Frag) (mg : Str → Option Value) (base : Heap) (CX : CXT) (x : Str) (k : Nat) (dvs : List V) (sp : Sp) : Prop :=
  ∃ (f : Addr) (fd : FuncData) (ps : List Str) (ds : List Value), FnOk P w K mg base CX k f fd ps sp ∧ mg x = some (.ref f) ∧ PySem.W.keepIn K (.ref f) = true ∧ Binds K fd ps ds ∧ Vals dvs ds
abbrev Hs (P : Program) (w : World) (K : PySem.W.Frag) (mg : Str → Option Value) (base : Heap) (x : Str) (k : Nat) (c : Con) : Prop := Has P w K mg base CX0 x k [] (spOf K none c)
section
variable {X : Cx} {x : Str} {j : Nat} {dvs : List V} {sp : Sp} {CX : CXT} {EE : XK} {e : Expr} {es : List Expr} {t : TA} {p pos : Pos}
theorem pe_has (h : Has X.prog X.w X.K X.mg X.base CX x j dvs sp) (hr : Room j X.A) (hx : Passes CX X EE) (ha : PA X (e :: es) t) (hg : Gl X x := by rfl) (hdb : (x == ("__debug__" : Str)) = false := by decide)
    (he : starEach (e :: es) X.env = (false, eval e X.env) :: starEach es X.env := by rfl) (hpl : (backTo pos (starEach es X.env)).any (·.1) = false := by rfl) : PE X (.Call (.Name x p) (e :: es) [] pos) (tCall sp dvs EE t) := by
  obtain ⟨f, fd, ps, ds, F, hm, hk, hb, hd⟩ := h
  exact pe_call F hr hg hm hk hb hd hx ha hdb he hpl
theorem pe_has0 (h : Has X.prog X.w X.K X.mg X.base CX x j dvs sp) (hr : Room j X.A) (hx : Passes CX X EE) (hg : Gl X x := by rfl) (hdb : (x == ("__debug__" : Str)) = false := by decide) : PE X (.Call (.Name x p) [] [] pos) (tCall sp dvs EE tNil) := by
  obtain ⟨f, fd, ps, ds, F, hm, hk, hb, hd⟩ := h
  exact pe_call0 F hr hg hm hk hb hd hx hdb
end
/-- the built-in names that stand -/
structure Bl (mg : Str → Option Value) : Prop where
  len : mg "len" = none
  range : mg "range" = none
  isinstance : mg "isinstance" = none
  tuple : mg "tuple" = none
  list : mg "list" = none
  bool : mg "bool" = none
  int : mg "int" = none
  str : mg "str" = none
  abs : mg "abs" = none
  all : mg "all" = none
  min : mg "min" = none
  gcd : mg "gcd" = some (.builtin "math.gcd")
/-- the def st stands at the module's name x -/
def DefAt (K : PySem.W.Frag) (mg : Str → Option Value) (x : Str) (st : Stmt) (dvs : List V) : Prop :=
  ∃ f fd, FunD K x x (defArgs st) (defBody st) (defScope st) dvs [] f fd ∧ mg x = some (.ref f)
theorem DefAt.has {P : Program} {w : World} {K : PySem.W.Frag} {mg : Str → Option Value} {base : Heap} {CX : CXT} {x : Str} {st : Stmt} {j : Nat} {ps : List Str} {sp : Sp} (d : DefAt K mg x st [])
    (h : ∀ (kV doc pm : Value) (an : Option Addr) (cdv ct : Value) (us : List Value), us.length = ps.length → bindArgs (PySem.W.fnOf x x (defArgs st) (defBody st) (defScope st) .none kV doc pm an cdv ct) ⟨us, []⟩ = pure (ps.zip us))
    (F : ∀ f fd, FunD K x x (defArgs st) (defBody st) (defScope st) [] [] f fd → FnOk P w K mg base CX j f fd ps sp) : Has P w K mg base CX x j [] sp := by
  obtain ⟨f, fd, D, m⟩ := d
  exact ⟨f, fd, ps, [], F f fd D, m, D.kp, D.bindsN h, .nil⟩
end AL
/-! A8 -/
namespace AL
open PySem PySem.Spec PyProof.Rows L2
theorem DefAt.pure {P : Program} {w : World} {K : PySem.W.Frag} {mg : Str → Option Value} {base : Heap} {x : Str} {st : Stmt} {j : Nat} {N ps : List Str} {z : Option Zs} {c : Con} (d : DefAt K mg x st []) (S : FnScope N ps (defScope st))
    (h : ∀ (kV doc pm : Value) (an : Option Addr) (cdv ct : Value) (us : List Value), us.length = ps.length → bindArgs (PySem.W.fnOf x x (defArgs st) (defBody st) (defScope st) .none kV doc pm an cdv ct) ⟨us, []⟩ = pure (ps.zip us))
    (n : Nat) (hN : ps.length + n = N.length) (hc : ∀ as k, c as k → as.length = ps.length)
    (hb : ∀ (f : Addr) (cdv : Value) (A : Around) (outer : List Env) (s : Shared) (H : Hp) (E : XK), Room j (A.deeper (envOfC x (defScope st) s.heap.objs.size f cdv)) →
      ∃ t, PSs (cxOf CX0 P w K mg base N x (defScope st) f cdv A outer s H E).nox (defBody st) t ∧ ∀ as k, c as k → WS ⟨K, z, E0, fun _ => False⟩ t (st0 n as) (fun _ => k .none) k (fun _ => False) (fun _ => False)) :
    Has P w K mg base CX0 x (j + 1) [] (spOf K z c) :=
  d.has h fun f fd D => D.ok S (fun vs H Q E ⟨F, as, k, _, va, q, _⟩ => va.len.trans (hc as k q)) fun cdv A outer s H vs Q E hr hs => by
    obtain ⟨t, p, q⟩ := hb f cdv A outer s H E hr
    exact ⟨t, PSs.nox p, enter hs n (fun as k h => by rw [hc as k h]; exact hN) q⟩
end AL
namespace K88
open PySem PySem.Spec PyProof.Rows L2 AL
def top (i : Nat) : Stmt := PySem.Challenge.pw_mappedout_k88_transforms_and_their_numbe.main.body.getD i (.Pass ⟨0, 0, 0, 0⟩)
end K88
/-! M1 -/
/-! fractions: the plain law -/
namespace K88
open PySem
theorem dz (x : Rat) : (x.den : Rat) ≠ 0 := by
  have := x.den_nz
  intro h
  apply this
  have h2 : ((x.den : Int) : Rat) = ((0 : Int) : Rat) := by simpa using h
  exact_mod_cast h2
theorem nu (x : Rat) : (x.num : Rat) = x * (x.den : Rat) := by
  have h := Rat.num_divInt_den x
  rw [Rat.divInt_eq_div] at h
  have h2 : (x.num : Rat) / (x.den : Rat) = x := by simpa [Rat.intCast_natCast] using h
  have h3 := dz x
  grind
theorem divInt_is {n d : Int} {q : Rat} (hd : (d : Rat) ≠ 0) (h : (n : Rat) = q * (d : Rat)) : Rat.divInt n d = q := by
  rw [Rat.divInt_eq_div, h]
  grind
theorem mz {a b : Rat} (h1 : a ≠ 0) (h2 : b ≠ 0) : a * b ≠ 0 := by grind
theorem add_is (x y : Rat) : Rat.divInt (x.num * y.den + y.num * x.den) (x.den * y.den) = x + y := by
  refine divInt_is ?_ ?_
  · simp only [Rat.intCast_mul, Rat.intCast_natCast]
    exact mz (dz x) (dz y)
  · simp only [Rat.intCast_add, Rat.intCast_mul, Rat.intCast_natCast, nu]
    grind
theorem sub_is (x y : Rat) : Rat.divInt (x.num * y.den - y.num * x.den) (x.den * y.den) = x - y := by
  refine divInt_is ?_ ?_
  · simp only [Rat.intCast_mul, Rat.intCast_natCast]
    exact mz (dz x) (dz y)
  · simp only [Rat.intCast_sub, Rat.intCast_mul, Rat.intCast_natCast, nu]
    grind
theorem mul_is (x y : Rat) : Rat.divInt (x.num * y.num) (x.den * y.den) = x * y := by
  refine divInt_is ?_ ?_
  · simp only [Rat.intCast_mul, Rat.intCast_natCast]
    exact mz (dz x) (dz y)
  · simp only [Rat.intCast_mul, Rat.intCast_natCast, nu]
    grind
theorem numz {y : Rat} (h : y ≠ 0) : (y.num : Rat) ≠ 0 := by
  rw [nu]
  exact mz h (dz y)
theorem div_is (x : Rat) {y : Rat} (h : y ≠ 0) : Rat.divInt (x.num * y.den) (x.den * y.num) = x / y := by
  refine divInt_is ?_ ?_
  · simp only [Rat.intCast_mul, Rat.intCast_natCast]
    exact mz (dz x) (numz h)
  · simp only [Rat.intCast_mul, Rat.intCast_natCast, nu]
    grind
theorem sum_is (a x b y e : Rat) : Rat.divInt ((a.num * x.num * b.den * y.den + b.num * y.num * a.den * x.den) * e.den + e.num * (a.den * x.den * b.den * y.den)) (a.den * x.den * b.den * y.den * e.den) = a * x + b * y + e := by
  refine divInt_is ?_ ?_
  · simp only [Rat.intCast_mul, Rat.intCast_natCast]
    exact mz (mz (mz (mz (dz a) (dz x)) (dz b)) (dz y)) (dz e)
  · simp only [Rat.intCast_add, Rat.intCast_mul, Rat.intCast_natCast, nu]
    grind
/-- what reduced hands back -/
theorem red_is {n d : Int} (hd : d ≠ 0) : n.fdiv (if d < 0 then -((Nat.gcd n.natAbs d.natAbs : Nat) : Int) else ((Nat.gcd n.natAbs d.natAbs : Nat) : Int)) = (Rat.divInt n d).num ∧
    d.fdiv (if d < 0 then -((Nat.gcd n.natAbs d.natAbs : Nat) : Int) else ((Nat.gcd n.natAbs d.natAbs : Nat) : Int)) = ((Rat.divInt n d).den : Int) := by
  have eg : ((Nat.gcd n.natAbs d.natAbs : Nat) : Int) = ((d.gcd n : Nat) : Int) := by
    rw [Int.gcd_eq_natAbs_gcd_natAbs, Nat.gcd_comm]
  have hg : (0 : Int) < ((d.gcd n : Nat) : Int) := by
    have : 0 < d.gcd n := Int.gcd_pos_of_ne_zero_left n hd
    omega
  have g1 : ((d.gcd n : Nat) : Int) ∣ d := Int.gcd_dvd_left _ _
  have g2 : ((d.gcd n : Nat) : Int) ∣ n := Int.gcd_dvd_right _ _
  rw [eg, Rat.num_divInt, Rat.den_divInt, if_neg hd]
  by_cases h : d < 0
  · rw [if_pos h]
    rw [Int.fdiv_eq_ediv_of_dvd (Int.neg_dvd.mpr g2), Int.fdiv_eq_ediv_of_dvd (Int.neg_dvd.mpr g1), Int.ediv_neg, Int.ediv_neg, Int.sign_eq_neg_one_of_neg h]
    obtain ⟨u, hu⟩ := g1
    obtain ⟨v, hv⟩ := g2
    refine ⟨?_, ?_⟩
    · have e1 : n / ((d.gcd n : Nat) : Int) = v := by
        conv => lhs; lhs; rw [hv]
        exact Int.mul_ediv_cancel_left _ (by omega)
      have e2 : -1 * n / ((d.gcd n : Nat) : Int) = -v := by
        have : -1 * n = ((d.gcd n : Nat) : Int) * (-v) := by
          conv => lhs; rw [hv]
          rw [Int.mul_neg]; omega
        rw [this]
        exact Int.mul_ediv_cancel_left _ (by omega)
      rw [e1, e2]
    · have e3 : ((d.natAbs / d.gcd n : Nat) : Int) = (d.natAbs : Int) / ((d.gcd n : Nat) : Int) := Int.natCast_ediv _ _
      rw [e3]
      have e4 : (d.natAbs : Int) = -d := by omega
      rw [e4]
      have e1 : d / ((d.gcd n : Nat) : Int) = u := by
        conv => lhs; lhs; rw [hu]
        exact Int.mul_ediv_cancel_left _ (by omega)
      have e2 : -d / ((d.gcd n : Nat) : Int) = -u := by
        have : -d = ((d.gcd n : Nat) : Int) * (-u) := by
          conv => lhs; rw [hu]
          rw [Int.mul_neg]
        rw [this]
        exact Int.mul_ediv_cancel_left _ (by omega)
      rw [e1, e2]
  · rw [if_neg h]
    rw [Int.fdiv_eq_ediv_of_dvd g2, Int.fdiv_eq_ediv_of_dvd g1, Int.sign_eq_one_of_pos (by omega), Int.one_mul]
    refine ⟨rfl, ?_⟩
    have e3 : ((d.natAbs / d.gcd n : Nat) : Int) = (d.natAbs : Int) / ((d.gcd n : Nat) : Int) := Int.natCast_ediv _ _
    rw [e3]
    have e4 : (d.natAbs : Int) = d := by omega
    rw [e4]
/-! ### sizes -/
def Sz (b : Nat) (q : Rat) : Prop := q.num.natAbs < 2 ^ b ∧ q.den < 2 ^ b
theorem Sz.mono {a b : Nat} {q : Rat} (h : Sz a q) (l : a ≤ b) : Sz b q := ⟨Nat.lt_of_lt_of_le h.1 (Nat.pow_le_pow_right (by decide) l), Nat.lt_of_lt_of_le h.2 (Nat.pow_le_pow_right (by decide) l)⟩
theorem sz_div {n d : Int} {b : Nat} (hd : d ≠ 0) (h1 : n.natAbs < 2 ^ b) (h2 : d.natAbs < 2 ^ b) : Sz b (Rat.divInt n d) := by
  have hg : 0 < d.gcd n := Int.gcd_pos_of_ne_zero_left n hd
  refine ⟨?_, ?_⟩
  · rw [Rat.num_divInt]
    have : (d.sign * n / ((d.gcd n : Nat) : Int)).natAbs ≤ (d.sign * n).natAbs := by
      exact Int.natAbs_ediv_le_natAbs _ _
    have h3 : (d.sign * n).natAbs ≤ n.natAbs := by
      rw [Int.natAbs_mul]
      have : d.sign.natAbs ≤ 1 := by
        rcases Int.lt_trichotomy d 0 with h | h | h
        · rw [Int.sign_eq_neg_one_of_neg h]; decide
        · rw [h]; decide
        · rw [Int.sign_eq_one_of_pos h]; decide
      calc d.sign.natAbs * n.natAbs ≤ 1 * n.natAbs := Nat.mul_le_mul_right _ this
        _ = n.natAbs := Nat.one_mul _
    omega
  · rw [Rat.den_divInt, if_neg hd]
    exact Nat.lt_of_le_of_lt (Nat.div_le_self _ _) h2
theorem lt_mul {x y : Int} {a b : Nat} (h1 : x.natAbs < 2 ^ a) (h2 : y.natAbs < 2 ^ b) : (x * y).natAbs < 2 ^ (a + b) := by
  rw [Int.natAbs_mul, Nat.pow_add]
  exact Nat.mul_lt_mul'' h1 h2
theorem lt_add {x y : Int} {a : Nat} (h1 : x.natAbs < 2 ^ a) (h2 : y.natAbs < 2 ^ a) : (x + y).natAbs < 2 ^ (a + 1) := by
  rw [Nat.pow_succ]
  omega
theorem lt_sub {x y : Int} {a : Nat} (h1 : x.natAbs < 2 ^ a) (h2 : y.natAbs < 2 ^ a) : (x - y).natAbs < 2 ^ (a + 1) := by
  rw [Nat.pow_succ]
  omega
theorem lt_up {x : Int} {a b : Nat} (h : x.natAbs < 2 ^ a) (l : a ≤ b) : x.natAbs < 2 ^ b := Nat.lt_of_lt_of_le h (Nat.pow_le_pow_right (by decide) l)
theorem lt_nat {x a : Nat} (h : x < 2 ^ a) : ((x : Int)).natAbs < 2 ^ a := by simpa using h
theorem dnz (x : Rat) : (x.den : Int) ≠ 0 := by
  have := x.den_nz
  omega
theorem inz {a b : Int} (h1 : a ≠ 0) (h2 : b ≠ 0) : a * b ≠ 0 := Int.mul_ne_zero h1 h2
theorem Sz.mul {a b : Nat} {x y : Rat} (h1 : Sz a x) (h2 : Sz b y) : Sz (a + b) (x * y) := by
  rw [← mul_is]
  exact sz_div (inz (dnz x) (dnz y)) (lt_mul h1.1 h2.1) (lt_mul (lt_nat h1.2) (lt_nat h2.2))
theorem Sz.add {a b : Nat} {x y : Rat} (h1 : Sz a x) (h2 : Sz b y) : Sz (a + b + 1) (x + y) := by
  rw [← add_is]
  refine sz_div (inz (dnz x) (dnz y)) (lt_add (lt_mul h1.1 (lt_nat h2.2)) ?_) (lt_up (lt_mul (lt_nat h1.2) (lt_nat h2.2)) (by omega))
  rw [Nat.add_comm]
  exact lt_mul h2.1 (lt_nat h1.2)
theorem Sz.sub {a b : Nat} {x y : Rat} (h1 : Sz a x) (h2 : Sz b y) : Sz (a + b + 1) (x - y) := by
  rw [← sub_is]
  refine sz_div (inz (dnz x) (dnz y)) (lt_sub (lt_mul h1.1 (lt_nat h2.2)) ?_) (lt_up (lt_mul (lt_nat h1.2) (lt_nat h2.2)) (by omega))
  rw [Nat.add_comm]
  exact lt_mul h2.1 (lt_nat h1.2)
theorem Sz.div {a b : Nat} {x y : Rat} (h1 : Sz a x) (h2 : Sz b y) (h : y ≠ 0) : Sz (a + b) (x / y) := by
  rw [← div_is x h]
  have hn : y.num ≠ 0 := fun e => h (Rat.num_eq_zero.mp e)
  exact sz_div (inz (dnz x) hn) (lt_mul h1.1 (lt_nat h2.2)) (lt_mul (lt_nat h1.2) h2.1)
theorem Sz.neg {a : Nat} {x : Rat} (h : Sz a x) : Sz a (-x) := by
  refine ⟨?_, ?_⟩
  · rw [Rat.neg_num, Int.natAbs_neg]; exact h.1
  · rw [Rat.neg_den]; exact h.2
theorem log_lt {x : Int} {b : Nat} (h : x.natAbs < 2 ^ b) (hb : b ≤ 9000) (h0 : 0 < b) : x.natAbs.log2 < 9000 := Nat.lt_of_lt_of_le (PySem.Flt.log2_lt_of h0 h) hb
end K88
/-! A9 -/
namespace AL
open PySem PySem.Spec PyProof.Rows L2
theorem yn {p : Prop} [Decidable p] {A B : Prop} (h1 : p → A) (h2 : ¬ p → B) : (decide p = true → A) ∧ (decide p = false → B) := ⟨fun h => h1 (of_decide_eq_true h), fun h => h2 (of_decide_eq_false h)⟩
theorem ny {p : Prop} [Decidable p] {A B : Prop} (h1 : ¬ p → A) (h2 : p → B) : ((!decide p) = true → A) ∧ ((!decide p) = false → B) := ⟨fun h => h1 (of_decide_eq_false (by simpa using h)), fun h => h2 (of_decide_eq_true (by simpa using h))⟩
theorem yt {A B : Prop} (h : A) : (true = true → A) ∧ (true = false → B) := ⟨fun _ => h, fun e => nomatch e⟩
theorem yf {A B : Prop} (h : B) : (false = true → A) ∧ (false = false → B) := ⟨(fun e => nomatch e), fun _ => h⟩
theorem fy {A B : Prop} (h : A) : (false = false → A) ∧ (false = true → B) := ⟨fun _ => h, fun e => nomatch e⟩
theorem ft {A B : Prop} (h : B) : (true = false → A) ∧ (true = true → B) := ⟨(fun e => nomatch e), fun _ => h⟩
theorem ybt {b : Bool} {A B : Prop} (e : b = true) (h : A) : (b = true → A) ∧ (b = false → B) := ⟨fun _ => h, (fun q => by rw [e] at q; cases q)⟩
theorem ybf {b : Bool} {A B : Prop} (e : b = false) (h : B) : (b = true → A) ∧ (b = false → B) := ⟨(fun q => by rw [e] at q; cases q), fun _ => h⟩
theorem obt {b : Bool} {A B : Prop} (e : b = true) (h : B) : (b = false → A) ∧ (b = true → B) := ⟨(fun q => by rw [e] at q; cases q), fun _ => h⟩
theorem obf {b : Bool} {A B : Prop} (e : b = false) (h : A) : (b = false → A) ∧ (b = true → B) := ⟨fun _ => h, (fun q => by rw [e] at q; cases q)⟩
/-- for or: the false way first -/
theorem ynO {p : Prop} [Decidable p] {A B : Prop} (h1 : p → B) (h2 : ¬ p → A) : (decide p = false → A) ∧ (decide p = true → B) := ⟨fun h => h2 (of_decide_eq_false h), fun h => h1 (of_decide_eq_true h)⟩
variable {Γ : Gam} {ρ : Rho}
theorem wa_app0 {ta : TA} {c : Con} {k : D → Prop} (h : WA Γ ta ρ fun as => c as k) : WA Γ ta ρ fun as => c (as ++ []) k := by
  have e : (fun as : List AV => c (as ++ []) k) = fun as => c as k := by
    funext as
    rw [List.append_nil]
  rw [e]
  exact h
theorem w_call0 {ta : TA} {c : Con} {E : XK} {k : D → Prop} (h : WA Γ ta ρ fun as => c as k) : WE Γ (tCall (spOf Γ.K none c) [] E ta) ρ k := w_callP (das := []) (fun _ => trivial) (wa_app0 h)
theorem w_callZ {ta : TA} {c : Con} {E : XK} {k : D → Prop} (h : WA Γ ta ρ fun as => c as k) : WE Γ (tCall (spOf Γ.K Γ.z c) [] E ta) ρ k := w_call (das := []) (fun _ => trivial) (wa_app0 h)
/-- from here on the own list of slot i stays (a mark in a reading) -/
def tFrz (_ : Nat) (t : TS) : TS := t
theorem pss_frz {X : Cx} {l : List Stmt} {t : TS} (i : Nat) (h : PSs X l t) : PSs X l (tFrz i t) := h
theorem f_frz {nx bk ct : Rho → Prop} {rt : D → Prop} {t : TS} {j : Nat} {ds : List D} (e : ρ[j]? = some (some (.m ds))) (h : WS Γ t (ρ.set j (some (.i (.list ds)))) nx rt bk ct) : WS Γ (tFrz j t) ρ nx rt bk ct := s_frz e h
/-! own lists: a name that is to hold one -/
def tAsgM (te : TE) (g : TG) : TS := tAsg te g
theorem ps_setM {X : Cx} {pos : Pos} {i : Nat} {x : Str} {e : Expr} {te : TE} {pos' : Pos} (hN : X.N.Nodup) (hi : X.N[i]? = some x) (hx : Loc X.env.scope x) (he : PE X e te) (hs : swapsWith e (some (.Name x pos')) pos.line X.env = pure false := by rfl) (hf : X.fn x = true ∨ X.env.scope.names.lookup x = some .local := by first | exact .inl rfl | exact .inr rfl | assumption) :
    PS X (.Assign [.Name x pos'] e pos) (tAsgM te (gName i)) := ps_set hN hi hx he hs hf
section
variable {nx bk ct : Rho → Prop} {rt : D → Prop}
theorem m_lst {ta : TA} {j : Nat} (h : WL Γ ta ρ fun ds => ds.length ≤ 1000 ∧ nx (ρ.set j (some (.m ds)))) : WS Γ (tAsgM (tLst ta) (gName j)) ρ nx rt bk ct := s_asgM h
theorem m_cat {ta tb : TE} {j : Nat} (h : WE Γ ta ρ fun x => WE Γ tb ρ fun y => ∃ ds es, x = .list ds ∧ y = .list es ∧ ds.length + es.length ≤ 100000 ∧ nx (ρ.set j (some (.m (ds ++ es))))) : WS Γ (tAsgM (tOp (rAddG Γ.K) ta tb) (gName j)) ρ nx rt bk ct := fun F0 H0 F H σ D k n b c r =>
  h F H σ _ k.i fun v x F1 H1 w1 s1 p1 h1 => h1 F1 H1 σ _ (k.i.next w1 s1) fun u y F2 H2 w2 s2 p2 ⟨ds, es, e1, e2, hz, q⟩ => by
    subst e1 e2
    have p1' := p1.mono s2.fx
    cases p1' with
    | lst ht ha =>
      cases p2 with
      | lst hs hb =>
        exact .inr (.inr ⟨_, _, _, _, rfl, rfl, w2.sub _ _ ht, w2.sub _ _ hs, by rw [ha.len, hb.len]; exact Nat.le_trans hz (by decide), fun p hp =>
          n F2 _ _ _ (s1.fx.trans s2.fx) (((k.next w1 s1).next w2 s2).setM hp (ha.app hb) j) q⟩)
theorem m_list {ta : TE} {j : Nat} (h : WE Γ ta ρ fun x => ∃ ds, (x = .list ds ∨ x = .tuple ds) ∧ nx (ρ.set j (some (.m ds)))) : WS Γ (tAsgM (tCB (rListG Γ.K) (tCons ta tNil)) (gName j)) ρ nx rt bk ct := fun F0 H0 F H σ D k n b c r =>
  h F H σ _ k.i fun v x F1 H1 w1 s1 p1 ⟨ds, e, q⟩ => by
    rcases e with e | e
    · subst e
      cases p1 with
      | lst ht ha => exact ⟨_, _, rfl, .inl (SqL.of (w1.sub _ _ ht)), fun p hp => n F1 _ _ _ s1.fx ((k.next w1 s1).setM hp ha j) q⟩
    · subst e
      cases p1 with
      | tup ht ha => exact ⟨_, _, rfl, .inr (sqT_mono w1.sub ht), fun p hp => n F1 _ _ _ s1.fx ((k.next w1 s1).setM hp ha j) q⟩
end
theorem mulx {i j : Int} {a b : Nat} (h1 : i.natAbs < 2 ^ a) (h2 : j.natAbs < 2 ^ b) (h : a + b ≤ 134217728) : CMulX i j := mulx_ok h1 h2 h
theorem divx {i j : Int} {b : Nat} (h0 : j ≠ 0) (h : j.natAbs < 2 ^ b) (hb : b ≤ 9000) (h1 : 0 < b) : CDivX i j := ⟨h0, Nat.lt_of_lt_of_le (PySem.Flt.log2_lt_of h1 h) hb⟩
end AL
namespace K88
open PySem PySem.Spec PyProof.Rows L2 AL
abbrev Fq (q : Rat) : D := .tuple [.int q.num, .int q.den]
def c_reduced : Con := fun as k => ∃ n d : Int, as = [.i (.int n), .i (.int d)] ∧ d ≠ 0 ∧ d.natAbs < 2 ^ 9000 ∧ k (Fq (Rat.divInt n d))
/-! two fractions in, one out -/
def c_add : Con := fun as k => ∃ (x y : Rat) (a b : Nat), as = [.i (Fq x), .i (Fq y)] ∧ Sz a x ∧ Sz b y ∧ a + b + 1 ≤ 9000 ∧ True ∧ k (Fq (x + y))
def c_sub : Con := fun as k => ∃ (x y : Rat) (a b : Nat), as = [.i (Fq x), .i (Fq y)] ∧ Sz a x ∧ Sz b y ∧ a + b + 1 ≤ 9000 ∧ True ∧ k (Fq (x - y))
def c_mul : Con := fun as k => ∃ (x y : Rat) (a b : Nat), as = [.i (Fq x), .i (Fq y)] ∧ Sz a x ∧ Sz b y ∧ a + b + 1 ≤ 9000 ∧ True ∧ k (Fq (x * y))
def c_div : Con := fun as k => ∃ (x y : Rat) (a b : Nat), as = [.i (Fq x), .i (Fq y)] ∧ Sz a x ∧ Sz b y ∧ a + b + 1 ≤ 9000 ∧ y ≠ 0 ∧ k (Fq (x / y))
def c_sum : Con := fun as k => ∃ (a x b y e : Rat) (n1 n2 n3 n4 n5 : Nat), as = [.i (Fq a), .i (Fq x), .i (Fq b), .i (Fq y), .i (Fq e)] ∧ Sz n1 a ∧ Sz n2 x ∧ Sz n3 b ∧ Sz n4 y ∧ Sz n5 e ∧ n1 + n2 + n3 + n4 + n5 + 1 ≤ 9000 ∧ k (Fq (a * x + b * y + e))
theorem Sz.n {a : Nat} {x : Rat} (h : Sz a x) : x.num.natAbs < 2 ^ a := h.1
theorem Sz.d {a : Nat} {x : Rat} (h : Sz a x) : (x.den : Int).natAbs < 2 ^ a := lt_nat h.2
theorem lt_addx {x y : Int} {a b : Nat} (h1 : x.natAbs < 2 ^ a) (h2 : y.natAbs < 2 ^ b) : (x + y).natAbs < 2 ^ (a + b + 1) := lt_add (lt_up h1 (by omega)) (lt_up h2 (by omega))
theorem lt_subx {x y : Int} {a b : Nat} (h1 : x.natAbs < 2 ^ a) (h2 : y.natAbs < 2 ^ b) : (x - y).natAbs < 2 ^ (a + b + 1) := lt_sub (lt_up h1 (by omega)) (lt_up h2 (by omega))
theorem lt_neg {x : Int} {a : Nat} (h : x.natAbs < 2 ^ a) : (-x).natAbs < 2 ^ a := by rw [Int.natAbs_neg]; exact h
theorem lt_ltx {x : Int} {a b : Nat} (h : x.natAbs < 2 ^ a) (l : a ≤ b) : x.natAbs < 2 ^ b := lt_up h l
theorem gcd_lt {n d : Int} {b : Nat} (hd : d ≠ 0) (h : d.natAbs < 2 ^ b) : Nat.gcd n.natAbs d.natAbs < 2 ^ b := Nat.lt_of_le_of_lt (Nat.gcd_le_right _ (Int.natAbs_pos.mpr hd)) h
theorem gcd_pos {n d : Int} (hd : d ≠ 0) : 0 < Nat.gcd n.natAbs d.natAbs := Nat.gcd_pos_of_pos_right _ (Int.natAbs_pos.mpr hd)
end K88
/-! M2 -/
/-! transforms: the plain law -/
namespace K88
open PySem PySem.Spec PyProof.Rows L2 AL
structure Pt where
  x : Rat
  y : Rat
structure Tf where
  a : Rat
  b : Rat
  c : Rat
  d : Rat
  e : Rat
  f : Rat
abbrev ptD (p : Pt) : D := .tuple [Fq p.x, Fq p.y]
abbrev tfD (t : Tf) : D := .tuple [Fq t.a, Fq t.b, Fq t.c, Fq t.d, Fq t.e, Fq t.f]
def PSz (n : Nat) (p : Pt) : Prop := Sz n p.x ∧ Sz n p.y
structure TSz (n : Nat) (t : Tf) : Prop where
  a : Sz n t.a
  b : Sz n t.b
  c : Sz n t.c
  d : Sz n t.d
  e : Sz n t.e
  f : Sz n t.f
def Tf.on (t : Tf) (p : Pt) : Pt := ⟨t.a * p.x + t.b * p.y + t.e, t.c * p.x + t.d * p.y + t.f⟩
def Tf.det (t : Tf) : Rat := t.a * t.d - t.b * t.c
/-- s behind t -/
def Tf.chain (t s : Tf) : Tf := ⟨s.a * t.a + s.b * t.c, s.a * t.b + s.b * t.d, s.c * t.a + s.d * t.c, s.c * t.b + s.d * t.d, s.a * t.e + s.b * t.f + s.e, s.c * t.e + s.d * t.f + s.f⟩
def Tf.inv (t : Tf) : Tf := ⟨t.d / t.det, -(t.b / t.det), -(t.c / t.det), t.a / t.det, -(t.d / t.det * t.e + -(t.b / t.det) * t.f), -(-(t.c / t.det) * t.e + t.a / t.det * t.f)⟩
def Tf.unit : Tf := ⟨1, 0, 0, 1, 0, 0⟩
theorem Fq_inj {x y : Rat} (h : Fq x = Fq y) : x = y := by
  injection h with h
  injection h with h1 h2
  injection h2 with h3 h4
  injection h1 with h5
  injection h3 with h6
  exact Rat.ext h5 (by exact_mod_cast h6)
theorem Fq0 : Fq 0 = .tuple [.int 0, .int 1] := rfl
theorem Fq1 : Fq 1 = .tuple [.int 1, .int 1] := rfl
theorem sz0 : Sz 1 (0 : Rat) := ⟨by decide, by decide⟩
theorem sz1 : Sz 1 (1 : Rat) := ⟨by decide, by decide⟩
theorem TSz.mono {m n : Nat} {t : Tf} (h : TSz m t) (l : m ≤ n) : TSz n t := ⟨h.a.mono l, h.b.mono l, h.c.mono l, h.d.mono l, h.e.mono l, h.f.mono l⟩
theorem PSz.mono {m n : Nat} {p : Pt} (h : PSz m p) (l : m ≤ n) : PSz n p := ⟨h.1.mono l, h.2.mono l⟩
theorem TSz.det {n : Nat} {t : Tf} (h : TSz n t) : Sz (4 * n + 1) t.det := ((h.a.mul h.d).sub (h.b.mul h.c)).mono (by omega)
/-- the eqv of data that stands for fractions -/
theorem eqv_Fq {x y : Rat} : PyData.eqv (Fq x) (Fq y) = decide (x = y) := by
  show ((x.num == y.num) && (((x.den : Int) == (y.den : Int)) && true)) = decide (x = y)
  by_cases h : x = y
  · subst h
    simp
  · have : ¬ (x.num = y.num ∧ x.den = y.den) := fun e => h (Rat.ext e.1 e.2)
    have e2 : ((x.den : Int) == (y.den : Int)) = decide (x.den = y.den) := by
      rw [Bool.beq_eq_decide_eq]
      congr 1
      exact propext (by omega)
    rw [Bool.beq_eq_decide_eq, e2, decide_eq_false h, Bool.and_true, ← Bool.decide_and]
    exact decide_eq_false this
variable {Γ : Gam} {ρ : Rho} {k : D → Prop}
theorem b_eqF {x y : Rat} (q : k (.bool (decide (x = y)))) : RB Γ (rEqG Γ.K) (Fq x) (Fq y) k := b_eqT rfl rfl (by
  have e : PyData.eqvAll [.int x.num, .int x.den] [.int y.num, .int y.den] = decide (x = y) := eqv_Fq
  rw [e]
  exact q)
theorem b_neF {x y : Rat} (q : k (.bool (!decide (x = y)))) : RB Γ (rNeG Γ.K) (Fq x) (Fq y) k := b_neT rfl rfl (by
  have e : PyData.eqvAll [.int x.num, .int x.den] [.int y.num, .int y.den] = decide (x = y) := eqv_Fq
  rw [e]
  exact q)
end K88
/-! A10 -/
namespace AL
open PySem PySem.Spec PyProof.Rows L2
theorem has_dfl {P : Program} {w : World} {K : PySem.W.Frag} {mg : Str → Option Value} {base : Heap} {CX : CXT} {x : Str} {st : Stmt} {lev : Nat} {ps : List Str} {sp : Sp} {dvs : List V} (d : DefAt K mg x st dvs) (n j : Nat) (hd : dvs ≠ []) (hn : n + (dvs.length - j) = ps.length)
    (h : ∀ (T : Addr) (kV doc pm : Value) (an : Option Addr) (cdv ct : Value) (us its : List Value), us.length = n → its.length = dvs.length →
      ∃ k, bindArgs (PySem.W.fnOf x x (defArgs st) (defBody st) (defScope st) (.ref T) kV doc pm an cdv ct) ⟨us, []⟩ = seqItems? (.ref T) >>= k ∧ k (some its.toArray) = pure (ps.zip (us ++ its.drop j)))
    (F : ∀ f fd, FunD K x x (defArgs st) (defBody st) (defScope st) dvs [] f fd → FnOk P w K mg base CX lev f fd ps sp) : Has P w K mg base CX x lev (dvs.drop j) sp := by
  obtain ⟨f, fd, D, m⟩ := d
  obtain ⟨ds, h1, h2⟩ := D.binds1 n j hd hn h
  exact ⟨f, fd, ps, ds, F f fd D, m, D.kp, h2, h1⟩
/-- the body alone: the promise of a def at its place -/
theorem fnok_pure {P : Program} {w : World} {K : PySem.W.Frag} {mg : Str → Option Value} {base : Heap} {x : Str} {st : Stmt} {j : Nat} {N ps : List Str} {z : Option Zs} {c : Con} {dvs : List V} {f : Addr} {fd : FuncData} (D : FunD K x x (defArgs st) (defBody st) (defScope st) dvs [] f fd) (S : FnScope N ps (defScope st))
    (n : Nat) (hN : ps.length + n = N.length) (hc : ∀ as k, c as k → as.length = ps.length)
    (hb : ∀ (f : Addr) (cdv : Value) (A : Around) (outer : List Env) (s : Shared) (H : Hp) (E : XK), Room j (A.deeper (envOfC x (defScope st) s.heap.objs.size f cdv)) →
      ∃ t, PSs (cxOf CX0 P w K mg base N x (defScope st) f cdv A outer s H E).nox (defBody st) t ∧ ∀ as k, c as k → WS ⟨K, z, E0, fun _ => False⟩ t (st0 n as) (fun _ => k .none) k (fun _ => False) (fun _ => False)) :
    FnOk P w K mg base CX0 (j + 1) f fd ps (spOf K z c) :=
  D.ok S (fun vs H Q E ⟨F, as, k, _, va, q, _⟩ => va.len.trans (hc as k q)) fun cdv A outer s H vs Q E hr hs => by
    obtain ⟨t, p, q⟩ := hb f cdv A outer s H E hr
    exact ⟨t, PSs.nox p, enter hs n (fun as k h => by rw [hc as k h]; exact hN) q⟩
variable {Γ : Gam} {ρ : Rho}
theorem w_callD2 {ta : TA} {c : Con} {E : XK} {k : D → Prop} (h : WA Γ ta ρ fun as => c (as ++ [.i .none, .i .none]) k) : WE Γ (tCall (spOf Γ.K none c) [.non, .non] E ta) ρ k := w_callP (das := [.i .none, .i .none]) (fun _ => ⟨.non, .non, trivial⟩) h
theorem w_callD1 {ta : TA} {c : Con} {E : XK} {k : D → Prop} (h : WA Γ ta ρ fun as => c (as ++ [.i .none]) k) : WE Γ (tCall (spOf Γ.K none c) [.non] E ta) ρ k := w_callP (das := [.i .none]) (fun _ => ⟨.non, trivial⟩) h
end AL
/-! A11 -/
namespace AL
open PySem PySem.Spec PyProof.Rows L2
/-! ### own errors with one field -/
/-- what their __init__ keeps: self.f = y -/
def spInit (C : Addr) (f : Str) : Sp := fun vs H Q _ => ∃ (a : Addr) (y : V), vs = [.ref a, y] ∧ H a = some (exo a C none) ∧
  ∀ dx, H dx = none → dx ≠ a → Q .non (upd (upd H dx (exd dx [(f, y)])) a (exo a C (some dx)))
/-- the class x stands at C, its one field is f -/
structure ExK (P : Program) (w : World) (K : PySem.W.Frag) (mg : Str → Option Value) (base : Heap) (x : Str) (C : Addr) (f : Str) : Prop where
  T : OexC K C
  no : PySem.W.findIn K (.ref C) f = some none
  m : mg x = some (.ref C)
  ini : ∃ (fI : Addr) (fd : FuncData), PySem.W.findIn K (.ref C) "__init__" = some (some (.ref fI)) ∧ PySem.W.typeIn K (.ref fI) = some (.type "function") ∧ FnOk P w K mg base CX0 1 fI fd [("self" : Str), f] (spInit C f) ∧ Binds K fd [("self" : Str), f] []
section
variable {P : Program} {w : World} {K : PySem.W.Frag} {mg : Str → Option Value} {base : Heap} {x : Str} {C : Addr} {f : Str}
/-- the __init__ of such a class, by its text -/
theorem init_ok {q : Str} {st : Stmt} {fI : Addr} {fd : FuncData} (D : FunD K "__init__" q (defArgs st) (defBody st) (defScope st) [] [] fI fd) (T : OexC K C) (no : PySem.W.findIn K (.ref C) f = some none) (S : FnScope [("self" : Str), f] [("self" : Str), f] (defScope st))
    (hb : ∀ (X : Cx), X.K = K → X.N = [("self" : Str), f] → X.env.scope = defScope st → PSs X (defBody st) (tOst K f (tVar 0) (tVar 1))) : FnOk P w K mg base CX0 1 fI fd [("self" : Str), f] (spInit C f) :=
  D.ok S (fun vs H Q E ⟨a, y, e, _⟩ => by rw [e]; rfl) fun cdv A outer s H vs Q E hr ⟨a, y, e, h1, h2⟩ =>
    ⟨_, hb _ rfl rfl rfl, by
      subst e
      refine ⟨y, rfl, _, rfl, a, C, rfl, T, no, .inl ⟨h1, fun dx n ne => h2 dx n ne⟩⟩⟩
theorem init_body {X : Cx} {p1 p2 p3 p4 : Pos} (hN : X.N = [("self" : Str), f]) (hK : X.K = K) (hs : Loc X.env.scope "self") (hf : Loc X.env.scope f) (ho : PE X (.Name "self" p1) (tVar 0)) (he : PE X (.Name f p3) (tVar 1)) :
    PSs X [.Assign [.Attribute (.Name "self" p1) f p2] (.Name f p3) p4] (tOst K f (tVar 0) (tVar 1)) := by
  subst hK
  exact pss_one (ps_ost ho he)
end
section
variable {X : Cx} {x : Str} {C : Addr} {f : Str} {W : WX} {e : Expr} {ta : TA} {p pos pos2 : Pos}
def tRaiseK (C : Addr) (f : Str) (W : WX) (ta : TA) : TS := fun _ σ H => tMkO C (spInit C f) [] ta σ H fun cls d H' => W cls d σ H'
theorem ps_raiseK (h : ExK X.prog X.w X.K X.mg X.base x C f) (hc : X.calm = true) (hr : Room 2 X.A) (tk : Takes X W) (ha : PA X [e] ta) (hg : Gl X x := by rfl) (hdb : (x == ("__debug__" : Str)) = false := by decide)
    (he : starEach (e :: []) X.env = (false, eval e X.env) :: starEach [] X.env := by rfl) (hpl : (backTo pos (starEach [] X.env)).any (·.1) = false := by rfl) :
    PS X (.Raise (some (.Call (.Name x p) [e] [] pos)) none pos2) (tRaiseK C f W ta) := by
  obtain ⟨fI, fd, h1, h2, F, b⟩ := h.ini
  exact ps_raise hc tk (pmk_oex h.T h1 h2 F hr b .nil (fun _ _ _ _ _ _ _ z => z.elim) hg h.m ha hdb he hpl)
end
/-- an error's field: a value that is no object -/
inductive Imm : D → V → Prop
  | non : Imm .none .non
  | int (i : Int) : Imm (.int i) (.int i)
  | str (x : Str) : Imm (.str x) (.str x)
section
variable {Γ : Gam} {ρ : Rho} {nx bk ct : Rho → Prop} {rt : D → Prop} {C : Addr} {f : Str}
theorem s_raiseK {ta : TA} (h : WL Γ ta ρ fun ds => ∃ d v, ds = [d] ∧ Imm d v ∧ Γ.xe ⟨C, [(f, v)]⟩) : WS Γ (tRaiseK C f (fun cls d _ H => Γ.X cls d H) ta) ρ nx rt bk ct := fun F0 H0 F H σ D k n b c r =>
  h F H σ _ k.i fun vs ds F1 H1 w1 s1 p1 ⟨d, v, e, im, q⟩ => by
    subst e
    cases p1 with
    | @cons y vs _ _ p1 p2 =>
      cases p2
      have ev : y = v := by
        cases im <;> cases p1 <;> rfl
      subst ev
      refine ⟨by show 1 ≤ 1000; decide, fun a ha => ⟨a, y, rfl, upd_same, fun dx hd hne => ⟨rfl, dx, [(f, y)], upd_same, ?_, ?_, ?_⟩⟩⟩
      · rw [upd_ne hne]
        exact upd_same
      · rw [upd_ne hne] at hd
        exact hd
      · have hd1 : H1 dx = none := by
          rw [upd_ne hne] at hd
          exact hd
        have e : upd (del (upd (upd (upd H1 a (exo a C none)) dx (exd dx [(f, y)])) a (exo a C (some dx))) a) dx (.xd [(f, y)]) = upd H1 dx (.xd [(f, y)]) := by
          funext z
          by_cases h1 : z = dx
          · subst h1
            rw [upd_same, upd_same]
          · rw [upd_ne h1, upd_ne h1]
            by_cases h2 : z = a
            · subst h2
              rw [del_same, ha]
            · rw [del_ne h2, upd_ne h2, upd_ne h1, upd_ne h2]
        show Γ.X (.ref C) (some dx) (upd (del (upd (upd (upd H1 a (exo a C none)) dx (exd dx [(f, y)])) a (exo a C (some dx))) a) dx (.xd [(f, y)]))
        rw [e]
        exact k.i.x _ _ (upd F1 dx (.xd [(f, y)])) _ _ (w1.new hd1) (s1.trans w1 (Stp.new w1 hd1)) ⟨rfl, dx, rfl, upd_same⟩ q
end
/-! ### defs that may refuse -/
section
variable {P : Program} {w : World} {K : PySem.W.Frag} {mg : Str → Option Value} {base : Heap} {x : Str} {st : Stmt} {j : Nat} {N ps : List Str} {c : ConX}
theorem fnok_raises {dvs : List V} {f : Addr} {fd : FuncData} (D : FunD K x x (defArgs st) (defBody st) (defScope st) dvs [] f fd) (S : FnScope N ps (defScope st))
    (n : Nat) (hN : ps.length + n = N.length) (hc : ∀ as k ke, c as k ke → as.length = ps.length)
    (hb : ∀ (f : Addr) (cdv : Value) (A : Around) (outer : List Env) (s : Shared) (H : Hp) (E : XK), Room j (A.deeper (envOfC x (defScope st) s.heap.objs.size f cdv)) →
      ∃ t, PSs (cxOf (L2.CX P w) P w K mg base N x (defScope st) f cdv A outer s H E) (defBody st) t ∧ ∀ as k ke, c as k ke → WS ⟨K, none, E, ke⟩ t (st0 n as) (fun _ => k .none) k (fun _ => False) (fun _ => False)) :
    FnOk P w K mg base (L2.CX P w) (j + 1) f fd ps (spX K c) :=
  D.ok S (fun vs H Q E ⟨F, as, k, ke, _, va, q, _⟩ => va.len.trans (hc as k ke q)) fun cdv A outer s H vs Q E hr hs => by
    obtain ⟨t, p, q⟩ := hb f cdv A outer s H E hr
    exact ⟨t, p, enterX hs n (fun as k ke h => by rw [hc as k ke h]; exact hN) q⟩
theorem defat_raises (d : DefAt K mg x st []) (S : FnScope N ps (defScope st))
    (h : ∀ (kV doc pm : Value) (an : Option Addr) (cdv ct : Value) (us : List Value), us.length = ps.length → bindArgs (PySem.W.fnOf x x (defArgs st) (defBody st) (defScope st) .none kV doc pm an cdv ct) ⟨us, []⟩ = pure (ps.zip us))
    (n : Nat) (hN : ps.length + n = N.length) (hc : ∀ as k ke, c as k ke → as.length = ps.length)
    (hb : ∀ (f : Addr) (cdv : Value) (A : Around) (outer : List Env) (s : Shared) (H : Hp) (E : XK), Room j (A.deeper (envOfC x (defScope st) s.heap.objs.size f cdv)) →
      ∃ t, PSs (cxOf (L2.CX P w) P w K mg base N x (defScope st) f cdv A outer s H E) (defBody st) t ∧ ∀ as k ke, c as k ke → WS ⟨K, none, E, ke⟩ t (st0 n as) (fun _ => k .none) k (fun _ => False) (fun _ => False)) :
    Has P w K mg base (L2.CX P w) x (j + 1) [] (spX K c) := d.has h fun f fd D => fnok_raises D S n hN hc hb
end
/-- the way out of a def that may refuse -/
theorem passX {P : Program} {w : World} {K : PySem.W.Frag} {mg : Str → Option Value} {base : Heap} {N : List Str} {qual : Str} {scope : Scope} {f : Addr} {cd : Value} {A : Around} {outer : List Env} {s : Shared} {H : Hp} {E : XK} :
    Passes (L2.CX P w) (cxOf (L2.CX P w) P w K mg base N qual scope f cd A outer s H E) E := passes_call (W := fun cls d _ H => E cls d H) (takes_of rfl rfl rfl rfl) fun _ _ _ _ h => h
section
variable {Γ : Gam} {ρ : Rho} {k : D → Prop} {c : ConX} {ta : TA}
theorem w_callX0 (hz : Γ.z = none) (h : WA Γ ta ρ fun as => c as k Γ.xe) : WE Γ (tCall (spX Γ.K c) [] Γ.X ta) ρ k := w_callX (das := []) hz (fun _ => trivial) (by
  have e : (fun as : List AV => c (as ++ []) k Γ.xe) = fun as => c as k Γ.xe := by
    funext as
    rw [List.append_nil]
  rw [e]
  exact h)
theorem w_callXS {y : Str} (hz : Γ.z = none) (h : WA Γ ta ρ fun as => c (as ++ [.i (.str y)]) k Γ.xe) : WE Γ (tCall (spX Γ.K c) [.str y] Γ.X ta) ρ k := w_callX (das := [.i (.str y)]) hz (fun _ => ⟨.str _, trivial⟩) h
end
end AL
namespace AL
open PySem PySem.Spec PyProof.Rows L2
/-! ### names of the module that hold data -/
def GInt (mg : Str → Option Value) (x : Str) (n : Int) : Prop := ∃ t, mg x = some (.int n t)
theorem pe_gint {X : Cx} {x : Str} {n : Int} {pos : Pos} (h : GInt X.mg x n) (hg : Gl X x := by rfl) (hd : (x == ("__debug__" : Str)) = false := by decide) : PE X (.Name x pos) (tC (.int n)) := by
  obtain ⟨t, h⟩ := h
  exact pe_glob hg h ⟨t, rfl⟩ hd
theorem pe_gref {X : Cx} {x : Str} {a : Addr} {pos : Pos} (h : X.mg x = some (.ref a)) (hg : Gl X x := by rfl) (hd : (x == ("__debug__" : Str)) = false := by decide) : PE X (.Name x pos) (tC (.ref a)) := pe_glob hg h rfl hd
end AL
namespace AL
open PySem PySem.Spec PyProof.Rows L2
/-- a comprehension over data: every item's turn tells f of it -/
theorem lcU_mapG {Γ : Gam} {ρ : Rho} {g : TG} {te : TE} {vs : List Nat} {k : D → Prop} {f : D → D} : ∀ {ds acc : List D},
    (∀ d ∈ ds, ∃ js, WG Γ.K g d js ∧ (js.all fun p => vs.contains p.1) = true ∧ WE Γ te (putD (wipeR ρ vs) js) fun e => e = f d) → acc.length + ds.length ≤ 100000 → k (.list (acc ++ ds.map f)) → LcU Γ g tYes te vs ρ k ds acc
  | [], acc, _, _, q => by
    rw [List.map_nil, List.append_nil] at q
    exact q
  | d :: r, acc, h, hz, q => by
    obtain ⟨js, h1, h2, h3⟩ := h d List.mem_cons_self
    rw [List.length_cons] at hz
    refine ⟨js, h1, h2, by omega, t_yes ⟨fun _ => h3.mono fun e he => ?_, fun e => by cases e⟩⟩
    subst he
    refine lcU_mapG (fun d hd => h d (List.mem_cons_of_mem _ hd)) ?_ ?_
    · rw [List.length_append]
      show _ + 1 + _ ≤ _
      omega
    · rw [List.append_assoc]
      exact q
theorem lcU_map {Γ : Gam} {ρ : Rho} {j : Nat} {te : TE} {vs : List Nat} {k : D → Prop} (f : D → D) {ds : List D} (hj : vs.contains j = true) (h : ∀ d ∈ ds, WE Γ te ((wipeR ρ vs).set j (some (.i d))) fun e => e = f d) (hz : ds.length ≤ 100000) (q : k (.list (ds.map f))) : LcU Γ (gName j) tYes te vs ρ k ds [] :=
  lcU_mapG (fun d hd => ⟨[(j, d)], g_name, by rw [List.all_cons, hj]; rfl, h d hd⟩) (by show 0 + _ ≤ _; omega) q
end AL
/-! E1 -/
/-! errors that are caught: defs that are called with one, while it is handled -/
namespace AL
open PySem PySem.Spec PyProof.Rows L2
/-! ### what is never reached -/
def tNo : TE := fun _ _ _ => False
def tNoS : TS := fun _ _ _ => False
theorem pe_no {X : Cx} {e : Expr} : PE X e tNo := ⟨fun _ _ _ _ _ _ z => z.elim⟩
theorem ps_no {X : Cx} {e : Stmt} : PS X e tNoS := ⟨fun _ _ _ _ _ _ z => z.elim⟩
/-! ### a def that takes the handled error -/
abbrev SpE := Addr → Value → Option Addr → Sp
abbrev PinT := Addr × Obj
structure FnE (P : Program) (w : World) (K : PySem.W.Frag) (mg : Str → Option Value) (base : Heap) (k : Nat) (f : Addr) (fd : FuncData) (ps : List Str) (sp : SpE) : Prop where
  len : ∀ a c d vs H Q E, sp a c d vs H Q E → vs.length = ps.length
  go : ∀ (A : Around) (out : List Env) (s : Shared) (H : Hp) (as : Args) (us : List Value) (vs : List V) (Q : VK) (E : XK) (p : PinT) (c : Value) (d : Option Addr), L2H.RoomH k A → Zc c d p.2 → (∃ z, p.2.data = .fields z) → L2H.PinOk out H s p →
    Env0 P w K mg base A out s H → BindsTo s fd as (ps.zip us) → Vals vs us → sp p.1 c d vs H Q E → codeAny (model P w) A (.call (.ref f) as) (CR CX0 out P w H s Q E) s
theorem FunD.okE {P : Program} {w : World} {K : PySem.W.Frag} {mg : Str → Option Value} {base : Heap} {x qual : Str} {params : Arguments} {body : List Stmt} {scope : Scope} {f : Addr} {fd : FuncData} {N ps : List Str} {k : Nat} {sp : SpE}
    (D : FunD K x qual params body scope [] [] f fd) (S : FnScope N ps scope) (len : ∀ a c d vs H Q E, sp a c d vs H Q E → vs.length = ps.length)
    (hb : ∀ (cdv : Value) (A : Around) (out : List Env) (s : Shared) (H : Hp) (vs : List V) (Q : VK) (E : XK) (p : PinT) (c : Value) (d : Option Addr), Zc c d p.2 → (∃ z, p.2.data = .fields z) → L2H.RoomH k (A.deeper (envOfC qual scope s.heap.objs.size f cdv)) → sp p.1 c d vs H Q E →
      ∃ t, PSs (L2H.cxH CX0 P w K mg base N qual scope f cdv A out s H E p) body t ∧ t { nx := fun _ H' => Q .non H', rt := Q } (L2.start N vs) H) :
    FnE P w K mg base (k + 1) f fd ps sp := by
  obtain ⟨oc, od, dV, kV, doc, pm, an, cdv, ct, osl, rfl, lk, hcd, _, _⟩ := D.ex
  refine ⟨len, fun A out s H as us vs Q E p c d hr hz hf hpin e0 hbi r hsp => ?_⟩
  have KX : K.In s.heap := e0.mod.kin.keeps fun b o e => (e0.bs b o e).1
  have nl : s.heap.NoLimit := e0.mod.nolimit.keeps fun b o e => (e0.bs b o e).1
  have hk : ∀ y ∈ ps.zip us, scope.names.lookup y.1 = some .local ∨ (scope.names.lookup y.1 = some .cell ∧ ((cellsFrom (s.heap.objs.size + 1) scope.names []).lookup y.1).isSome = true) := fun ⟨n, v⟩ hy =>
    (S.par n (List.of_mem_zip hy).1).elim .inl fun q => .inr ⟨q, PySem.W.cellsFrom_some _ _ _ (.inl q)⟩
  refine codeAny_call_function hr.depth (KX _ _ lk) rfl S.co S.gen rfl (PySem.W.codeRec_of KX hcd) (hbi _ _ _ _ ?_)
  refine wpAny_newFunctionEnv_cells S.kind hk fun env he s1 x => ?_
  subst he
  refine ⟨nl.keeps x.toInCall.keep, codeAny_func ?_⟩
  obtain ⟨t, ht, hq⟩ := hb cdv A out s H vs Q E p c d hz hf (hr.deeper _) hsp
  have I : Inv (L2H.cxH CX0 P w K mg base N qual scope f cdv A out s H E p) [] (L2.start N vs) H s1 := L2H.inv_startH S hpin e0 (len _ _ _ _ _ _ _ hsp) r x
  refine wpAny_mono (ht.run [] s1 (L2.start N vs) H _ I hq) (fun fl s' hs => ?_) fun e s' hs => hs
  cases fl with
  | brk => exact hs.elim fun _ z => z.elim fun _ z => z.2.elim
  | cont => exact hs.elim fun _ z => z.elim fun _ z => z.2.elim
  | next =>
    obtain ⟨σ2, H2, J, q⟩ := hs
    exact ⟨.non, H2, J.os, J.bare, J.base, J.hok, rfl, q⟩
  | ret u =>
    obtain ⟨v, σ2, H2, J, rv, q⟩ := hs
    exact ⟨v, H2, J.os, J.bare, J.base, J.hok, rv, q⟩
def tCallE (sp : Sp) (t : TA) : TE := fun σ H Q => t σ H fun vs H1 => sp vs H1 Q E0
theorem pe_callE {X : Cx} {k : Nat} {f a : Addr} {oe : Obj} {c : Value} {d : Option Addr} {fd : FuncData} {ps : List Str} {sp : SpE} {x : Str} {e : Expr} {t : TA} {q pos : Pos} (F : FnE X.prog X.w X.K X.mg X.base k f fd ps sp) (hr : L2H.RoomH k X.A)
    (hp : (a, oe) ∈ X.pn) (hz : Zc c d oe) (hf : ∃ z, oe.data = .fields z) (hm : X.mg x = some (.ref f)) (hk : PySem.W.keepIn X.K (.ref f) = true) (hb : Binds X.K fd ps []) (ha : PA X [e] t) (hg : Gl X x := by rfl) (hdb : (x == ("__debug__" : Str)) = false := by decide)
    (he : starEach (e :: []) X.env = (false, eval e X.env) :: starEach [] X.env := by rfl) (hpl : (backTo pos (starEach [] X.env)).any (·.1) = false := by rfl) : PE X (.Call (.Name x q) [e] [] pos) (tCallE (sp a c d) t) := by
  refine ⟨fun pins s σ H Q I h => wpAny_Call_Name_kw (ld_glob I hg hm ?_ hdb)⟩
  refine PySem.W.callWith_K (h₀ := X.base) I.ok.mod.kin hk (thn (ha.run pos pins s σ H _ I h) fun us s1 ⟨vs, H1, I1, r, q⟩ => ⟨I1.kIn, ?_⟩) he hpl
  have hl : us.length = ps.length := by rw [← r.length]; exact F.len _ _ _ _ _ _ _ q
  have b := hb s1 us I1.kIn (by rw [List.append_nil]; exact hl)
  rw [List.append_nil] at b
  have P1 := I1.pin (a, oe) (List.mem_append_left _ hp)
  refine wpAny_call (codeAny_mono (F.go X.A X.stack s1 H1 ⟨us, []⟩ us vs Q E0 (a, oe) c d hr hz hf ⟨P1.1, P1.2.1, fun hm => (List.mem_cons.mp (I1.stkSub a hm)).elim P1.2.2.1 P1.2.2.2.1, P1.2.2.2.2⟩ I1.env0 b r q) fun r s2 hq => ?_)
  cases r with
  | error e => exact (pass0 (X := X)) pins σ H1 s1 e s2 I1 hq
  | ok fl =>
    cases fl with
    | ret u => exact I1.after hq
    | next => exact hq.elim
    | brk => exact hq.elim
    | cont => exact hq.elim
/-! ### isinstance(e, c), e.f -/
structure EcC (K : PySem.W.Frag) (C : Addr) : Prop where
  cl : (PySem.W.clsIn K C).isSome = true
  ga : PySem.W.findIn K (.ref C) "__getattribute__" = some (some (.builtin "BaseException.__getattribute__"))
  gg : PySem.W.findIn K (.ref C) "__getattr__" = some none
  sb : PySem.W.subIn K (.ref C) (.type "BaseException") = some true
  hd : PySem.W.hasDictIn K C = true
  ca : PySem.W.findIn K (.ref C) "__class__" = some (some (.builtin "object.__class__"))
  cn : PySem.W.specialIn K (.builtin "object.__class__") "__get__" = some (some (.builtin "getset_descriptor.__get__"))
  ct : PySem.W.takesIn K (.builtin "object.__class__") = some true
  cm : PySem.W.mroIn K C (.type "object") = some true
def rIsP (K : PySem.W.Frag) (C a : Addr) : List V → Hp → VK → Prop := fun xs H Q => ∃ (c : V) (cv : Value) (b : Bool) (dd : Addr) (fs : List (Str × V)), xs = [.ref a, c] ∧ (∀ u, RelV c u → u = cv) ∧ PySem.W.kitOne K (.ref C) cv = some b ∧ H dd = some (.xd fs) ∧ Q (.bl b) H
theorem inst_of {X : Cx} {pins : List PinT} {σ : L2.St} {H : Hp} {s : Shared} {a C dd : Addr} {oe : Obj} {fs : List (Str × V)} (I : Inv X pins σ H s) (hp : (a, oe) ∈ X.pn) (hz : Zc (.ref C) (some dd) oe) (hf : ∃ z, oe.data = .fields z) (ea : H dd = some (.xd fs)) :
    ∃ (od : Obj) (mA : Str → Option Value), PySem.W.InstAt s.heap a oe C (some od) ∧ (∀ n, PySem.W.lookIn n od = some (mA n)) ∧ ∀ n, RelO (fs.lookup n) (mA n) := by
  have P1 := (I.pin (a, oe) (List.mem_append_left _ hp)).1
  obtain ⟨z, hd⟩ := hf
  obtain ⟨mA, hns, hr⟩ := (show ObjOk X.prog X.w H s.heap dd (.xd fs) from I.hok dd _ ea)
  obtain ⟨od, ho, hl⟩ := lookIn_ns hns
  exact ⟨od, mA, ⟨P1, hz.1, by unfold PySem.W.notCls; rw [hd] <;> rfl, by rw [hz.2]; exact ho⟩, hl, hr⟩
theorem call_isP {X : Cx} {a C dd : Addr} {oe : Obj} {K : PySem.W.Frag} (T : EcC K C) (hp : (a, oe) ∈ X.pn) (hz : Zc (.ref C) (some dd) oe) (hf : ∃ z, oe.data = .fields z) (hK : X.K = K := by rfl) :
    CallR X (.builtin "isinstance") (fun xs H Q => ∃ (c : V) (cv : Value) (b : Bool) (fs : List (Str × V)), xs = [.ref a, c] ∧ (∀ u, RelV c u → u = cv) ∧ PySem.W.kitOne K (.ref C) cv = some b ∧ H dd = some (.xd fs) ∧ Q (.bl b) H) := by
  subst hK
  intro pins s σ H xs us Q I r h
  obtain ⟨c, cv, b, fs, rfl, hcv, e, ea, q⟩ := h
  obtain ⟨u1, u2, rfl, r1, r2⟩ := vals2 r
  cases (show u1 = Value.ref a from r1)
  have ec := hcv _ r2
  subst ec
  obtain ⟨od, mA, J, _, _⟩ := inst_of I hp hz hf ea
  exact PySem.W.kia_one (PySem.W.kitx_exc (x := a) (ox := oe) (od := some od) T.cl T.ga T.gg T.sb T.ca T.cn T.ct T.cm) I.kIn J e (fun z => nomatch z) fun tk => ⟨.bl b, H, I.tok tk, rfl, q⟩
/-- the reading of isinstance of the error that dd is the dict of -/
def rIsQ (K : PySem.W.Frag) (C a dd : Addr) : List V → Hp → VK → Prop := fun xs H Q => ∃ (c : V) (cv : Value) (b : Bool) (fs : List (Str × V)), xs = [.ref a, c] ∧ (∀ u, RelV c u → u = cv) ∧ PySem.W.kitOne K (.ref C) cv = some b ∧ H dd = some (.xd fs) ∧ Q (.bl b) H
def tXg (a dd : Addr) (f : Str) (te : TE) : TE := fun σ H Q => te σ H fun x H1 => x = .ref a ∧ ∃ (fs : List (Str × V)) (v : V), H1 dd = some (.xd fs) ∧ fs.lookup f = some v ∧ Q v H1
theorem pe_xg {X : Cx} {a C dd : Addr} {oe : Obj} {K : PySem.W.Frag} {e : Expr} {te : TE} {pos : Pos} {n : Str} (T : EcC K C) (hno : PySem.W.findIn K (.ref C) n = some none) (hp : (a, oe) ∈ X.pn) (hz : Zc (.ref C) (some dd) oe) (hf : ∃ z, oe.data = .fields z) (he : PE X e te) (hK : X.K = K := by rfl)
    (hb : attributeBase e n X.env (eval e X.env) = eval e X.env := by rfl) : PE X (.Attribute e n pos) (tXg a dd n te) := by
  subst hK
  refine ⟨fun pins s σ H Q I h => attr_of hb (thn (he.run pins s σ H _ I h) fun u s1 hh => ?_)⟩
  obtain ⟨x, H1, I1, rx, ex, fs, v, ea, l, q⟩ := hh
  subst ex
  obtain rfl : u = Value.ref a := rx
  obtain ⟨od, mA, J, hl, hr⟩ := inst_of I1 hp hz hf ea
  obtain ⟨u, hu, ru⟩ := RelO.some_of (v := v) (o := mA n) (by rw [← l]; exact hr n)
  exact HandSPX.exc_get I1.kIn J T.ga T.gg T.sb (PySem.W.findObj_own T.hd hno rfl (by rw [hl, hu])) (handed_of ru) ⟨v, H1, I1.tok _, ru, q⟩
/-! ### list.count of data -/
def rCountD (K : PySem.W.Frag) : V → List V → Hp → VK → Prop := fun x xs H Q => ∃ (a : Addr) (y : V) (d : PyData) (ds : List PyData), x = .ref a ∧ xs = [y] ∧ Dp K H (.ref a) (.list ds) ∧ Dp K H y d ∧
  SeqAt.shaped (.list ds) = true ∧ SeqAt.shaped d = true ∧ Q (.int ((ds.countP fun z => PyData.eqv z d : Nat) : Int)) H
theorem mt_countD {X : Cx} (hu : X.A.units + 65 < cLine) : MtR X "list.count" (rCountD X.K) := by
  intro pins s σ H x xs v us Q I rx rxs h
  obtain ⟨a, y, d, ds, rfl, rfl, hl, hy, sl, sd, q⟩ := h
  cases rx
  obtain ⟨uy, rfl, ry⟩ := rxs.one
  obtain ⟨bs, r1⟩ := Dp.reads I d y uy hy ry
  have hxs : PyData.canLayAll0 ds = true := SeqAt.canLay_of_shaped sl
  have hroom : X.A.units + 1 + min (PyData.depthAll ds) d.depth < cLine := room_in_shaped sd hu
  cases hl with
  | lst hs ha =>
    obtain ⟨its, rv, ⟨⟨cls, dd, data, sls⟩, n, ho, hc, hdn, hdt⟩, hlen⟩ := I.list hs
    simp only at hc hdt
    subst hc hdt
    obtain ⟨as, h4⟩ := Dp.readsAll I ds _ its ha rv
    have hmap : its.map (SeqAt.readOf s.heap) = ds := SeqAt.readsAll_map ds its as hxs h4
    refine call_meets PySem.F.slot_list_count ⟨_, ho, rfl⟩ PySem.F.entry_list_count (PySem.F.args_list_count_2 _ _)
      (SeqAt.list_countAt a its.toArray n dd sls uy (fun u => PyData.eqv (SeqAt.readOf s.heap u) d)) ⟨ho, SeqAt.items_eqAt (vs := its.toArray) (show ReadsAll s.heap its.toArray.toList ds as from h4) r1 hxs (SeqAt.canLay_of_shaped sd) hroom, ?_⟩
    have ec : its.toArray.toList.countP (fun u => PyData.eqv (SeqAt.readOf s.heap u) d) = ds.countP fun z => PyData.eqv z d := by
      rw [← hmap, List.countP_map]
      rfl
    rw [ec]
    exact ⟨.int _, H, I.tok _, ⟨s.toks, rfl⟩, q⟩
end AL
/-! E2 -/
/-! errors that are caught: the rules over data -/
namespace AL
open PySem PySem.Spec PyProof.Rows L2
variable {Γ : Gam} {F H F' H' F0 H0 : Hp} {σ : L2.St} {ρ : Rho} {k : D → Prop}
theorem Imm.dq {K : PySem.W.Frag} {d : D} {v : V} (h : Imm d v) : Dq K F v d := by
  cases h with
  | non => exact .non
  | int i => exact .int i
  | str x => exact .str x
theorem w_isQ {C a dd : Addr} {c : V} {cv : Value} {b : Bool} {fs : List (Str × V)} {j : Nat} (h : ρ[j]? = some (some (.x (.ref a) dd fs))) (hc : ∀ u, RelV c u → u = cv) (e : PySem.W.kitOne Γ.K (.ref C) cv = some b) (q : k (.bool b)) :
    AL.WE Γ (tCB (rIsQ Γ.K C a dd) (tCons (tVar j) (tCons (tC c) tNil))) ρ k := fun F H σ Q i z => by
  obtain ⟨h1, h2⟩ := gsx i h
  exact ⟨.ref a, h1, c, cv, b, fs, rfl, hc, e, i.w.sub _ _ h2, z _ _ F H i.w .refl (.bl b) q⟩
theorem w_xg {a dd : Addr} {f : Str} {v : V} {d : D} {fs : List (Str × V)} {j : Nat} (h : ρ[j]? = some (some (.x (.ref a) dd fs))) (hl : fs.lookup f = some v) (im : Imm d v) (q : k d) : AL.WE Γ (tXg a dd f (tVar j)) ρ k := fun F H σ Q i z => by
  obtain ⟨h1, h2⟩ := gsx i h
  exact ⟨.ref a, h1, rfl, fs, v, i.w.sub _ _ h2, hl, z _ _ F H i.w .refl im.dq q⟩
theorem w_bmL {to : TE} {ta : TA} {r : V → List V → Hp → VK → Prop} (h : AL.WE Γ to ρ fun x => ∃ ds, x = .list ds ∧ WL Γ ta ρ fun xs => RM Γ "list" r x xs k) : AL.WE Γ (tBM Γ.K "list" r to ta) ρ k := fun F H σ Q i z =>
  h F H σ _ i fun v x F1 H1 w1 s1 p1 ⟨ds, e, h2⟩ => by
    subst e
    have ty : tyV Γ.K "list" v H1 := by
      cases p1 with
      | lst ht ha => exact .inl ⟨rfl, _, SqL.of (w1.sub _ _ ht)⟩
    exact ⟨ty, h2 F1 H1 σ _ (i.next w1 s1) fun vs xs F2 H2 w2 s2 p2 h3 => h3 F2 H2 v vs Q w2 (p1.mono s2.fx) p2 fun w d F3 H3 w3 s3 p3 q => z w d F3 H3 w3 (s1.trans w1 (s2.trans w2 s3)) p3 q⟩
theorem w_bmS {to : TE} {ta : TA} {r : V → List V → Hp → VK → Prop} (h : AL.WE Γ to ρ fun x => ∃ s, x = .str s ∧ WL Γ ta ρ fun xs => RM Γ "str" r x xs k) : AL.WE Γ (tBM Γ.K "str" r to ta) ρ k := fun F H σ Q i z =>
  h F H σ _ i fun v x F1 H1 w1 s1 p1 ⟨ds, e, h2⟩ => by
    subst e
    have ty : tyV Γ.K "str" v H1 := by
      cases p1
      exact rfl
    exact ⟨ty, h2 F1 H1 σ _ (i.next w1 s1) fun vs xs F2 H2 w2 s2 p2 h3 => h3 F2 H2 v vs Q w2 (p1.mono s2.fx) p2 fun w d F3 H3 w3 s3 p3 q => z w d F3 H3 w3 (s1.trans w1 (s2.trans w2 s3)) p3 q⟩
theorem m_index {ds : List D} {d z : D} (j : Nat) (h1 : SeqAt.shaped (.list ds) = true) (h2 : SeqAt.shaped d = true) (hz : ds[j]? = some z) (e : PyData.eqv z d = true) (no : ∀ (m : Nat) (z' : D), m < j → ds[m]? = some z' → PyData.eqv z' d = false) (q : k (.int (j : Int))) :
    RM Γ "list" (rIndexD Γ.K) (.list ds) [d] k := fun F H v vs Q w p1 p2 c => by
  cases p2 with
  | cons p2 p3 =>
    cases p3
    have p1' := p1
    cases p1 with
    | lst ht ha => exact ⟨_, _, d, ds, j, z, rfl, rfl, (p1'.mono w.sub).dp, (p2.mono w.sub).dp, h1, h2, hz, e, no, c _ _ F H w .refl (.int _) q⟩
theorem m_count {ds : List D} {d : D} (h1 : SeqAt.shaped (.list ds) = true) (h2 : SeqAt.shaped d = true) (q : k (.int ((ds.countP fun z => PyData.eqv z d : Nat) : Int))) :
    RM Γ "list" (rCountD Γ.K) (.list ds) [d] k := fun F H v vs Q w p1 p2 c => by
  cases p2 with
  | cons p2 p3 =>
    cases p3
    have p1' := p1
    cases p1 with
    | lst ht ha => exact ⟨_, _, d, ds, rfl, rfl, (p1'.mono w.sub).dp, (p2.mono w.sub).dp, h1, h2, c _ _ F H w .refl (.int _) q⟩
def rSplitS : V → List V → Hp → VK → Prop := fun x xs H Q => ∃ a b, x = .str a ∧ xs = [.str b] ∧ (b.length == 0) = false ∧ a.length + 2 ≤ sizeLine ∧ rNewStrs (Txt.split a b) H Q
theorem mt_splitS {X : Cx} : MtR X "str.split" rSplitS := mt_split
theorem DqAll.strs {K : PySem.W.Frag} : ∀ (ss : List Str), DqAll K F (ss.map V.str) (ss.map PyData.str)
  | [] => .nil
  | s :: r => .cons (.str s) (DqAll.strs r)
theorem DqAll.strs_is {K : PySem.W.Frag} : ∀ (ss : List Str) (vs : List V), DqAll K F vs (ss.map PyData.str) → vs = ss.map V.str
  | [], _, h => by cases h; rfl
  | s :: r, _, h => by
    cases h with
    | cons h1 h2 =>
      cases h1
      rw [DqAll.strs_is r _ h2]
      rfl
theorem m_split {a b : Str} {ys : List Str} (h0 : (b.length == 0) = false) (hz : a.length + 2 ≤ sizeLine) (e : Txt.split a b = ys) (q : k (.list (ys.map PyData.str))) : RM Γ "str" rSplitS (.str a) [.str b] k := fun F H v vs Q w p1 p2 c => by
  cases p1
  cases p2 with
  | cons p2 p3 =>
    cases p3
    cases p2
    subst e
    exact ⟨a, b, rfl, rfl, h0, hz, fun p hp => c _ _ _ _ (w.new hp) (Stp.new w hp) (.lst upd_same (DqAll.strs _)) q⟩
theorem b_inS {x : Str} {ss : List Str} (q : k (.bool (inV (.str x) (ss.map V.str)))) : RB Γ (rIn Γ.K false) (.str x) (.tuple (ss.map PyData.str)) k := fun F H v u Q w p1 p2 c => by
  cases p1
  cases p2 with
  | tup ht ha =>
    have e := DqAll.strs_is ss _ ha
    subst e
    refine ⟨_, _, rfl, .inr (sqT_mono w.sub ht), rfl, ?_, c _ _ F H w .refl (.bl _) q⟩
    rw [List.all_map]
    exact List.all_eq_true.mpr fun x _ => rfl
/-! ### a def that takes the error -/
abbrev ConE := Value → List (Str × V) → (D → Prop) → Prop
def spErr (K : PySem.W.Frag) (c : ConE) : SpE := fun a cls d vs H Q _ => ∃ F dd fs k, Wd none F H ∧ vs = [.ref a] ∧ d = some dd ∧ F dd = some (.xd fs) ∧ c cls fs k ∧ ∀ v e F' H', Wd none F' H' → Stp none F H F' H' → Dq K F' v e → k e → Q v H'
theorem enterE {K : PySem.W.Frag} {a dd : Addr} {fs : List (Str × V)} {F H : Hp} {kk : D → Prop} {Q : VK} {E : XK} {N : List Str} {t : TS} (w : Wd none F H) (hx : F dd = some (.xd fs)) (q : ∀ v e F' H', Wd none F' H' → Stp none F H F' H' → Dq K F' v e → kk e → Q v H') (n : Nat) (hn : 1 + n = N.length)
    (hw : WS ⟨K, none, E0, fun _ => False⟩ t (st0 n [.x (.ref a) dd fs]) (fun _ => kk .none) kk (fun _ => False) (fun _ => False)) : t { nx := fun _ H' => Q .non H', rt := Q } (L2.start N [.ref a]) H :=
  enter (K := K) (z := none) (c := fun as k => as = [.x (.ref a) dd fs] ∧ k = kk) (E := E0) ⟨F, [.x (.ref a) dd fs], kk, w, ⟨⟨rfl, hx⟩, trivial⟩, ⟨rfl, rfl⟩, q⟩ n (fun as k h => by rw [h.1]; exact hn) fun as k h => by rw [h.1, h.2]; exact hw
/-! ### try -/
theorem pe_hasS {X : Cx} {x : Str} {j : Nat} {sp : Sp} {CX : CXT} {E : L2.St → XK} {e : Expr} {es : List Expr} {t : TA} {p pos : Pos} (h : Has X.prog X.w X.K X.mg X.base CX x j [] sp) (hr : Room j X.A) (hx : ∀ σ, PassesAt CX X σ (E σ)) (ha : PA X (e :: es) t) (hg : Gl X x := by rfl) (hdb : (x == ("__debug__" : Str)) = false := by decide)
    (he : starEach (e :: es) X.env = (false, eval e X.env) :: starEach es X.env := by rfl) (hpl : (backTo pos (starEach es X.env)).any (·.1) = false := by rfl) : PE X (.Call (.Name x p) (e :: es) [] pos) (tCallS sp E t) := by
  obtain ⟨f, fd, ps, ds, F, hm, hk, hb, hd⟩ := h
  cases hd
  exact pe_callS F hr hg hm hk hb hx ha hdb he hpl
theorem w_callXT {W : WX} {ta : TA} {c : ConX} (hz : Γ.z = none) (hW : ∀ C dd H' σ, σ.length = ρ.length → Γ.X C dd H' → W C dd σ H') (h : WA Γ ta ρ fun as => c as k Γ.xe) : AL.WE Γ (tCallS (spX Γ.K c) (fun σ c d H => W c d σ H) ta) ρ k := fun F H σ Q i q =>
  h F H σ _ i fun vs as F1 H1 w1 s1 p1 h1 => by
    rw [hz] at w1 s1
    refine ⟨F1, as, k, Γ.xe, w1, p1, h1, fun v d F' H' w s p kd => q v d F' H' (by rw [hz]; exact w) (by rw [hz]; exact s1.trans w1 s) p kd, fun C dd F' H' ex w s o e => hW C dd H' σ i.e.1 (i.x C dd F' H' ex (by rw [hz]; exact w) (by rw [hz]; exact s1.trans w1 s) o e)⟩
theorem w_callXT' {W : WX} {ta : TA} {c : ConX} (hz : Γ.z = none) (hW : ∀ C dd H' σ, σ.length = ρ.length → Γ.X C dd H' → W C dd σ H') (h : WA Γ ta ρ fun as => ∃ k', c as k' Γ.xe ∧ ∀ d, k' d → k d) : AL.WE Γ (tCallS (spX Γ.K c) (fun σ c d H => W c d σ H) ta) ρ k := fun F H σ Q i q =>
  h F H σ _ i fun vs as F1 H1 w1 s1 p1 ⟨k', h1, m⟩ => by
    rw [hz] at w1 s1
    refine ⟨F1, as, k', Γ.xe, w1, p1, h1, fun v d F' H' w s p kd => q v d F' H' (by rw [hz]; exact w) (by rw [hz]; exact s1.trans w1 s) p (m d kd), fun C dd F' H' ex w s o e => hW C dd H' σ i.e.1 (i.x C dd F' H' ex (by rw [hz]; exact w) (by rw [hz]; exact s1.trans w1 s) o e)⟩
/-- a call of a pure def, its promise weakened -/
theorem w_callPM {ta : TA} {c : Con} {E : XK} (h : WA Γ ta ρ fun as => ∃ k', c as k' ∧ ∀ d, k' d → k d) : AL.WE Γ (tCall (spOf Γ.K none c) [] E ta) ρ k := fun F H σ Q i q =>
  h F H σ _ i fun vs as F1 H1 w1 s1 p1 ⟨k', h1, m⟩ => ⟨F1, as ++ [], k', w1.none, p1.app (show VAll Γ.K F1 [] [] from trivial), by rw [List.append_nil]; exact h1, fun v d F' H' w s p kd => q v d F' H' (w1.back w s) (s1.trans w1 s.back) p (m d kd)⟩
abbrev Gam.wx (Γ : Gam) (X : XK) (xe : AExc → Prop) : Gam := ⟨Γ.K, Γ.z, X, xe⟩
theorem SOk.wx {X : XK} {xe : AExc → Prop} (h : SOk Γ F0 H0 F H σ ρ) (x : XGood (Γ.wx X xe) F0 H0) : SOk (Γ.wx X xe) F0 H0 F H σ ρ :=
  ⟨⟨h.i.w, h.i.e, x.next (Γ := Γ.wx X xe) h.i.w h.s⟩, h.w0, x, h.s, ⟨h.o.own, h.o.sep⟩⟩
theorem SOk.unwx {X : XK} {xe : AExc → Prop} (h : SOk (Γ.wx X xe) F0 H0 F H σ ρ) (x : XGood Γ F0 H0) : SOk Γ F0 H0 F H σ ρ :=
  ⟨⟨h.i.w, h.i.e, x.next h.i.w h.s⟩, h.w0, x, h.s, ⟨h.o.own, h.o.sep⟩⟩
theorem s_try {nx bk ct : Rho → Prop} {rt : D → Prop} {tb : WX → TS} {ts : Addr → Value → Option Addr → TS} {i : Nat} {Wout : WX} {c : Value} (xe1 : AExc → Prop) (hi : i < ρ.length)
    (hs : ∀ ex, xe1 ex → PySem.W.exmOne Γ.K (.ref ex.cls) c = some true ∧ ∀ a dd (D' : Ends) (σ' : L2.St) F' H', Wd Γ.z F' H' → F' dd = some (.xd ex.fs) → σ'[i]? = some (some (.ref a)) →
      (∀ v d F2 H2, Wd Γ.z F2 H2 → Stp Γ.z F' H' F2 H2 → Dq Γ.K F2 v d → rt d → D'.rt v H2) → ts a (.ref ex.cls) (some dd) D' σ' H')
    (hb : ∀ (X1 : XK) (W : WX), (∀ C dd H' σ, σ.length = ρ.length → X1 C dd H' → W C dd σ H') → WS (Γ.wx X1 xe1) (tb W) ρ nx rt bk ct) :
    WS Γ (fun D σ H => tb (wAs Γ.K c i ts Wout D) D σ H) ρ nx rt bk ct := fun F0 H0 F H σ D k n b c' r => by
  have x1 : XGood (Γ.wx (fun C dd H' => ∀ σ' : L2.St, σ'.length = ρ.length → wAs Γ.K c i ts Wout D C dd σ' H') xe1) F0 H0 := fun C dd F' H' ex w s o e σ' hl => by
    obtain ⟨rfl, d, rfl, hF⟩ := o
    obtain ⟨e1, e2⟩ := hs ex e
    exact ⟨true, e1, fun _ a na => e2 a d _ _ F' H' w hF (by rw [List.getElem?_set_self (by omega)]) fun v d F2 H2 w2 s2 p q => r v d F2 H2 w2 (s.trans w s2) p q, fun z => nomatch z⟩
  exact hb _ _ (fun C dd H' σ' hl hx => hx σ' hl) F0 H0 F H σ D (k.wx x1) (fun F' H' σ' ρ' f k' q => n F' H' σ' ρ' f (k'.unwx k.x0) q) (fun F' H' σ' ρ' f k' q => b F' H' σ' ρ' f (k'.unwx k.x0) q) (fun F' H' σ' ρ' f k' q => c' F' H' σ' ρ' f (k'.unwx k.x0) q) r
end AL
/-! E3 -/
namespace L2H
open PySem PySem.Spec PyProof.Rows L2
theorem RoomH.units {k : Nat} {A : Around} (r : RoomH k A) : A.units + 64 < cLine := by have := r.un; omega
theorem RoomH.u65 {k : Nat} {A : Around} (r : RoomH k A) : A.units + 65 < cLine := by have := r.un; omega
end L2H
namespace AL
open PySem PySem.Spec PyProof.Rows L2
section
variable {X : Cx} {K : PySem.W.Frag} {o e : Expr} {to : TE} {t : TA} {apos cpos : Pos}
theorem kCnt (hu : X.A.units + 65 < cLine) (ho : PE X o to) (ha : PA X [e] t) (hK : X.K = K := by rfl)
    (h1 : attributeBase o "count" X.env (eval o X.env) = eval o X.env := by rfl)
    (h2 : ((backTo cpos (starEach [e] X.env)).all (fun x => !x.1) && (backToKw cpos (keywordEach [] X.env)).all (fun x => x.1.isSome) && decide ([e].length + ([] : List Keyword).length + (if ([] : List Keyword).isEmpty then 0 else 1) < 30)) = true := by rfl)
    (h3 : (apos.endLine == cpos.line) = true := by rfl) (h4 : starEach [e] X.env = (false, eval e X.env) :: starEach [] X.env := by rfl) (h5 : (backTo cpos (starEach [] X.env)).any (·.1) = false := by rfl) :
    PE X (.Call (.Attribute o "count" apos) [e] [] cpos) (tBM K "list" (rCountD K) to t) := hK ▸ pe_bm PySem.F.plainAttrs_list PySem.F.slot_list_count PySem.F.type_list_count (mt_countD hu) ho ha h1 h2 h3 h4 h5
theorem kIdx (hu : X.A.units + 65 < cLine) (ho : PE X o to) (ha : PA X [e] t) (hK : X.K = K := by rfl)
    (h1 : attributeBase o "index" X.env (eval o X.env) = eval o X.env := by rfl)
    (h2 : ((backTo cpos (starEach [e] X.env)).all (fun x => !x.1) && (backToKw cpos (keywordEach [] X.env)).all (fun x => x.1.isSome) && decide ([e].length + ([] : List Keyword).length + (if ([] : List Keyword).isEmpty then 0 else 1) < 30)) = true := by rfl)
    (h3 : (apos.endLine == cpos.line) = true := by rfl) (h4 : starEach [e] X.env = (false, eval e X.env) :: starEach [] X.env := by rfl) (h5 : (backTo cpos (starEach [] X.env)).any (·.1) = false := by rfl) :
    PE X (.Call (.Attribute o "index" apos) [e] [] cpos) (tBM K "list" (rIndexD K) to t) := hK ▸ pe_bm PySem.F.plainAttrs_list PySem.F.slot_list_index PySem.F.type_list_index (mt_indexD hu) ho ha h1 h2 h3 h4 h5
theorem kSplit (ho : PE X o to) (ha : PA X [e] t) (hK : X.K = K := by rfl)
    (h1 : attributeBase o "split" X.env (eval o X.env) = eval o X.env := by rfl)
    (h2 : ((backTo cpos (starEach [e] X.env)).all (fun x => !x.1) && (backToKw cpos (keywordEach [] X.env)).all (fun x => x.1.isSome) && decide ([e].length + ([] : List Keyword).length + (if ([] : List Keyword).isEmpty then 0 else 1) < 30)) = true := by rfl)
    (h3 : (apos.endLine == cpos.line) = true := by rfl) (h4 : starEach [e] X.env = (false, eval e X.env) :: starEach [] X.env := by rfl) (h5 : (backTo cpos (starEach [] X.env)).any (·.1) = false := by rfl) :
    PE X (.Call (.Attribute o "split" apos) [e] [] cpos) (tBM K "str" rSplitS to t) := hK ▸ pe_bm PySem.F.plainAttrs_str PySem.F.slot_str_split PySem.F.type_str_split mt_splitS ho ha h1 h2 h3 h4 h5
theorem call_isQ {a C dd : Addr} {oe : Obj} (T : EcC K C) (hp : (a, oe) ∈ X.pn) (hz : Zc (.ref C) (some dd) oe) (hf : ∃ z, oe.data = .fields z) (hK : X.K = K := by rfl) : CallR X (.builtin "isinstance") (rIsQ K C a dd) := call_isP T hp hz hf hK
end
/-- what must be said of an error's class: bs tells of each name of xs whether it is it -/
structure ErrF (K : PySem.W.Frag) (cl : Str → Addr) (xs : List Str) (C : Addr) (f : Str) (bs : List Bool) : Prop where
  ec : EcC K C
  is : ∀ i x, xs[i]? = some x → PySem.W.kitOne K (.ref C) (.ref (cl x)) = some (bs.getD i false)
  ve : PySem.W.kitOne K (.ref C) (.type "ValueError") = some true
  no : PySem.W.findIn K (.ref C) f = some none
theorem m_countN {Γ : Gam} {k : D → Prop} {ds : List D} {d : D} (n : Nat) (h1 : SeqAt.shaped (.list ds) = true) (h2 : SeqAt.shaped d = true) (e : ds.countP (fun z => PyData.eqv z d) = n) (q : k (.int (n : Int))) :
    RM Γ "list" (rCountD Γ.K) (.list ds) [d] k := m_count h1 h2 (by rw [e]; exact q)
theorem b_inSb {Γ : Gam} {k : D → Prop} {x : Str} (ss : List Str) (b : Bool) (e : inV (.str x) (ss.map V.str) = b) (q : k (.bool b)) : RB Γ (rIn Γ.K false) (.str x) (.tuple (ss.map PyData.str)) k := b_inS (by rw [e]; exact q)
end AL
/-! H0 -/
namespace K88
open PySem PySem.Spec PyProof.Rows L2 AL
abbrev R : PySem.W.OpenRow := PySem.W.OpenLaw.row PySem.Challenge.rw_mappedout_k88_transforms_and_their_numbe
def names0 : List Str := ["MapError", "BadNumber", "BadSegment", "BadValue", "TooMany", "TooLong", "NoSuch", "Endless", "NoWay", "Near", "BadText", "NotMap", "NothingToUndo", "NothingToRedo", "is_int", "is_tuple", "is_fraction", "within_figures", "power_of_ten", "reduced", "add_f", "sub_f", "mul_f", "div_f", "neg_f", "triple_of", "cross3", "dot3", "sign_of", "is_point"]
def names1 : List Str := ["is_segment", "side_p", "MOST_SEGMENTS", "FEW_SEGMENTS", "MOST_FIGURES", "FEW_FIGURES", "PLACE_FIGURES", "numbers_of", "check_drawing", "check_point", "check_place", "UNIT", "MOST_TRANSFORM", "MOST_PLACE", "det_t", "is_transform", "check_transform", "sum_row", "placed_p", "placed_rows", "chained_t", "inverse_t", "steps_from", "crossed", "transform_t", "placed_point", "placed_drawing", "chained_transform", "inverse_of", "determinant_of"]
def names2 : List Str := ["scale_t", "scale_of", "order_of", "check_three", "transform_of", "_law_stream", "_law_next", "_law_pick", "_law_from", "_law_shuffled", "_law_same", "_law_copy", "_law_error", "_law_gcd", "_law_frac", "_law_add", "_law_sub", "_law_mul", "_law_div", "_law_along", "_law_scatter", "_law_star", "_law_onto", "_law_loop", "_law_sides", "_law_nested", "_law_spiked", "_law_grid", "_law_touching", "_law_case"]
def names3 : List Str := ["_law_rows", "_law_laid", "_law_move", "_law_mixed", "_law_drawing", "_law_sum_of", "_law_image", "_law_placed", "_law_det", "_law_chain", "_law_minus", "_law_back", "_law_some", "_law_alike_rows", "_law_free_rows", "_law_transform", "_law_unit", "_law_great_number", "_law_order", "_law_cycle", "_law_scale", "_law_even_rows", "_law_point", "_law_three", "_law_told", "_law_asked", "_law_no_transform", "_law_refusals", "_law_three_refusals"]
def names : List Str := names0 ++ names1 ++ names2 ++ names3
/-- the method of a class's text -/
def meth (i : Nat) : Stmt := match top i with
  | .ClassDef _ _ _ b _ _ _ _ _ _ _ => b.find? (fun s => match s with | .FunctionDef .. => true | _ => false) |>.getD (.Pass ⟨0, 0, 0, 0⟩)
  | _ => .Pass ⟨0, 0, 0, 0⟩
abbrev dDef (x : Str) (i : Nat) (ds : List He.Dv) : He.DefD := ⟨(x, none), x, x, defArgs (top i), defBody (top i), defScope (top i), ds, []⟩
abbrev dIni (c qn : Str) (i : Nat) : He.DefD := ⟨(c, some "__init__"), "__init__", qn, defArgs (meth i), defBody (meth i), defScope (meth i), [], []⟩
def fn0 : List He.DefD := [dDef "is_int" 17 [.non, .non], dDef "is_tuple" 18 [], dDef "is_fraction" 20 [], dDef "within_figures" 21 [], dDef "power_of_ten" 22 [], dDef "reduced" 23 [], dDef "add_f" 24 [], dDef "sub_f" 25 [], dDef "mul_f" 26 [], dDef "div_f" 27 [], dDef "neg_f" 28 [], dDef "triple_of" 30 [], dDef "cross3" 31 [], dDef "dot3" 32 [], dDef "sign_of" 33 [], dDef "is_point" 35 [], dDef "is_segment" 36 [], dDef "side_p" 37 [], dDef "numbers_of" 44 [], dDef "check_drawing" 45 [.str "drawing"], dDef "check_point" 46 [], dDef "check_place" 47 [.int 300], dDef "det_t" 52 [], dDef "is_transform" 53 [], dDef "check_transform" 54 [.str "transform"]]
def fn1 : List He.DefD := [dDef "sum_row" 55 [], dDef "placed_p" 56 [], dDef "placed_rows" 57 [], dDef "chained_t" 58 [], dDef "inverse_t" 59 [], dDef "steps_from" 60 [], dDef "crossed" 61 [], dDef "transform_t" 62 [], dDef "placed_point" 63 [], dDef "placed_drawing" 64 [], dDef "chained_transform" 65 [], dDef "inverse_of" 66 [], dDef "determinant_of" 67 [], dDef "scale_t" 68 [], dDef "scale_of" 69 [], dDef "order_of" 70 [], dDef "check_three" 71 [], dDef "transform_of" 72 [], dDef "_law_stream" 74 [], dDef "_law_next" 75 [], dDef "_law_pick" 76 [], dDef "_law_from" 77 [], dDef "_law_shuffled" 78 [], dDef "_law_same" 79 [], dDef "_law_copy" 80 []]
def fn2 : List He.DefD := [dDef "_law_error" 81 [], dDef "_law_gcd" 82 [], dDef "_law_frac" 83 [], dDef "_law_add" 84 [], dDef "_law_sub" 85 [], dDef "_law_mul" 86 [], dDef "_law_div" 87 [], dDef "_law_along" 88 [], dDef "_law_scatter" 89 [], dDef "_law_star" 90 [], dDef "_law_onto" 91 [], dDef "_law_loop" 92 [], dDef "_law_sides" 93 [], dDef "_law_nested" 94 [], dDef "_law_spiked" 95 [], dDef "_law_grid" 96 [], dDef "_law_touching" 97 [], dDef "_law_case" 98 [], dDef "_law_rows" 99 [], dDef "_law_laid" 100 [], dDef "_law_move" 101 [], dDef "_law_mixed" 102 [], dDef "_law_drawing" 103 [], dDef "_law_sum_of" 104 [], dDef "_law_image" 105 []]
def fn3 : List He.DefD := [dDef "_law_placed" 106 [], dDef "_law_det" 107 [], dDef "_law_chain" 108 [], dDef "_law_minus" 109 [], dDef "_law_back" 110 [], dDef "_law_some" 111 [], dDef "_law_alike_rows" 112 [], dDef "_law_free_rows" 113 [], dDef "_law_transform" 114 [], dDef "_law_unit" 115 [], dDef "_law_great_number" 116 [], dDef "_law_order" 117 [], dDef "_law_cycle" 118 [], dDef "_law_scale" 119 [], dDef "_law_even_rows" 120 [], dDef "_law_point" 121 [], dDef "_law_three" 122 [], dDef "_law_told" 123 [], dDef "_law_asked" 124 [], dDef "_law_no_transform" 125 [], dDef "_law_refusals" 126 [], dDef "_law_three_refusals" 127 [], dDef "law" 128 [], dIni "BadValue" "BadValue.__init__" 5, dIni "BadSegment" "BadSegment.__init__" 4]
def fn4 : List He.DefD := [dIni "TooMany" "TooMany.__init__" 6, dIni "TooLong" "TooLong.__init__" 7]
def fnA : List He.DefD := fn0 ++ fn1
def fnB : List He.DefD := fn2 ++ fn3 ++ fn4
def fn : List He.DefD := fnA ++ fnB
/-! ### facts of the errors' classes -/
def excB (K : PySem.W.Frag) (C : Addr) : Bool := match K.lookup C with
  | some ⟨.type t, _, .cls cd, sl⟩ => decide (t = "type") && ((match cd.mro with
    | .ref c :: bm => decide (c = C) && PySem.HandSPX.refsVE bm
    | _ => false) && (cd.hasDict && (!cd.hasDel && (match sl.toList with
    | [_, _, _, _, some (.builtin n), _] => decide (n = "ValueError.__new__")
    | _ => false))))
  | _ => false
theorem excB_ok {K : PySem.W.Frag} {C : Addr} (h : excB K C = true) : ∃ nm q N bs bm sn sub ab col dd k0 k1 k2 k3 k5, K.lookup C = some (excClassObj nm q C N bs bm true sn sub ab col dd k0 k1 k2 k3 k5 "ValueError.__new__") ∧ PySem.HandSPX.refsVE bm = true := by
  unfold excB at h
  split at h
  · rename_i t dd cd sl e
    obtain ⟨nm, bs, mro, ns, qn, hdct, sn, sub, ab, col, hdel⟩ := cd
    simp only [Bool.and_eq_true, decide_eq_true_eq] at h
    obtain ⟨rfl, h2, rfl, h4, h5⟩ := h
    split at h2
    · rename_i _ c bm
      simp only [Bool.and_eq_true, decide_eq_true_eq] at h2
      obtain ⟨rfl, h3⟩ := h2
      split at h5
      · rename_i k0 k1 k2 k3 n k5 es
        have en := of_decide_eq_true h5
        subst en
        have hdf : hdel = false := by simpa using h4
        subst hdf
        have es2 : sl = #[k0, k1, k2, k3, some (.builtin "ValueError.__new__"), k5] := by
          obtain ⟨l⟩ := sl
          exact congrArg Array.mk es
        subst es2
        exact ⟨nm, qn, ns, bs, bm, sn, sub, ab, col, dd, k0, k1, k2, k3, k5, e, h3⟩
      · cases h5
    · cases h2
  · cases h
def errL (K : PySem.W.Frag) (C : Addr) (f : Str) (xs : List Str) (bs : List Bool) : List Bool :=
  [excB K C, decide (PySem.W.findIn K (.ref C) "__setattr__" = some (some (.builtin "object.__setattr__"))), decide (PySem.W.subIn K (.ref C) (.type "BaseException") = some true), decide (PySem.W.typeIn K (.ref C) = some (.type "type")), PySem.W.keepIn K (.ref C),
   decide (PySem.W.findIn K (.ref C) f = some none), decide (PySem.W.findIn K (.ref C) "__init__" = some (some (.ref (He.ma K C "__init__")))), decide (PySem.W.typeIn K (.ref (He.ma K C "__init__")) = some (.type "function")),
   (PySem.W.clsIn K C).isSome, decide (PySem.W.findIn K (.ref C) "__getattribute__" = some (some (.builtin "BaseException.__getattribute__"))), decide (PySem.W.findIn K (.ref C) "__getattr__" = some none), PySem.W.hasDictIn K C,
   decide (PySem.W.findIn K (.ref C) "__class__" = some (some (.builtin "object.__class__"))), decide (PySem.W.specialIn K (.builtin "object.__class__") "__get__" = some (some (.builtin "getset_descriptor.__get__"))), decide (PySem.W.takesIn K (.builtin "object.__class__") = some true), decide (PySem.W.mroIn K C (.type "object") = some true),
   decide (PySem.W.kitOne K (.ref C) (.type "ValueError") = some true), decide (PySem.W.exmOne K (.ref C) (.ref (He.ga K "MapError")) = some true), decide (xs.map (fun x => PySem.W.kitOne K (.ref C) (.ref (He.ga K x))) = bs.map some)]
structure ErrA (K : PySem.W.Frag) (C : Addr) (f : Str) (xs : List Str) (bs : List Bool) : Prop where
  ox : OexC K C
  no : PySem.W.findIn K (.ref C) f = some none
  ini : PySem.W.findIn K (.ref C) "__init__" = some (some (.ref (He.ma K C "__init__")))
  ty : PySem.W.typeIn K (.ref (He.ma K C "__init__")) = some (.type "function")
  exm : PySem.W.exmOne K (.ref C) (.ref (He.ga K "MapError")) = some true
  ef : ErrF K (He.ga K) xs C f bs
theorem errA_ok {K : PySem.W.Frag} {C : Addr} {f : Str} {xs : List Str} {bs : List Bool} (hb : xs.length = bs.length) (h : (errL K C f xs bs).all id = true) : ErrA K C f xs bs := by
  simp only [errL, List.all_cons, List.all_nil, id, Bool.and_eq_true, decide_eq_true_eq] at h
  obtain ⟨h1, h2, h3, h4, h5, h6, h7, h8, h9, h10, h11, h12, h13, h14, h15, h16, h17, h18, h19, _⟩ := h
  refine ⟨⟨excB_ok h1, h2, h3, h4, h5⟩, h6, h7, h8, h18, ⟨⟨h9, h10, h11, h3, h12, h13, h14, h15, h16⟩, fun i x hx => ?_, h17, h6⟩⟩
  have e := congrArg (fun l => l[i]?) h19
  have hi := (List.getElem?_eq_some_iff.mp hx).1
  simp only [List.getElem?_map, hx] at e
  rw [List.getElem?_eq_getElem (hb ▸ hi)] at e
  have e2 : PySem.W.kitOne K (.ref C) (.ref (He.ga K x)) = some (bs[i]'(hb ▸ hi)) := by simpa using e
  rw [e2, List.getD_eq_getElem?_getD, List.getElem?_eq_getElem (hb ▸ hi)]
  rfl
/-! ### data that stands in the written part -/
mutual
def dqB (K : PySem.W.Frag) : Value → D → Bool
  | .ref a, .tuple ds => (match K.lookup a with
    | some ⟨.type c, _, .seq its _, _⟩ => decide (c = "tuple") && (decide (its.size ≤ sizeLine) && dqBs K its.toList ds)
    | _ => false)
  | .int i _, .int j => decide (i = j)
  | _, _ => false
def dqBs (K : PySem.W.Frag) : List Value → List D → Bool
  | [], [] => true
  | v :: vs, d :: ds => dqB K v d && dqBs K vs ds
  | _, _ => false
end
mutual
theorem dqB_ok {K : PySem.W.Frag} (F : Hp) : ∀ (d : D) (u : Value), dqB K u d = true → ∃ v, RelV v u ∧ Dq K F v d
  | .tuple ds, .ref a, h => by
    unfold dqB at h
    split at h
    · rename_i c dd its n sl e
      simp only [Bool.and_eq_true, decide_eq_true_eq] at h
      obtain ⟨rfl, h2, h3⟩ := h
      obtain ⟨vs, hv, hd⟩ := dqBs_ok F ds _ h3
      exact ⟨.ref a, rfl, .tup (.inr ⟨_, its, n, e, rfl, rfl, h2, hv⟩) hd⟩
    · cases h
  | .int j, .int i t, h => by
    unfold dqB at h
    have e := of_decide_eq_true h
    subst e
    exact ⟨.int i, ⟨t, rfl⟩, .int i⟩
  | .tuple _, .none, h => by simp [dqB] at h
  | .tuple _, .bool _, h => by simp [dqB] at h
  | .tuple _, .int _ _, h => by simp [dqB] at h
  | .tuple _, .str _ _, h => by simp [dqB] at h
  | .tuple _, .float _ _, h => by simp [dqB] at h
  | .tuple _, .bytes _ _, h => by simp [dqB] at h
  | .tuple _, .type _, h => by simp [dqB] at h
  | .tuple _, .builtin _, h => by simp [dqB] at h
  | .int _, .none, h => by simp [dqB] at h
  | .int _, .bool _, h => by simp [dqB] at h
  | .int _, .ref _, h => by simp [dqB] at h
  | .int _, .str _ _, h => by simp [dqB] at h
  | .int _, .float _ _, h => by simp [dqB] at h
  | .int _, .bytes _ _, h => by simp [dqB] at h
  | .int _, .type _, h => by simp [dqB] at h
  | .int _, .builtin _, h => by simp [dqB] at h
  | .none, u, h => by cases u <;> simp [dqB] at h
  | .bool _, u, h => by cases u <;> simp [dqB] at h
  | .str _, u, h => by cases u <;> simp [dqB] at h
  | .list _, u, h => by cases u <;> simp [dqB] at h
  | .dict _, u, h => by cases u <;> simp [dqB] at h
theorem dqBs_ok {K : PySem.W.Frag} (F : Hp) : ∀ (ds : List D) (us : List Value), dqBs K us ds = true → ∃ vs, Vals vs us ∧ DqAll K F vs ds
  | [], [], _ => ⟨[], .nil, .nil⟩
  | [], _ :: _, h => by simp [dqBs] at h
  | _ :: _, [], h => by simp [dqBs] at h
  | d :: ds, u :: us, h => by
    unfold dqBs at h
    obtain ⟨h1, h2⟩ := Bool.and_eq_true_iff.mp h
    obtain ⟨v, r, q⟩ := dqB_ok F d u h1
    obtain ⟨vs, rs, qs⟩ := dqBs_ok F ds us h2
    exact ⟨v :: vs, .cons r rs, .cons q qs⟩
end
/-! ### the Hook -/
def asM (g : Addr → Option Obj) : List Addr :=
  let st := fun (l : List Addr) => l.flatMap fun a => match g a with
    | some o => He.refsD o
    | none => []
  let sd := fun (l : List Addr) => l.flatMap fun a => match g a with
    | some ⟨_, _, .dict es _, _⟩ => es.toList.flatMap fun e => He.refV e.val
    | _ => []
  let l1 := st [mainGlobals]
  let l2 := st l1
  let l3 := sd l2
  mainGlobals :: (l1 ++ (l2 ++ (l3 ++ st l3)))
def obsM (fa : List He.Fa) (fn : List He.DefD) (ex : PySem.W.Frag → Bool) (K : PySem.W.Frag) : He.AlD := (((fa.all fun f => f.ok K) && fn.all fun d => d.ok K) && ex K, fn.map fun d => He.fnW K d.at_)
def obsMG (fa : List He.Fa) (fn : List He.DefD) (ex : PySem.W.Frag → Bool) (g : Addr → Option Obj) : He.AlD := obsM fa fn ex (He.frG g (asM g))
def hookM (fa : List He.Fa) (fn : List He.DefD) (ex : PySem.W.Frag → Bool) : PySem.W.Hook where
  α := He.AlD
  obs := fun s => obsMG fa fn ex s.heap.get?
  val := fun _ => He.valD fn
  says := fun _ h => ∃ K : PySem.W.Frag, K.In h ∧ He.SaysD fa fn K ∧ ex K = true
  of := fun _ _ e => ⟨_, He.frG_in, by
    have e1 := congrArg (fun z : He.AlD => z.1) e
    have e2 := congrArg (fun z : He.AlD => z.2) e
    obtain ⟨h1, h2⟩ := Bool.and_eq_true_iff.mp (show (_ && _) = true from e1)
    exact ⟨Prod.ext h1 e2, h2⟩⟩
  keeps := fun _ _ _ ⟨K, hK, c⟩ k => ⟨K, PySem.W.Frag.In.keeps hK k, c⟩
theorem obsMG_eq {fa : List He.Fa} {fn : List He.DefD} {ex : PySem.W.Frag → Bool} {g : Addr → Option Obj} {s : Shared} (h : ∀ a, g a = s.heap.get? a) : obsMG fa fn ex g = (hookM fa fn ex).obs s := by
  have e : g = s.heap.get? := funext h
  rw [e] <;> rfl
def ecl : List Str := ["BadNumber", "BadSegment", "BadValue", "TooMany", "TooLong", "NoSuch", "Endless", "NoWay", "Near", "BadText", "NotMap", "NothingToUndo", "NothingToRedo", "MapError"]
def fa : List He.Fa := [.glo "law", .free "len", .free "range", .free "isinstance", .free "tuple", .free "list", .free "bool", .free "int", .free "str", .free "abs", .free "all", .free "min", .free "ValueError", .int "MOST_TRANSFORM" 150, .int "MOST_PLACE" 300, .int "MOST_FIGURES" 150, .int "MOST_SEGMENTS" 200, .int "FEW_FIGURES" 9, .int "FEW_SEGMENTS" 40, .glo "BadNumber", .glo "BadSegment", .glo "BadValue", .glo "TooMany", .glo "TooLong", .glo "NoSuch", .glo "Endless", .glo "NoWay", .glo "Near", .glo "BadText", .glo "NotMap", .glo "NothingToUndo", .glo "NothingToRedo", .glo "MapError", .glo "is_int", .glo "is_tuple", .glo "is_fraction", .glo "within_figures", .glo "power_of_ten", .glo "reduced", .glo "add_f", .glo "sub_f", .glo "mul_f", .glo "div_f", .glo "neg_f", .glo "triple_of", .glo "cross3", .glo "dot3", .glo "sign_of", .glo "is_point", .glo "is_segment", .glo "side_p", .glo "numbers_of", .glo "check_drawing", .glo "check_point", .glo "check_place", .glo "det_t", .glo "is_transform", .glo "check_transform", .glo "sum_row", .glo "placed_p", .glo "placed_rows", .glo "chained_t", .glo "inverse_t", .glo "steps_from", .glo "crossed", .glo "transform_t", .glo "placed_point", .glo "placed_drawing", .glo "chained_transform", .glo "inverse_of", .glo "determinant_of", .glo "scale_t", .glo "scale_of", .glo "order_of", .glo "check_three", .glo "transform_of", .glo "_law_stream", .glo "_law_next", .glo "_law_pick", .glo "_law_from", .glo "_law_shuffled", .glo "_law_same", .glo "_law_copy", .glo "_law_error", .glo "_law_gcd", .glo "_law_frac", .glo "_law_add", .glo "_law_sub", .glo "_law_mul", .glo "_law_div", .glo "_law_along", .glo "_law_scatter", .glo "_law_star", .glo "_law_onto", .glo "_law_loop", .glo "_law_sides", .glo "_law_nested", .glo "_law_spiked", .glo "_law_grid", .glo "_law_touching", .glo "_law_case", .glo "_law_rows", .glo "_law_laid", .glo "_law_move", .glo "_law_mixed", .glo "_law_drawing", .glo "_law_sum_of", .glo "_law_image", .glo "_law_placed", .glo "_law_det", .glo "_law_chain", .glo "_law_minus", .glo "_law_back", .glo "_law_some", .glo "_law_alike_rows", .glo "_law_free_rows", .glo "_law_transform", .glo "_law_unit", .glo "_law_great_number", .glo "_law_order", .glo "_law_cycle", .glo "_law_scale", .glo "_law_even_rows", .glo "_law_point", .glo "_law_three", .glo "_law_told", .glo "_law_asked", .glo "_law_no_transform", .glo "_law_refusals", .glo "_law_three_refusals", .glo "law", .glo "UNIT"]
def fr (a b : Int) : D := .tuple [.int a, .int b]
def ex (K : PySem.W.Frag) : Bool := decide (PySem.W.nsIn K mainGlobals "gcd" = some (some (.builtin "math.gcd"))) && (dqB K (.ref (He.ga K "UNIT")) (.tuple [fr 1 1, fr 0 1, fr 0 1, fr 1 1, fr 0 1, fr 0 1]) && ((errL K (He.ga K "BadValue") "name" ecl [false, false, true, false, false, false, false, false, false, false, false, false, false, true]).all id && (errL K (He.ga K "BadSegment") "index" ecl [false, true, false, false, false, false, false, false, false, false, false, false, false, true]).all id && (errL K (He.ga K "TooMany") "word" ecl [false, false, false, true, false, false, false, false, false, false, false, false, false, true]).all id && (errL K (He.ga K "TooLong") "word" ecl [false, false, false, false, true, false, false, false, false, false, false, false, false, true]).all id))
abbrev hk : PySem.W.Hook := hookM fa fn ex
def ob (s : PySem.W.SharedT) : He.AlD := obsMG fa fn ex (HandSHeadRun.getT s)
theorem ob_eq (s : PySem.W.SharedT) : ob s = hk.obs s.abs := obsMG_eq (HandSHeadRun.getT_eq s)
abbrev qv : Program := PySem.W.view R.prog [0, 128]
end K88
/-! P1 -/
namespace K88
open PySem PySem.Spec PyProof.Rows L2 AL
theorem run1 (w : World) : (HandSHeadRun.wholeF (fun p => HandSHeadRun.stepQ (HandSHeadRun.denQ HandSHeadRun.tabQ) p w) HandSHeadRun.fenceQ 12000 R.prog).map (fun x => HandSHeadRun.looksF R.prog x.1.heap x.2.abs) = some true := by
  kernel_rfl
end K88
/-! P2 -/
namespace K88
open PySem PySem.Spec PyProof.Rows L2 AL
theorem run2 (w : World) : (HandSHeadRun.wholeF (fun p => HandSHeadRun.stepQ (HandSHeadRun.denQ HandSHeadRun.tabQ) p w) HandSHeadRun.fenceQ 12000 R.prog).map (fun x => HandSHeadRun.seenQ qv names (PySem.importedModules R.prog.main.body) (fun s => PySem.W.xlAt qv [] s && PySem.W.recOk R.toRowW.records s) x.2.abs) = some (PySem.W.openGood qv names) := by
  kernel_rfl
end K88
/-! P3 -/
namespace K88
open PySem PySem.Spec PyProof.Rows L2 AL
theorem run3 (w : World) : (HandSHeadRun.wholeF (fun p => HandSHeadRun.stepQ (HandSHeadRun.denQ HandSHeadRun.tabQ) p w) HandSHeadRun.fenceQ 12000 R.prog).map (fun x => ((fun K : PySem.W.Frag => (fa.all fun f => f.ok K) && ex K) (He.frG (HandSHeadRun.getT x.2) (asM (HandSHeadRun.getT x.2))))) = some true := by
  kernel_rfl
end K88
/-! P4 -/
namespace K88
open PySem PySem.Spec PyProof.Rows L2 AL
theorem run4 (w : World) : (HandSHeadRun.wholeF (fun p => HandSHeadRun.stepQ (HandSHeadRun.denQ HandSHeadRun.tabQ) p w) HandSHeadRun.fenceQ 12000 R.prog).map (fun x => ((fun K : PySem.W.Frag => fnA.all fun d => d.ok K) (He.frG (HandSHeadRun.getT x.2) (asM (HandSHeadRun.getT x.2))))) = some true := by
  kernel_rfl
end K88
/-! P5 -/
namespace K88
open PySem PySem.Spec PyProof.Rows L2 AL
theorem run5 (w : World) : (HandSHeadRun.wholeF (fun p => HandSHeadRun.stepQ (HandSHeadRun.denQ HandSHeadRun.tabQ) p w) HandSHeadRun.fenceQ 12000 R.prog).map (fun x => ((fun K : PySem.W.Frag => fnB.all fun d => d.ok K) (He.frG (HandSHeadRun.getT x.2) (asM (HandSHeadRun.getT x.2))))) = some true := by
  kernel_rfl
end K88
/-! P6 -/
namespace K88
open PySem PySem.Spec PyProof.Rows L2 AL
theorem run6 (w : World) : (HandSHeadRun.wholeF (fun p => HandSHeadRun.stepQ (HandSHeadRun.denQ HandSHeadRun.tabQ) p w) HandSHeadRun.fenceQ 12000 R.prog).map (fun x => ((fun K : PySem.W.Frag => fn.map fun d => He.fnW K d.at_) (He.frG (HandSHeadRun.getT x.2) (asM (HandSHeadRun.getT x.2))))) = some (fn.map He.DefD.val) := by
  kernel_rfl
end K88
/-! H1 -/
namespace K88
open PySem PySem.Spec PyProof.Rows L2 AL
theorem map3 {α β γ δ : Type} {o : Option α} {f : α → β} {g : α → γ} {h : α → δ} {x : β} {y : γ} {z : δ} (h1 : o.map f = some x) (h2 : o.map g = some y) (h3 : o.map h = some z) : o.map (fun a => (f a, g a, h a)) = some (x, y, z) := by
  cases o with
  | none => cases h1
  | some a =>
    have e1 := Option.some.inj h1
    have e2 := Option.some.inj h2
    have e3 := Option.some.inj h3
    show some (f a, g a, h a) = _
    rw [e1, e2, e3]
theorem map4 {α : Type} {o : Option α} {g : α → PySem.W.Frag} (h3 : o.map (fun x => (fun K : PySem.W.Frag => (fa.all fun f => f.ok K) && ex K) (g x)) = some true) (h4 : o.map (fun x => (fun K : PySem.W.Frag => fnA.all fun d => d.ok K) (g x)) = some true) (h5 : o.map (fun x => (fun K : PySem.W.Frag => fnB.all fun d => d.ok K) (g x)) = some true) (h6 : o.map (fun x => (fun K : PySem.W.Frag => fn.map fun d => He.fnW K d.at_) (g x)) = some (fn.map He.DefD.val)) :
    o.map (fun x => obsM fa fn ex (g x)) = some (He.valD fn) := by
  cases o with
  | none => cases h3
  | some a =>
    have e3 : ((fa.all fun f => f.ok (g a)) && ex (g a)) = true := Option.some.inj h3
    have e4 : (fnA.all fun d => d.ok (g a)) = true := Option.some.inj h4
    have e5 : (fnB.all fun d => d.ok (g a)) = true := Option.some.inj h5
    have e6 : (fn.map fun d => He.fnW (g a) d.at_) = fn.map He.DefD.val := Option.some.inj h6
    obtain ⟨e1, e2⟩ := Bool.and_eq_true_iff.mp e3
    have e7 : (fn.all fun d => d.ok (g a)) = true := by
      show ((fnA ++ fnB).all fun d => d.ok (g a)) = true
      rw [List.all_append, e4, e5]
      rfl
    show some ((((fa.all fun f => f.ok (g a)) && fn.all fun d => d.ok (g a)) && ex (g a), fn.map fun d => He.fnW (g a) d.at_) : He.AlD) = some (true, fn.map He.DefD.val)
    rw [e1, e2, e7, e6]
    rfl
theorem runAll (w : World) : HandSHeadRun.RunEqI R qv hk ob 12000 names w := map3 (run1 w) (run2 w) (map4 (run3 w) (run4 w) (run5 w) (run6 w))
end K88
section
open PySem PySem.W PySem.Calls PyProof.Rows
set_option maxRecDepth 100000 in
set_option maxHeartbeats 0 in
theorem K88.pre (hc : WalkO K88.qv K88.names (XL K88.qv []) K88.hk.says (OpenLaw.row PySem.Challenge.rw_mappedout_k88_transforms_and_their_numbe).toRowW (HandSHeadRun.topDef (OpenLaw.row PySem.Challenge.rw_mappedout_k88_transforms_and_their_numbe).prog 128) [] (fun f vs => PySem.call f vs)) : PySem.Challenge.rw_mappedout_k88_transforms_and_their_numbe.Holds := by
  w_on; o_law
  refine HandSHeadRun.head_imp (r := OpenLaw.row PySem.Challenge.rw_mappedout_k88_transforms_and_their_numbe) (q := K88.qv) (H := K88.hk) (ob := K88.ob) (M := 12000) (loose := K88.names) (d := HandSHeadRun.topDef (OpenLaw.row PySem.Challenge.rw_mappedout_k88_transforms_and_their_numbe).prog 128) (kwd := []) K88.ob_eq
    K88.runAll (by kernel_rfl) (by kernel_rfl) (by kernel_rfl) (by rfl) (by first | assumption | decide +kernel) (by decide +kernel) ⟨rfl, rfl, rfl, rfl, rfl, by decide +kernel⟩ ?hw hc
  case hw => w_witness2
end
/-! T1 -/
namespace K88
open PySem PySem.Spec PyProof.Rows L2 AL
local macro_rules | `(tactic| walk_at "bd") => `(tactic| first
  | assumption
  | (apply Sz.n; assumption)
  | (apply Sz.d; assumption)
  | ((with_reducible apply lt_mul); (case h1 => walk_at "bd"); (case h2 => walk_at "bd"))
  | ((with_reducible apply lt_addx); (case h1 => walk_at "bd"); (case h2 => walk_at "bd"))
  | ((with_reducible apply lt_subx); (case h1 => walk_at "bd"); (case h2 => walk_at "bd"))
  | ((with_reducible apply lt_neg); (case h => walk_at "bd")))
local macro_rules | `(tactic| walk_at "nz") => `(tactic| first
  | assumption
  | exact dnz _
  | ((with_reducible apply inz); (case h1 => walk_at "nz"); (case h2 => walk_at "nz")))
local macro_rules | `(tactic| walk_at "w") => `(tactic| repeat (first
  | with_reducible apply w_int
  | ((with_reducible apply w_var); (case h => exact rfl))
  | with_reducible apply wl_cons
  | with_reducible apply wl_nil
  | ((with_reducible refine And.intro (Nat.le_of_ble_eq_true ?hlen) ?_); (case hlen => exact rfl))
  | with_reducible apply w_tup
  | with_reducible apply w_op
  | with_reducible apply s_seq
  | with_reducible apply wa_cons
  | with_reducible apply wa_nil
  | with_reducible apply ru_i
  | with_reducible apply w_un
  | with_reducible apply s_asg
  | with_reducible apply w_call0
  | with_reducible apply w_callZ
  | with_reducible apply b_addI
  | ((with_reducible apply rb_ixT); (case e => exact rfl))
  | ((with_reducible apply rb_ixL); (case e => exact rfl))
  | with_reducible apply w_str
  | with_reducible apply w_sl
  | with_reducible apply o_none
  | with_reducible apply o_some
  | with_reducible apply sG_T
  | with_reducible apply sG_L
  | ((with_reducible apply s_app); (case e => exact rfl))
  | with_reducible apply w_if
  | with_reducible apply p_if
  | with_reducible apply t_test
  | with_reducible apply b_eqI
  | with_reducible apply s_next
  | with_reducible apply p_ret
  | ((with_reducible apply b_mulI); (case hc => (apply mulx; (case h1 => walk_at "bd"); (case h2 => walk_at "bd"); (case h => omega))))
  | with_reducible apply b_sub
  | with_reducible apply w_isT
  | with_reducible apply w_isL
  | with_reducible apply w_isI
  | with_reducible apply w_isB
  | with_reducible apply w_isS
  | with_reducible apply w_isN
  | with_reducible apply w_notN
  | with_reducible apply w_or
  | with_reducible apply w_and
  | with_reducible apply w_not
  | with_reducible apply w_chain
  | with_reducible apply w_cb
  | with_reducible apply t_or
  | with_reducible apply t_and
  | with_reducible apply t_not
  | with_reducible apply t_yes
  | ((with_reducible apply b_addT); (case hz => exact Nat.le_of_ble_eq_true rfl))
  | ((with_reducible apply b_addL); (case hz => exact Nat.le_of_ble_eq_true rfl))
  | with_reducible apply b_neI
  | with_reducible apply b_eqS
  | with_reducible apply b_eqB
  | with_reducible apply b_neB
  | with_reducible apply w_bl
  | with_reducible apply w_non
  | with_reducible apply t_B
  | with_reducible apply m_lst
  | with_reducible apply m_cat
  | with_reducible apply m_list
  | with_reducible apply w_lcLU
  | with_reducible apply w_lcTU
  | with_reducible apply s_forTU
  | with_reducible apply s_forLU
  | (with_reducible apply lcU_nil)
  | (with_reducible apply unr_nil)
  | with_reducible apply unr_one
  | ((with_reducible show LcU _ _ _ _ _ _ _ _ _); (refine lcU_one rfl (Nat.lt_of_succ_le (Nat.le_of_ble_eq_true rfl)) ?_))
  | ((with_reducible show (_ = true → _) ∧ (_ = false → _)); (first | refine ybt rfl ?_ | refine ybf rfl ?_))
  | ((with_reducible show (_ = false → _) ∧ (_ = true → _)); (first | refine obt rfl ?_ | refine obf rfl ?_))
  | with_reducible apply yt
  | with_reducible apply yf
  | with_reducible apply fy
  | with_reducible apply ft
  | ((with_reducible apply f_frz); (case e => exact rfl))
  | with_reducible apply s_asgG
  | (refine Exists.intro _ (And.intro (g_lst (by repeat (first | exact gs_nil | apply gs_one)) rfl) ?_))
  | (refine Exists.intro _ (And.intro (g_tup (by repeat (first | exact gs_nil | apply gs_one)) rfl) ?_))
  | with_reducible apply c_lenL
  | with_reducible apply c_lenT
  | with_reducible apply c_listL
  | with_reducible apply c_listT
  | with_reducible apply c_tupL
  | with_reducible apply c_abs
  | with_reducible apply c_int
  | with_reducible apply c_min
  | with_reducible apply rc_gcd
  | with_reducible apply rb_b
  | (refine And.intro (Nat.lt_of_succ_le (Nat.le_of_ble_eq_true rfl)) ?_)
  | with_reducible refine Exists.intro _ (And.intro rfl ?_)
  | refine And.intro (Nat.le_of_ble_eq_true rfl) ?_
  ))
variable {P : Program} {w : World} {K : PySem.W.Frag} {mg : Str → Option Value} {base : Heap}
abbrev n_reduced : List Str := ["n", "d", "common"]
abbrev s_reduced : Stmt := top 23
theorem sc_reduced : FnScope ["n", "d", "common"] ["n", "d"] (defScope s_reduced) := ⟨rfl, rfl, rfl, by decide +kernel, rfl, by decide +kernel, by decide +kernel⟩
theorem h_reduced (B : Bl mg) (d : DefAt K mg "reduced" s_reduced []) : Has P w K mg base CX0 "reduced" 1 [] (spOf K none (c_reduced)) := by
  refine d.pure sc_reduced (fun _ _ _ _ _ _ us hl => match us, hl with | [_, _], _ => rfl) 1 rfl (fun as k ⟨_, _, e, _⟩ => by rw [e]; rfl) fun f cdv A outer s H E hr => ⟨_, (pss_cons (ps_set (i := 2) sc_reduced.nd rfl (Or.inl rfl) (pe_callBfun cr_gcd (by rfl) B.gcd (pa_cons (pv 0) (pa_cons (pv 1) pa_nil))))
      (pss_cons (ps_if (pt_cmpR op_lt (pv 1) pe_int (nomark _)) (pss_one (ps_set (i := 2) sc_reduced.nd rfl (Or.inl rfl) (pe_un un_neg (pv 2)))) pss_nil)
      (pss_one (ps_ret (pe_tup (pa_cons (pe_op op_fdivX (pv 0) (pv 2)) (pa_cons (pe_op op_fdivX (pv 1) (pv 2)) pa_nil))))))), fun as k hc => ?_⟩
  try dsimp only [cxOf]
  clear hr E H s outer A cdv f d B
  obtain ⟨n, d, rfl, hd, hb, q⟩ := hc
  simp only [st0, List.map_cons, List.map_nil, List.replicate, List.cons_append, List.nil_append]
  walk_at "w"
  have h1 := gcd_pos (n := n) hd
  have h2 := gcd_lt (n := n) hd hb
  obtain ⟨e1, e2⟩ := red_is (n := n) hd
  refine yn (fun h => ?_) (fun h => ?_)
  · rw [if_pos h] at e1 e2
    walk_at "w"
    refine rb_c (divx (b := 9000) (by omega) (by omega) (by decide) (by decide)) ?_
    walk_at "w"
    refine rb_c (divx (b := 9000) (by omega) (by omega) (by decide) (by decide)) ?_
    walk_at "w"
    rw [e1, e2]
    exact q
  · rw [if_neg h] at e1 e2
    walk_at "w"
    refine rb_c (divx (b := 9000) (by omega) (by omega) (by decide) (by decide)) ?_
    walk_at "w"
    refine rb_c (divx (b := 9000) (by omega) (by omega) (by decide) (by decide)) ?_
    walk_at "w"
    rw [e1, e2]
    exact q
abbrev n_add_f : List Str := ["a", "b"]
abbrev s_add_f : Stmt := top 24
theorem sc_add_f : FnScope ["a", "b"] ["a", "b"] (defScope s_add_f) := ⟨rfl, rfl, rfl, by decide +kernel, rfl, by decide +kernel, by decide +kernel⟩
theorem h_add_f (B : Bl mg) (d : DefAt K mg "add_f" s_add_f []) (h_reduced : Has P w K mg base CX0 "reduced" 1 [] (spOf K none (c_reduced))) : Has P w K mg base CX0 "add_f" 2 [] (spOf K none (c_add)) := by
  refine d.pure sc_add_f (fun _ _ _ _ _ _ us hl => match us, hl with | [_, _], _ => rfl) 0 rfl (fun as k ⟨_, _, _, _, e, _⟩ => by rw [e]; rfl) fun f cdv A outer s H E hr => ⟨_, (pss_one (ps_ret (pe_has h_reduced (hr.mono (by decide)) pass0 (pa_cons (pe_op (kAdd (K := K)) (pe_op op_mulG (pe_ix (kIx (K := K)) (pv 0) pe_int (fun _ _ => rfl)) (pe_ix (kIx (K := K)) (pv 1) pe_int (fun _ _ => rfl))) (pe_op op_mulG (pe_ix (kIx (K := K)) (pv 1) pe_int (fun _ _ => rfl)) (pe_ix (kIx (K := K)) (pv 0) pe_int (fun _ _ => rfl)))) (pa_cons (pe_op op_mulG (pe_ix (kIx (K := K)) (pv 0) pe_int (fun _ _ => rfl)) (pe_ix (kIx (K := K)) (pv 1) pe_int (fun _ _ => rfl))) pa_nil))))), fun as k hc => ?_⟩
  try dsimp only [cxOf]
  clear hr E H s outer A cdv f d B
  obtain ⟨x, y, a, b, rfl, hx, hy, hl, h0, q⟩ := hc
  simp only [st0, List.map_cons, List.map_nil, List.replicate, List.cons_append, List.nil_append]
  walk_at "w"
  refine ⟨_, _, rfl, (by walk_at "nz"), lt_ltx (by walk_at "bd") (by omega), ?_⟩
  rw [add_is]
  exact q
abbrev n_sub_f : List Str := ["a", "b"]
abbrev s_sub_f : Stmt := top 25
theorem sc_sub_f : FnScope ["a", "b"] ["a", "b"] (defScope s_sub_f) := ⟨rfl, rfl, rfl, by decide +kernel, rfl, by decide +kernel, by decide +kernel⟩
theorem h_sub_f (B : Bl mg) (d : DefAt K mg "sub_f" s_sub_f []) (h_reduced : Has P w K mg base CX0 "reduced" 1 [] (spOf K none (c_reduced))) : Has P w K mg base CX0 "sub_f" 2 [] (spOf K none (c_sub)) := by
  refine d.pure sc_sub_f (fun _ _ _ _ _ _ us hl => match us, hl with | [_, _], _ => rfl) 0 rfl (fun as k ⟨_, _, _, _, e, _⟩ => by rw [e]; rfl) fun f cdv A outer s H E hr => ⟨_, (pss_one (ps_ret (pe_has h_reduced (hr.mono (by decide)) pass0 (pa_cons (pe_op op_sub (pe_op op_mulG (pe_ix (kIx (K := K)) (pv 0) pe_int (fun _ _ => rfl)) (pe_ix (kIx (K := K)) (pv 1) pe_int (fun _ _ => rfl))) (pe_op op_mulG (pe_ix (kIx (K := K)) (pv 1) pe_int (fun _ _ => rfl)) (pe_ix (kIx (K := K)) (pv 0) pe_int (fun _ _ => rfl)))) (pa_cons (pe_op op_mulG (pe_ix (kIx (K := K)) (pv 0) pe_int (fun _ _ => rfl)) (pe_ix (kIx (K := K)) (pv 1) pe_int (fun _ _ => rfl))) pa_nil))))), fun as k hc => ?_⟩
  try dsimp only [cxOf]
  clear hr E H s outer A cdv f d B
  obtain ⟨x, y, a, b, rfl, hx, hy, hl, h0, q⟩ := hc
  simp only [st0, List.map_cons, List.map_nil, List.replicate, List.cons_append, List.nil_append]
  walk_at "w"
  refine ⟨_, _, rfl, (by walk_at "nz"), lt_ltx (by walk_at "bd") (by omega), ?_⟩
  rw [sub_is]
  exact q
abbrev n_mul_f : List Str := ["a", "b"]
abbrev s_mul_f : Stmt := top 26
theorem sc_mul_f : FnScope ["a", "b"] ["a", "b"] (defScope s_mul_f) := ⟨rfl, rfl, rfl, by decide +kernel, rfl, by decide +kernel, by decide +kernel⟩
theorem h_mul_f (B : Bl mg) (d : DefAt K mg "mul_f" s_mul_f []) (h_reduced : Has P w K mg base CX0 "reduced" 1 [] (spOf K none (c_reduced))) : Has P w K mg base CX0 "mul_f" 2 [] (spOf K none (c_mul)) := by
  refine d.pure sc_mul_f (fun _ _ _ _ _ _ us hl => match us, hl with | [_, _], _ => rfl) 0 rfl (fun as k ⟨_, _, _, _, e, _⟩ => by rw [e]; rfl) fun f cdv A outer s H E hr => ⟨_, (pss_one (ps_ret (pe_has h_reduced (hr.mono (by decide)) pass0 (pa_cons (pe_op op_mulG (pe_ix (kIx (K := K)) (pv 0) pe_int (fun _ _ => rfl)) (pe_ix (kIx (K := K)) (pv 1) pe_int (fun _ _ => rfl))) (pa_cons (pe_op op_mulG (pe_ix (kIx (K := K)) (pv 0) pe_int (fun _ _ => rfl)) (pe_ix (kIx (K := K)) (pv 1) pe_int (fun _ _ => rfl))) pa_nil))))), fun as k hc => ?_⟩
  try dsimp only [cxOf]
  clear hr E H s outer A cdv f d B
  obtain ⟨x, y, a, b, rfl, hx, hy, hl, h0, q⟩ := hc
  simp only [st0, List.map_cons, List.map_nil, List.replicate, List.cons_append, List.nil_append]
  walk_at "w"
  refine ⟨_, _, rfl, (by walk_at "nz"), lt_ltx (by walk_at "bd") (by omega), ?_⟩
  rw [mul_is]
  exact q
abbrev n_div_f : List Str := ["a", "b"]
abbrev s_div_f : Stmt := top 27
theorem sc_div_f : FnScope ["a", "b"] ["a", "b"] (defScope s_div_f) := ⟨rfl, rfl, rfl, by decide +kernel, rfl, by decide +kernel, by decide +kernel⟩
theorem h_div_f (B : Bl mg) (d : DefAt K mg "div_f" s_div_f []) (h_reduced : Has P w K mg base CX0 "reduced" 1 [] (spOf K none (c_reduced))) : Has P w K mg base CX0 "div_f" 2 [] (spOf K none (c_div)) := by
  refine d.pure sc_div_f (fun _ _ _ _ _ _ us hl => match us, hl with | [_, _], _ => rfl) 0 rfl (fun as k ⟨_, _, _, _, e, _⟩ => by rw [e]; rfl) fun f cdv A outer s H E hr => ⟨_, (pss_one (ps_ret (pe_has h_reduced (hr.mono (by decide)) pass0 (pa_cons (pe_op op_mulG (pe_ix (kIx (K := K)) (pv 0) pe_int (fun _ _ => rfl)) (pe_ix (kIx (K := K)) (pv 1) pe_int (fun _ _ => rfl))) (pa_cons (pe_op op_mulG (pe_ix (kIx (K := K)) (pv 0) pe_int (fun _ _ => rfl)) (pe_ix (kIx (K := K)) (pv 1) pe_int (fun _ _ => rfl))) pa_nil))))), fun as k hc => ?_⟩
  try dsimp only [cxOf]
  clear hr E H s outer A cdv f d B
  obtain ⟨x, y, a, b, rfl, hx, hy, hl, h0, q⟩ := hc
  simp only [st0, List.map_cons, List.map_nil, List.replicate, List.cons_append, List.nil_append]
  walk_at "w"
  refine ⟨_, _, rfl, (inz (dnz x) (fun e => h0 (Rat.num_eq_zero.mp e))), lt_ltx (by walk_at "bd") (by omega), ?_⟩
  rw [div_is x h0]
  exact q
def c_neg : Con := fun as k => ∃ x : Rat, as = [.i (Fq x)] ∧ k (Fq (-x))
abbrev n_neg_f : List Str := ["a"]
abbrev s_neg_f : Stmt := top 28
theorem sc_neg_f : FnScope ["a"] ["a"] (defScope s_neg_f) := ⟨rfl, rfl, rfl, by decide +kernel, rfl, by decide +kernel, by decide +kernel⟩
theorem h_neg_f (B : Bl mg) (d : DefAt K mg "neg_f" s_neg_f []) : Has P w K mg base CX0 "neg_f" 1 [] (spOf K none (c_neg)) := by
  refine d.pure sc_neg_f (fun _ _ _ _ _ _ us hl => match us, hl with | [_], _ => rfl) 0 rfl (fun as k ⟨_, e, _⟩ => by rw [e]; rfl) fun f cdv A outer s H E hr => ⟨_, (pss_one (ps_ret (pe_tup (pa_cons (pe_un un_neg (pe_ix (kIx (K := K)) (pv 0) pe_int (fun _ _ => rfl))) (pa_cons (pe_ix (kIx (K := K)) (pv 0) pe_int (fun _ _ => rfl)) pa_nil))))), fun as k hc => ?_⟩
  try dsimp only [cxOf]
  clear hr E H s outer A cdv f d B
  obtain ⟨x, rfl, q⟩ := hc
  simp only [st0, List.map_cons, List.map_nil, List.replicate, List.cons_append, List.nil_append]
  walk_at "w"
  have e : Fq (-x) = .tuple [.int (-x.num), .int x.den] := by rw [Fq, Rat.neg_num, Rat.neg_den]
  rw [e] at q
  exact q
abbrev n_sum_row : List Str := ["a", "x", "b", "y", "e", "one", "down"]
abbrev s_sum_row : Stmt := top 55
theorem sc_sum_row : FnScope ["a", "x", "b", "y", "e", "one", "down"] ["a", "x", "b", "y", "e"] (defScope s_sum_row) := ⟨rfl, rfl, rfl, by decide +kernel, rfl, by decide +kernel, by decide +kernel⟩
theorem h_sum_row (B : Bl mg) (d : DefAt K mg "sum_row" s_sum_row []) (h_reduced : Has P w K mg base CX0 "reduced" 1 [] (spOf K none (c_reduced))) : Has P w K mg base CX0 "sum_row" 2 [] (spOf K none (c_sum)) := by
  refine d.pure sc_sum_row (fun _ _ _ _ _ _ us hl => match us, hl with | [_, _, _, _, _], _ => rfl) 2 rfl (fun as k ⟨_, _, _, _, _, _, _, _, _, _, e, _⟩ => by rw [e]; rfl) fun f cdv A outer s H E hr => ⟨_, (pss_cons (ps_set (i := 5) sc_sum_row.nd rfl (Or.inl rfl) (pe_op (kAdd (K := K)) (pe_op op_mulG (pe_op op_mulG (pe_op op_mulG (pe_ix (kIx (K := K)) (pv 0) pe_int (fun _ _ => rfl)) (pe_ix (kIx (K := K)) (pv 1) pe_int (fun _ _ => rfl))) (pe_ix (kIx (K := K)) (pv 2) pe_int (fun _ _ => rfl))) (pe_ix (kIx (K := K)) (pv 3) pe_int (fun _ _ => rfl))) (pe_op op_mulG (pe_op op_mulG (pe_op op_mulG (pe_ix (kIx (K := K)) (pv 2) pe_int (fun _ _ => rfl)) (pe_ix (kIx (K := K)) (pv 3) pe_int (fun _ _ => rfl))) (pe_ix (kIx (K := K)) (pv 0) pe_int (fun _ _ => rfl))) (pe_ix (kIx (K := K)) (pv 1) pe_int (fun _ _ => rfl)))))
      (pss_cons (ps_set (i := 6) sc_sum_row.nd rfl (Or.inl rfl) (pe_op op_mulG (pe_op op_mulG (pe_op op_mulG (pe_ix (kIx (K := K)) (pv 0) pe_int (fun _ _ => rfl)) (pe_ix (kIx (K := K)) (pv 1) pe_int (fun _ _ => rfl))) (pe_ix (kIx (K := K)) (pv 2) pe_int (fun _ _ => rfl))) (pe_ix (kIx (K := K)) (pv 3) pe_int (fun _ _ => rfl))))
      (pss_one (ps_ret (pe_has h_reduced (hr.mono (by decide)) pass0 (pa_cons (pe_op (kAdd (K := K)) (pe_op op_mulG (pv 5) (pe_ix (kIx (K := K)) (pv 4) pe_int (fun _ _ => rfl))) (pe_op op_mulG (pe_ix (kIx (K := K)) (pv 4) pe_int (fun _ _ => rfl)) (pv 6))) (pa_cons (pe_op op_mulG (pv 6) (pe_ix (kIx (K := K)) (pv 4) pe_int (fun _ _ => rfl))) pa_nil))))))), fun as k hc => ?_⟩
  try dsimp only [cxOf]
  clear hr E H s outer A cdv f d B
  obtain ⟨a, x, b, y, e, n1, n2, n3, n4, n5, rfl, h1, h2, h3, h4, h5, hl, q⟩ := hc
  simp only [st0, List.map_cons, List.map_nil, List.replicate, List.cons_append, List.nil_append]
  walk_at "w"
  refine ⟨_, _, rfl, (by walk_at "nz"), lt_ltx (by walk_at "bd") (by omega), ?_⟩
  rw [sum_is]
  exact q
end K88
/-! T2 -/
namespace K88
open PySem PySem.Spec PyProof.Rows L2 AL
local macro_rules | `(tactic| walk_at "bd") => `(tactic| first
  | assumption
  | (apply Sz.n; assumption)
  | (apply Sz.d; assumption)
  | ((with_reducible apply lt_mul); (case h1 => walk_at "bd"); (case h2 => walk_at "bd"))
  | ((with_reducible apply lt_addx); (case h1 => walk_at "bd"); (case h2 => walk_at "bd"))
  | ((with_reducible apply lt_subx); (case h1 => walk_at "bd"); (case h2 => walk_at "bd"))
  | ((with_reducible apply lt_neg); (case h => walk_at "bd")))
local macro_rules | `(tactic| walk_at "nz") => `(tactic| first
  | assumption
  | exact dnz _
  | ((with_reducible apply inz); (case h1 => walk_at "nz"); (case h2 => walk_at "nz")))
local macro_rules | `(tactic| walk_at "w") => `(tactic| repeat (first
  | with_reducible apply w_int
  | ((with_reducible apply w_var); (case h => exact rfl))
  | with_reducible apply wl_cons
  | with_reducible apply wl_nil
  | ((with_reducible refine And.intro (Nat.le_of_ble_eq_true ?hlen) ?_); (case hlen => exact rfl))
  | with_reducible apply w_tup
  | with_reducible apply w_op
  | with_reducible apply s_seq
  | with_reducible apply wa_cons
  | with_reducible apply wa_nil
  | with_reducible apply ru_i
  | with_reducible apply w_un
  | with_reducible apply s_asg
  | with_reducible apply w_call0
  | with_reducible apply w_callZ
  | with_reducible apply b_addI
  | ((with_reducible apply rb_ixT); (case e => exact rfl))
  | ((with_reducible apply rb_ixL); (case e => exact rfl))
  | with_reducible apply w_str
  | with_reducible apply w_sl
  | with_reducible apply o_none
  | with_reducible apply o_some
  | with_reducible apply sG_T
  | with_reducible apply sG_L
  | ((with_reducible apply s_app); (case e => exact rfl))
  | with_reducible apply w_if
  | with_reducible apply p_if
  | with_reducible apply t_test
  | with_reducible apply b_eqI
  | with_reducible apply s_next
  | with_reducible apply p_ret
  | ((with_reducible apply b_mulI); (case hc => (apply mulx; (case h1 => walk_at "bd"); (case h2 => walk_at "bd"); (case h => omega))))
  | with_reducible apply b_sub
  | with_reducible apply w_isT
  | with_reducible apply w_isL
  | with_reducible apply w_isI
  | with_reducible apply w_isB
  | with_reducible apply w_isS
  | with_reducible apply w_isN
  | with_reducible apply w_notN
  | with_reducible apply w_or
  | with_reducible apply w_and
  | with_reducible apply w_not
  | with_reducible apply w_chain
  | with_reducible apply w_cb
  | with_reducible apply t_or
  | with_reducible apply t_and
  | with_reducible apply t_not
  | with_reducible apply t_yes
  | ((with_reducible apply b_addT); (case hz => exact Nat.le_of_ble_eq_true rfl))
  | ((with_reducible apply b_addL); (case hz => exact Nat.le_of_ble_eq_true rfl))
  | with_reducible apply b_neI
  | with_reducible apply b_eqS
  | with_reducible apply b_eqB
  | with_reducible apply b_neB
  | with_reducible apply w_bl
  | with_reducible apply w_non
  | with_reducible apply t_B
  | with_reducible apply m_lst
  | with_reducible apply m_cat
  | with_reducible apply m_list
  | with_reducible apply w_lcLU
  | with_reducible apply w_lcTU
  | with_reducible apply s_forTU
  | with_reducible apply s_forLU
  | (with_reducible apply lcU_nil)
  | (with_reducible apply unr_nil)
  | with_reducible apply unr_one
  | ((with_reducible show LcU _ _ _ _ _ _ _ _ _); (refine lcU_one rfl (Nat.lt_of_succ_le (Nat.le_of_ble_eq_true rfl)) ?_))
  | ((with_reducible show (_ = true → _) ∧ (_ = false → _)); (first | refine ybt rfl ?_ | refine ybf rfl ?_))
  | ((with_reducible show (_ = false → _) ∧ (_ = true → _)); (first | refine obt rfl ?_ | refine obf rfl ?_))
  | with_reducible apply yt
  | with_reducible apply yf
  | with_reducible apply fy
  | with_reducible apply ft
  | ((with_reducible apply f_frz); (case e => exact rfl))
  | with_reducible apply s_asgG
  | (refine Exists.intro _ (And.intro (g_lst (by repeat (first | exact gs_nil | apply gs_one)) rfl) ?_))
  | (refine Exists.intro _ (And.intro (g_tup (by repeat (first | exact gs_nil | apply gs_one)) rfl) ?_))
  | with_reducible apply c_lenL
  | with_reducible apply c_lenT
  | with_reducible apply c_listL
  | with_reducible apply c_listT
  | with_reducible apply c_tupL
  | with_reducible apply c_abs
  | with_reducible apply c_int
  | with_reducible apply c_min
  | with_reducible apply rc_gcd
  | with_reducible apply rb_b
  | (refine And.intro (Nat.lt_of_succ_le (Nat.le_of_ble_eq_true rfl)) ?_)
  | with_reducible refine Exists.intro _ (And.intro rfl ?_)
  | refine And.intro (Nat.le_of_ble_eq_true rfl) ?_
  ))
variable {P : Program} {w : World} {K : PySem.W.Frag} {mg : Str → Option Value} {base : Heap}
def c_placed : Con := fun as k => ∃ (t : Tf) (p : Pt) (n m : Nat), as = [.i (tfD t), .i (ptD p)] ∧ TSz n t ∧ PSz m p ∧ 3 * n + 2 * m + 1 ≤ 9000 ∧ k (ptD (t.on p))
abbrev n_placed_p : List Str := ["transform", "p", "a", "b", "c", "d", "e", "f"]
abbrev s_placed_p : Stmt := top 56
theorem sc_placed_p : FnScope ["transform", "p", "a", "b", "c", "d", "e", "f"] ["transform", "p"] (defScope s_placed_p) := ⟨rfl, rfl, rfl, by decide +kernel, rfl, by decide +kernel, by decide +kernel⟩
theorem h_placed_p (B : Bl mg) (d : DefAt K mg "placed_p" s_placed_p []) (h_sum_row : Has P w K mg base CX0 "sum_row" 2 [] (spOf K none (c_sum))) : Has P w K mg base CX0 "placed_p" 3 [] (spOf K none (c_placed)) := by
  refine d.pure sc_placed_p (fun _ _ _ _ _ _ us hl => match us, hl with | [_, _], _ => rfl) 6 rfl (fun as k ⟨_, _, _, _, e, _⟩ => by rw [e]; rfl) fun f cdv A outer s H E hr => ⟨_, (pss_cons (ps_asg (pv 0) (kgTup (K := K) (n := 6) rfl (pgs_cons (pg_name (i := 2) sc_placed_p.nd rfl (Or.inl rfl)) (pgs_cons (pg_name (i := 3) sc_placed_p.nd rfl (Or.inl rfl)) (pgs_cons (pg_name (i := 4) sc_placed_p.nd rfl (Or.inl rfl)) (pgs_cons (pg_name (i := 5) sc_placed_p.nd rfl (Or.inl rfl)) (pgs_cons (pg_name (i := 6) sc_placed_p.nd rfl (Or.inl rfl)) (pgs_cons (pg_name (i := 7) sc_placed_p.nd rfl (Or.inl rfl)) pgs_nil))))))))
      (pss_one (ps_ret (pe_tup (pa_cons (pe_has h_sum_row (hr.mono (by decide)) pass0 (pa_cons (pv 2) (pa_cons (pe_ix (kIx (K := K)) (pv 1) pe_int (fun _ _ => rfl)) (pa_cons (pv 3) (pa_cons (pe_ix (kIx (K := K)) (pv 1) pe_int (fun _ _ => rfl)) (pa_cons (pv 6) pa_nil)))))) (pa_cons (pe_has h_sum_row (hr.mono (by decide)) pass0 (pa_cons (pv 4) (pa_cons (pe_ix (kIx (K := K)) (pv 1) pe_int (fun _ _ => rfl)) (pa_cons (pv 5) (pa_cons (pe_ix (kIx (K := K)) (pv 1) pe_int (fun _ _ => rfl)) (pa_cons (pv 7) pa_nil)))))) pa_nil)))))), fun as k hc => ?_⟩
  try dsimp only [cxOf]
  clear hr E H s outer A cdv f d B
  obtain ⟨t, p, n, m, rfl, ht, hp, hl, q⟩ := hc
  simp only [st0, List.map_cons, List.map_nil, List.replicate, List.cons_append, List.nil_append]
  walk_at "w"
  refine ⟨_, _, _, _, _, _, _, _, _, _, rfl, ht.a, hp.1, ht.b, hp.2, ht.e, by omega, ?_⟩
  walk_at "w"
  refine ⟨_, _, _, _, _, _, _, _, _, _, rfl, ht.c, hp.1, ht.d, hp.2, ht.f, by omega, ?_⟩
  walk_at "w"
  exact q
def c_det : Con := fun as k => ∃ (t : Tf) (n : Nat), as = [.i (tfD t)] ∧ TSz n t ∧ 4 * n + 1 ≤ 9000 ∧ k (Fq t.det)
abbrev n_det_t : List Str := ["transform", "a", "b", "c", "d"]
abbrev s_det_t : Stmt := top 52
theorem sc_det_t : FnScope ["transform", "a", "b", "c", "d"] ["transform"] (defScope s_det_t) := ⟨rfl, rfl, rfl, by decide +kernel, rfl, by decide +kernel, by decide +kernel⟩
theorem h_det_t (B : Bl mg) (d : DefAt K mg "det_t" s_det_t []) (h_sub_f : Has P w K mg base CX0 "sub_f" 2 [] (spOf K none (c_sub))) (h_mul_f : Has P w K mg base CX0 "mul_f" 2 [] (spOf K none (c_mul))) : Has P w K mg base CX0 "det_t" 3 [] (spOf K none (c_det)) := by
  refine d.pure sc_det_t (fun _ _ _ _ _ _ us hl => match us, hl with | [_], _ => rfl) 4 rfl (fun as k ⟨_, _, e, _⟩ => by rw [e]; rfl) fun f cdv A outer s H E hr => ⟨_, (pss_cons (ps_asg (pe_slice (kSl (K := K)) (pv 0) po_none (po_some pe_int)) (kgTup (K := K) (n := 4) rfl (pgs_cons (pg_name (i := 1) sc_det_t.nd rfl (Or.inl rfl)) (pgs_cons (pg_name (i := 2) sc_det_t.nd rfl (Or.inl rfl)) (pgs_cons (pg_name (i := 3) sc_det_t.nd rfl (Or.inl rfl)) (pgs_cons (pg_name (i := 4) sc_det_t.nd rfl (Or.inl rfl)) pgs_nil))))))
      (pss_one (ps_ret (pe_has h_sub_f (hr.mono (by decide)) pass0 (pa_cons (pe_has h_mul_f (hr.mono (by decide)) pass0 (pa_cons (pv 1) (pa_cons (pv 4) pa_nil))) (pa_cons (pe_has h_mul_f (hr.mono (by decide)) pass0 (pa_cons (pv 2) (pa_cons (pv 3) pa_nil))) pa_nil)))))), fun as k hc => ?_⟩
  try dsimp only [cxOf]
  clear hr E H s outer A cdv f d B
  obtain ⟨t, n, rfl, ht, hl, q⟩ := hc
  simp only [st0, List.map_cons, List.map_nil, List.replicate, List.cons_append, List.nil_append]
  walk_at "w"
  refine ⟨_, _, _, _, rfl, ht.a, ht.d, by omega, trivial, ?_⟩
  walk_at "w"
  refine ⟨_, _, _, _, rfl, ht.b, ht.c, by omega, trivial, ?_⟩
  walk_at "w"
  refine ⟨_, _, _, _, rfl, (ht.a.mul ht.d), (ht.b.mul ht.c), by omega, trivial, ?_⟩
  walk_at "w"
  exact q
def c_chain : Con := fun as k => ∃ (t s : Tf) (n m : Nat), as = [.i (tfD t), .i (tfD s)] ∧ TSz n t ∧ TSz m s ∧ 3 * m + 2 * n + 2 ≤ 9000 ∧ k (tfD (t.chain s))
abbrev n_chained_t : List Str := ["first", "second", "a", "b", "c", "d", "e", "f", "one", "two", "three", "four", "zero"]
abbrev s_chained_t : Stmt := top 58
theorem sc_chained_t : FnScope ["first", "second", "a", "b", "c", "d", "e", "f", "one", "two", "three", "four", "zero"] ["first", "second"] (defScope s_chained_t) := ⟨rfl, rfl, rfl, by decide +kernel, rfl, by decide +kernel, by decide +kernel⟩
theorem h_chained_t (B : Bl mg) (d : DefAt K mg "chained_t" s_chained_t []) (h_sum_row : Has P w K mg base CX0 "sum_row" 2 [] (spOf K none (c_sum))) (h_placed_p : Has P w K mg base CX0 "placed_p" 3 [] (spOf K none (c_placed))) : Has P w K mg base CX0 "chained_t" 4 [] (spOf K none (c_chain)) := by
  refine d.pure sc_chained_t (fun _ _ _ _ _ _ us hl => match us, hl with | [_, _], _ => rfl) 11 rfl (fun as k ⟨_, _, _, _, e, _⟩ => by rw [e]; rfl) fun f cdv A outer s H E hr => ⟨_, (pss_cons (ps_asg (pe_slice (kSl (K := K)) (pv 0) po_none (po_some pe_int)) (kgTup (K := K) (n := 4) rfl (pgs_cons (pg_name (i := 2) sc_chained_t.nd rfl (Or.inl rfl)) (pgs_cons (pg_name (i := 3) sc_chained_t.nd rfl (Or.inl rfl)) (pgs_cons (pg_name (i := 4) sc_chained_t.nd rfl (Or.inl rfl)) (pgs_cons (pg_name (i := 5) sc_chained_t.nd rfl (Or.inl rfl)) pgs_nil))))))
      (pss_cons (ps_asg (pe_has h_placed_p (hr.mono (by decide)) pass0 (pa_cons (pv 1) (pa_cons (pe_slice (kSl (K := K)) (pv 0) (po_some pe_int) po_none) pa_nil))) (kgTup (K := K) (n := 2) rfl (pgs_cons (pg_name (i := 6) sc_chained_t.nd rfl (Or.inl rfl)) (pgs_cons (pg_name (i := 7) sc_chained_t.nd rfl (Or.inl rfl)) pgs_nil))))
      (pss_cons (ps_asg (pe_slice (kSl (K := K)) (pv 1) po_none (po_some pe_int)) (kgTup (K := K) (n := 4) rfl (pgs_cons (pg_name (i := 8) sc_chained_t.nd rfl (Or.inl rfl)) (pgs_cons (pg_name (i := 9) sc_chained_t.nd rfl (Or.inl rfl)) (pgs_cons (pg_name (i := 10) sc_chained_t.nd rfl (Or.inl rfl)) (pgs_cons (pg_name (i := 11) sc_chained_t.nd rfl (Or.inl rfl)) pgs_nil))))))
      (pss_cons (ps_set (i := 12) sc_chained_t.nd rfl (Or.inl rfl) (pe_tup (pa_cons pe_int (pa_cons pe_int pa_nil))))
      (pss_one (ps_ret (pe_tup (pa_cons (pe_has h_sum_row (hr.mono (by decide)) pass0 (pa_cons (pv 8) (pa_cons (pv 2) (pa_cons (pv 9) (pa_cons (pv 4) (pa_cons (pv 12) pa_nil)))))) (pa_cons (pe_has h_sum_row (hr.mono (by decide)) pass0 (pa_cons (pv 8) (pa_cons (pv 3) (pa_cons (pv 9) (pa_cons (pv 5) (pa_cons (pv 12) pa_nil)))))) (pa_cons (pe_has h_sum_row (hr.mono (by decide)) pass0 (pa_cons (pv 10) (pa_cons (pv 2) (pa_cons (pv 11) (pa_cons (pv 4) (pa_cons (pv 12) pa_nil)))))) (pa_cons (pe_has h_sum_row (hr.mono (by decide)) pass0 (pa_cons (pv 10) (pa_cons (pv 3) (pa_cons (pv 11) (pa_cons (pv 5) (pa_cons (pv 12) pa_nil)))))) (pa_cons (pv 6) (pa_cons (pv 7) pa_nil))))))))))))), fun as k hc => ?_⟩
  try dsimp only [cxOf]
  clear hr E H s outer A cdv f d B
  obtain ⟨t, s, n, m, rfl, ht, hs, hl, q⟩ := hc
  simp only [st0, List.map_cons, List.map_nil, List.replicate, List.cons_append, List.nil_append]
  walk_at "w"
  refine ⟨s, ⟨t.e, t.f⟩, _, _, rfl, hs, ⟨ht.e, ht.f⟩, by omega, ?_⟩
  walk_at "w"
  refine ⟨_, _, _, _, 0, _, _, _, _, _, rfl, hs.a, ht.a, hs.b, ht.c, sz0, by omega, ?_⟩
  walk_at "w"
  refine ⟨_, _, _, _, 0, _, _, _, _, _, rfl, hs.a, ht.b, hs.b, ht.d, sz0, by omega, ?_⟩
  walk_at "w"
  refine ⟨_, _, _, _, 0, _, _, _, _, _, rfl, hs.c, ht.a, hs.d, ht.c, sz0, by omega, ?_⟩
  walk_at "w"
  refine ⟨_, _, _, _, 0, _, _, _, _, _, rfl, hs.c, ht.b, hs.d, ht.d, sz0, by omega, ?_⟩
  walk_at "w"
  simp only [Rat.add_zero]
  exact q
def c_inv : Con := fun as k => ∃ (t : Tf) (n : Nat), as = [.i (tfD t)] ∧ TSz n t ∧ t.det ≠ 0 ∧ 17 * n + 10 ≤ 9000 ∧ k (tfD t.inv)
abbrev n_inverse_t : List Str := ["transform", "a", "b", "c", "d", "e", "f", "whole", "linear", "x", "y"]
abbrev s_inverse_t : Stmt := top 59
theorem sc_inverse_t : FnScope ["transform", "a", "b", "c", "d", "e", "f", "whole", "linear", "x", "y"] ["transform"] (defScope s_inverse_t) := ⟨rfl, rfl, rfl, by decide +kernel, rfl, by decide +kernel, by decide +kernel⟩
theorem h_inverse_t (B : Bl mg) (d : DefAt K mg "inverse_t" s_inverse_t []) (h_neg_f : Has P w K mg base CX0 "neg_f" 1 [] (spOf K none (c_neg))) (h_placed_p : Has P w K mg base CX0 "placed_p" 3 [] (spOf K none (c_placed))) (h_div_f : Has P w K mg base CX0 "div_f" 2 [] (spOf K none (c_div))) (h_det_t : Has P w K mg base CX0 "det_t" 3 [] (spOf K none (c_det))) : Has P w K mg base CX0 "inverse_t" 4 [] (spOf K none (c_inv)) := by
  refine d.pure sc_inverse_t (fun _ _ _ _ _ _ us hl => match us, hl with | [_], _ => rfl) 10 rfl (fun as k ⟨_, _, e, _⟩ => by rw [e]; rfl) fun f cdv A outer s H E hr => ⟨_, (pss_cons (ps_asg (pv 0) (kgTup (K := K) (n := 6) rfl (pgs_cons (pg_name (i := 1) sc_inverse_t.nd rfl (Or.inl rfl)) (pgs_cons (pg_name (i := 2) sc_inverse_t.nd rfl (Or.inl rfl)) (pgs_cons (pg_name (i := 3) sc_inverse_t.nd rfl (Or.inl rfl)) (pgs_cons (pg_name (i := 4) sc_inverse_t.nd rfl (Or.inl rfl)) (pgs_cons (pg_name (i := 5) sc_inverse_t.nd rfl (Or.inl rfl)) (pgs_cons (pg_name (i := 6) sc_inverse_t.nd rfl (Or.inl rfl)) pgs_nil))))))))
      (pss_cons (ps_set (i := 7) sc_inverse_t.nd rfl (Or.inl rfl) (pe_has h_det_t (hr.mono (by decide)) pass0 (pa_cons (pv 0) pa_nil)))
      (pss_cons (ps_set (i := 8) sc_inverse_t.nd rfl (Or.inl rfl) (pe_tup (pa_cons (pe_has h_div_f (hr.mono (by decide)) pass0 (pa_cons (pv 4) (pa_cons (pv 7) pa_nil))) (pa_cons (pe_has h_neg_f (hr.mono (by decide)) pass0 (pa_cons (pe_has h_div_f (hr.mono (by decide)) pass0 (pa_cons (pv 2) (pa_cons (pv 7) pa_nil))) pa_nil)) (pa_cons (pe_has h_neg_f (hr.mono (by decide)) pass0 (pa_cons (pe_has h_div_f (hr.mono (by decide)) pass0 (pa_cons (pv 3) (pa_cons (pv 7) pa_nil))) pa_nil)) (pa_cons (pe_has h_div_f (hr.mono (by decide)) pass0 (pa_cons (pv 1) (pa_cons (pv 7) pa_nil))) (pa_cons (pe_tup (pa_cons pe_int (pa_cons pe_int pa_nil))) (pa_cons (pe_tup (pa_cons pe_int (pa_cons pe_int pa_nil))) pa_nil))))))))
      (pss_cons (ps_asg (pe_has h_placed_p (hr.mono (by decide)) pass0 (pa_cons (pv 8) (pa_cons (pe_tup (pa_cons (pv 5) (pa_cons (pv 6) pa_nil))) pa_nil))) (kgTup (K := K) (n := 2) rfl (pgs_cons (pg_name (i := 9) sc_inverse_t.nd rfl (Or.inl rfl)) (pgs_cons (pg_name (i := 10) sc_inverse_t.nd rfl (Or.inl rfl)) pgs_nil))))
      (pss_one (ps_ret (pe_op (kAdd (K := K)) (pe_slice (kSl (K := K)) (pv 8) po_none (po_some pe_int)) (pe_tup (pa_cons (pe_has h_neg_f (hr.mono (by decide)) pass0 (pa_cons (pv 9) pa_nil)) (pa_cons (pe_has h_neg_f (hr.mono (by decide)) pass0 (pa_cons (pv 10) pa_nil)) pa_nil)))))))))), fun as k hc => ?_⟩
  try dsimp only [cxOf]
  clear hr E H s outer A cdv f d B
  obtain ⟨t, n, rfl, ht, hd, hl, q⟩ := hc
  have hw := ht.det
  simp only [st0, List.map_cons, List.map_nil, List.replicate, List.cons_append, List.nil_append]
  walk_at "w"
  refine ⟨_, _, rfl, ht, by omega, ?_⟩
  walk_at "w"
  refine ⟨_, _, _, _, rfl, ht.d, hw, by omega, hd, ?_⟩
  walk_at "w"
  refine ⟨_, _, _, _, rfl, ht.b, hw, by omega, hd, ?_⟩
  walk_at "w"
  refine ⟨_, rfl, ?_⟩
  walk_at "w"
  refine ⟨_, _, _, _, rfl, ht.c, hw, by omega, hd, ?_⟩
  walk_at "w"
  refine ⟨_, rfl, ?_⟩
  walk_at "w"
  refine ⟨_, _, _, _, rfl, ht.a, hw, by omega, hd, ?_⟩
  walk_at "w"
  refine ⟨⟨t.d / t.det, -(t.b / t.det), -(t.c / t.det), t.a / t.det, 0, 0⟩, ⟨t.e, t.f⟩, 5 * n + 1, n, rfl, ⟨(ht.d.div hw hd).mono (by omega), (ht.b.div hw hd).neg.mono (by omega), (ht.c.div hw hd).neg.mono (by omega), (ht.a.div hw hd).mono (by omega), sz0.mono (by omega), sz0.mono (by omega)⟩, ⟨ht.e, ht.f⟩, by omega, ?_⟩
  walk_at "w"
  refine ⟨_, rfl, ?_⟩
  walk_at "w"
  refine ⟨_, rfl, ?_⟩
  walk_at "w"
  simp only [Tf.on, Rat.add_zero]
  exact q
def Tf.scale (t : Tf) : Option Rat := if t.a * t.a + t.c * t.c = t.b * t.b + t.d * t.d ∧ t.a * t.b + t.c * t.d = 0 then some (t.a * t.a + t.c * t.c) else none
def optD : Option Rat → D
  | none => .none
  | some q => Fq q
def c_scale : Con := fun as k => ∃ (t : Tf) (n : Nat), as = [.i (tfD t)] ∧ TSz n t ∧ 4 * n + 1 ≤ 9000 ∧ k (optD t.scale)
abbrev n_scale_t : List Str := ["transform", "a", "b", "c", "d", "found"]
abbrev s_scale_t : Stmt := top 68
theorem sc_scale_t : FnScope ["transform", "a", "b", "c", "d", "found"] ["transform"] (defScope s_scale_t) := ⟨rfl, rfl, rfl, by decide +kernel, rfl, by decide +kernel, by decide +kernel⟩
theorem h_scale_t (B : Bl mg) (d : DefAt K mg "scale_t" s_scale_t []) (h_add_f : Has P w K mg base CX0 "add_f" 2 [] (spOf K none (c_add))) (h_mul_f : Has P w K mg base CX0 "mul_f" 2 [] (spOf K none (c_mul))) : Has P w K mg base CX0 "scale_t" 3 [] (spOf K none (c_scale)) := by
  refine d.pure sc_scale_t (fun _ _ _ _ _ _ us hl => match us, hl with | [_], _ => rfl) 5 rfl (fun as k ⟨_, _, e, _⟩ => by rw [e]; rfl) fun f cdv A outer s H E hr => ⟨_, (pss_cons (ps_asg (pe_slice (kSl (K := K)) (pv 0) po_none (po_some pe_int)) (kgTup (K := K) (n := 4) rfl (pgs_cons (pg_name (i := 1) sc_scale_t.nd rfl (Or.inl rfl)) (pgs_cons (pg_name (i := 2) sc_scale_t.nd rfl (Or.inl rfl)) (pgs_cons (pg_name (i := 3) sc_scale_t.nd rfl (Or.inl rfl)) (pgs_cons (pg_name (i := 4) sc_scale_t.nd rfl (Or.inl rfl)) pgs_nil))))))
      (pss_cons (ps_set (i := 5) sc_scale_t.nd rfl (Or.inl rfl) (pe_has h_add_f (hr.mono (by decide)) pass0 (pa_cons (pe_has h_mul_f (hr.mono (by decide)) pass0 (pa_cons (pv 1) (pa_cons (pv 1) pa_nil))) (pa_cons (pe_has h_mul_f (hr.mono (by decide)) pass0 (pa_cons (pv 3) (pa_cons (pv 3) pa_nil))) pa_nil))))
      (pss_cons (ps_if (PW.pt (pw_or (pt_cmpR (kNe (K := K) hr.units) (pv 5) (pe_has h_add_f (hr.mono (by decide)) pass0 (pa_cons (pe_has h_mul_f (hr.mono (by decide)) pass0 (pa_cons (pv 2) (pa_cons (pv 2) pa_nil))) (pa_cons (pe_has h_mul_f (hr.mono (by decide)) pass0 (pa_cons (pv 4) (pa_cons (pv 4) pa_nil))) pa_nil))) (nomark _)) (pw_or1 (pt_cmpR (kNe (K := K) hr.units) (pe_ix (kIx (K := K)) (pe_has h_add_f (hr.mono (by decide)) pass0 (pa_cons (pe_has h_mul_f (hr.mono (by decide)) pass0 (pa_cons (pv 1) (pa_cons (pv 2) pa_nil))) (pa_cons (pe_has h_mul_f (hr.mono (by decide)) pass0 (pa_cons (pv 3) (pa_cons (pv 4) pa_nil))) pa_nil))) pe_int (fun _ _ => rfl)) pe_int (nomark _))))) (pss_one (ps_ret pe_non)) pss_nil)
      (pss_one (ps_ret (pv 5)))))), fun as k hc => ?_⟩
  try dsimp only [cxOf]
  clear hr E H s outer A cdv f d B
  obtain ⟨t, n, rfl, ht, hl, q⟩ := hc
  simp only [st0, List.map_cons, List.map_nil, List.replicate, List.cons_append, List.nil_append]
  walk_at "w"
  refine ⟨_, _, _, _, rfl, ht.a, ht.a, by omega, trivial, ?_⟩
  walk_at "w"
  refine ⟨_, _, _, _, rfl, ht.c, ht.c, by omega, trivial, ?_⟩
  walk_at "w"
  refine ⟨_, _, _, _, rfl, (ht.a.mul ht.a), (ht.c.mul ht.c), by omega, trivial, ?_⟩
  walk_at "w"
  refine ⟨_, _, _, _, rfl, ht.b, ht.b, by omega, trivial, ?_⟩
  walk_at "w"
  refine ⟨_, _, _, _, rfl, ht.d, ht.d, by omega, trivial, ?_⟩
  walk_at "w"
  refine ⟨_, _, _, _, rfl, (ht.b.mul ht.b), (ht.d.mul ht.d), by omega, trivial, ?_⟩
  walk_at "w"
  refine b_neF ?_
  walk_at "w"
  unfold Tf.scale at q
  refine ⟨fun h => ?_, fun h => ?_⟩
  · have h1 : t.a * t.a + t.c * t.c = t.b * t.b + t.d * t.d := by simpa using h
    walk_at "w"
    refine ⟨_, _, _, _, rfl, ht.a, ht.b, by omega, trivial, ?_⟩
    walk_at "w"
    refine ⟨_, _, _, _, rfl, ht.c, ht.d, by omega, trivial, ?_⟩
    walk_at "w"
    refine ⟨_, _, _, _, rfl, (ht.a.mul ht.b), (ht.c.mul ht.d), by omega, trivial, ?_⟩
    walk_at "w"
    refine ny (fun h2 => ?_) (fun h2 => ?_)
    · rw [if_neg (fun z => h2 (Rat.num_eq_zero.mpr z.2))] at q
      walk_at "w"
      exact q
    · rw [if_pos ⟨h1, Rat.num_eq_zero.mp h2⟩] at q
      walk_at "w"
      exact q
  · have h1 : ¬ t.a * t.a + t.c * t.c = t.b * t.b + t.d * t.d := by simpa using h
    rw [if_neg (fun z => h1 z.1)] at q
    walk_at "w"
    exact q
end K88
/-! T3 -/
namespace K88
open PySem PySem.Spec PyProof.Rows L2 AL
local macro_rules | `(tactic| walk_at "bd") => `(tactic| first
  | assumption
  | (apply Sz.n; assumption)
  | (apply Sz.d; assumption)
  | ((with_reducible apply lt_mul); (case h1 => walk_at "bd"); (case h2 => walk_at "bd"))
  | ((with_reducible apply lt_addx); (case h1 => walk_at "bd"); (case h2 => walk_at "bd"))
  | ((with_reducible apply lt_subx); (case h1 => walk_at "bd"); (case h2 => walk_at "bd"))
  | ((with_reducible apply lt_neg); (case h => walk_at "bd")))
local macro_rules | `(tactic| walk_at "nz") => `(tactic| first
  | assumption
  | exact dnz _
  | ((with_reducible apply inz); (case h1 => walk_at "nz"); (case h2 => walk_at "nz")))
local macro_rules | `(tactic| walk_at "w") => `(tactic| repeat (first
  | with_reducible apply w_int
  | ((with_reducible apply w_var); (case h => exact rfl))
  | with_reducible apply wl_cons
  | with_reducible apply wl_nil
  | ((with_reducible refine And.intro (Nat.le_of_ble_eq_true ?hlen) ?_); (case hlen => exact rfl))
  | with_reducible apply w_tup
  | with_reducible apply w_op
  | with_reducible apply s_seq
  | with_reducible apply wa_cons
  | with_reducible apply wa_nil
  | with_reducible apply ru_i
  | with_reducible apply w_un
  | with_reducible apply s_asg
  | with_reducible apply w_call0
  | with_reducible apply w_callZ
  | with_reducible apply b_addI
  | ((with_reducible apply rb_ixT); (case e => exact rfl))
  | ((with_reducible apply rb_ixL); (case e => exact rfl))
  | with_reducible apply w_str
  | with_reducible apply w_sl
  | with_reducible apply o_none
  | with_reducible apply o_some
  | with_reducible apply sG_T
  | with_reducible apply sG_L
  | ((with_reducible apply s_app); (case e => exact rfl))
  | with_reducible apply w_if
  | with_reducible apply p_if
  | with_reducible apply t_test
  | with_reducible apply b_eqI
  | with_reducible apply s_next
  | with_reducible apply p_ret
  | ((with_reducible apply b_mulI); (case hc => (apply mulx; (case h1 => walk_at "bd"); (case h2 => walk_at "bd"); (case h => omega))))
  | with_reducible apply b_sub
  | with_reducible apply w_isT
  | with_reducible apply w_isL
  | with_reducible apply w_isI
  | with_reducible apply w_isB
  | with_reducible apply w_isS
  | with_reducible apply w_isN
  | with_reducible apply w_notN
  | with_reducible apply w_or
  | with_reducible apply w_and
  | with_reducible apply w_not
  | with_reducible apply w_chain
  | with_reducible apply w_cb
  | with_reducible apply t_or
  | with_reducible apply t_and
  | with_reducible apply t_not
  | with_reducible apply t_yes
  | ((with_reducible apply b_addT); (case hz => exact Nat.le_of_ble_eq_true rfl))
  | ((with_reducible apply b_addL); (case hz => exact Nat.le_of_ble_eq_true rfl))
  | with_reducible apply b_neI
  | with_reducible apply b_eqS
  | with_reducible apply b_eqB
  | with_reducible apply b_neB
  | with_reducible apply w_bl
  | with_reducible apply w_non
  | with_reducible apply t_B
  | with_reducible apply m_lst
  | with_reducible apply m_cat
  | with_reducible apply m_list
  | with_reducible apply w_lcLU
  | with_reducible apply w_lcTU
  | with_reducible apply s_forTU
  | with_reducible apply s_forLU
  | (with_reducible apply lcU_nil)
  | (with_reducible apply unr_nil)
  | with_reducible apply unr_one
  | ((with_reducible show LcU _ _ _ _ _ _ _ _ _); (refine lcU_one rfl (Nat.lt_of_succ_le (Nat.le_of_ble_eq_true rfl)) ?_))
  | ((with_reducible show (_ = true → _) ∧ (_ = false → _)); (first | refine ybt rfl ?_ | refine ybf rfl ?_))
  | ((with_reducible show (_ = false → _) ∧ (_ = true → _)); (first | refine obt rfl ?_ | refine obf rfl ?_))
  | with_reducible apply yt
  | with_reducible apply yf
  | with_reducible apply fy
  | with_reducible apply ft
  | ((with_reducible apply f_frz); (case e => exact rfl))
  | with_reducible apply s_asgG
  | (refine Exists.intro _ (And.intro (g_lst (by repeat (first | exact gs_nil | apply gs_one)) rfl) ?_))
  | (refine Exists.intro _ (And.intro (g_tup (by repeat (first | exact gs_nil | apply gs_one)) rfl) ?_))
  | with_reducible apply c_lenL
  | with_reducible apply c_lenT
  | with_reducible apply c_listL
  | with_reducible apply c_listT
  | with_reducible apply c_tupL
  | with_reducible apply c_abs
  | with_reducible apply c_int
  | with_reducible apply c_min
  | with_reducible apply rc_gcd
  | with_reducible apply rb_b
  | (refine And.intro (Nat.lt_of_succ_le (Nat.le_of_ble_eq_true rfl)) ?_)
  | with_reducible refine Exists.intro _ (And.intro rfl ?_)
  | refine And.intro (Nat.le_of_ble_eq_true rfl) ?_
  ))
variable {P : Program} {w : World} {K : PySem.W.Frag} {mg : Str → Option Value} {base : Heap}
def Pt.sub (p q : Pt) : Pt := ⟨p.x - q.x, p.y - q.y⟩
theorem PSz.sub {n m : Nat} {p q : Pt} (h : PSz n p) (g : PSz m q) : PSz (n + m + 1) (p.sub q) := ⟨h.1.sub g.1, h.2.sub g.2⟩
def Pt.cr (p q : Pt) : Rat := p.x * q.y - q.x * p.y
theorem PSz.cr {n m : Nat} {p q : Pt} (h : PSz n p) (g : PSz m q) : Sz (2 * n + 2 * m + 1) (p.cr q) := ((h.1.mul g.2).sub (g.1.mul h.2)).mono (by omega)
def c_crossed : Con := fun as k => ∃ (p q : Pt) (n m : Nat), as = [.i (ptD p), .i (ptD q)] ∧ PSz n p ∧ PSz m q ∧ 2 * n + 2 * m + 1 ≤ 9000 ∧ k (Fq (p.cr q))
abbrev n_crossed : List Str := ["one", "other"]
abbrev s_crossed : Stmt := top 61
theorem sc_crossed : FnScope ["one", "other"] ["one", "other"] (defScope s_crossed) := ⟨rfl, rfl, rfl, by decide +kernel, rfl, by decide +kernel, by decide +kernel⟩
theorem h_crossed (B : Bl mg) (d : DefAt K mg "crossed" s_crossed []) (h_sub_f : Has P w K mg base CX0 "sub_f" 2 [] (spOf K none (c_sub))) (h_mul_f : Has P w K mg base CX0 "mul_f" 2 [] (spOf K none (c_mul))) : Has P w K mg base CX0 "crossed" 3 [] (spOf K none (c_crossed)) := by
  refine d.pure sc_crossed (fun _ _ _ _ _ _ us hl => match us, hl with | [_, _], _ => rfl) 0 rfl (fun as k ⟨_, _, _, _, e, _⟩ => by rw [e]; rfl) fun f cdv A outer s H E hr => ⟨_, (pss_one (ps_ret (pe_has h_sub_f (hr.mono (by decide)) pass0 (pa_cons (pe_has h_mul_f (hr.mono (by decide)) pass0 (pa_cons (pe_ix (kIx (K := K)) (pv 0) pe_int (fun _ _ => rfl)) (pa_cons (pe_ix (kIx (K := K)) (pv 1) pe_int (fun _ _ => rfl)) pa_nil))) (pa_cons (pe_has h_mul_f (hr.mono (by decide)) pass0 (pa_cons (pe_ix (kIx (K := K)) (pv 1) pe_int (fun _ _ => rfl)) (pa_cons (pe_ix (kIx (K := K)) (pv 0) pe_int (fun _ _ => rfl)) pa_nil))) pa_nil))))), fun as k hc => ?_⟩
  try dsimp only [cxOf]
  clear hr E H s outer A cdv f d B
  obtain ⟨p, q, n, m, rfl, hp, hq, hl, kk⟩ := hc
  simp only [st0, List.map_cons, List.map_nil, List.replicate, List.cons_append, List.nil_append]
  walk_at "w"
  refine ⟨_, _, _, _, rfl, hp.1, hq.2, by omega, trivial, ?_⟩
  walk_at "w"
  refine ⟨_, _, _, _, rfl, hq.1, hp.2, by omega, trivial, ?_⟩
  walk_at "w"
  refine ⟨_, _, _, _, rfl, (hp.1.mul hq.2), (hq.1.mul hp.2), by omega, trivial, ?_⟩
  walk_at "w"
  exact kk
def c_steps : Con := fun as k => ∃ (p q r : Pt) (n : Nat), as = [.i (.list [ptD p, ptD q, ptD r])] ∧ PSz n p ∧ PSz n q ∧ PSz n r ∧ 2 * n + 1 ≤ 9000 ∧ k (.list [ptD (q.sub p), ptD (r.sub p)])
abbrev n_steps_from : List Str := ["points", "x", "y", "p"]
abbrev s_steps_from : Stmt := top 60
theorem sc_steps_from : FnScope ["points", "x", "y", "p"] ["points"] (defScope s_steps_from) := ⟨rfl, rfl, rfl, by decide +kernel, rfl, by decide +kernel, by decide +kernel⟩
theorem h_steps_from (B : Bl mg) (d : DefAt K mg "steps_from" s_steps_from []) (h_sub_f : Has P w K mg base CX0 "sub_f" 2 [] (spOf K none (c_sub))) : Has P w K mg base CX0 "steps_from" 3 [] (spOf K none (c_steps)) := by
  refine d.pure sc_steps_from (fun _ _ _ _ _ _ us hl => match us, hl with | [_], _ => rfl) 3 rfl (fun as k ⟨_, _, _, _, e, _⟩ => by rw [e]; rfl) fun f cdv A outer s H E hr => ⟨_, (pss_cons (ps_asg (pe_ix (kIx (K := K)) (pv 0) pe_int (fun _ _ => rfl)) (kgTup (K := K) (n := 2) rfl (pgs_cons (pg_name (i := 1) sc_steps_from.nd rfl (Or.inr rfl)) (pgs_cons (pg_name (i := 2) sc_steps_from.nd rfl (Or.inr rfl)) pgs_nil))))
      (pss_one (ps_ret (pe_lc (own := [("p", 3)]) (g := gName 3) (tt := tYes) rfl sc_steps_from.nd (kiList (K := K) (pe_slice (kSl (K := K)) (pv 0) (po_some pe_int) po_none)) (blkOk_by (own := [("p", 3)]) (N := n_steps_from) (sc := defScope s_steps_from) (by decide +kernel)) (fun _ _ _ _ _ => (pg_name (i := 3) sc_steps_from.nd rfl (Or.inl rfl))) (fun _ _ _ _ _ => pts_nil) (fun _ _ _ _ _ => (pe_tup (pa_cons (pe_has h_sub_f (hr.mono (by decide)) pass0 (pa_cons (pe_ix (kIx (K := K)) (pv 3) pe_int (fun _ _ => rfl)) (pa_cons (pv 1) pa_nil))) (pa_cons (pe_has h_sub_f (hr.mono (by decide)) pass0 (pa_cons (pe_ix (kIx (K := K)) (pv 3) pe_int (fun _ _ => rfl)) (pa_cons (pv 2) pa_nil))) pa_nil)))))))), fun as k hc => ?_⟩
  try dsimp only [cxOf]
  clear hr E H s outer A cdv f d B
  obtain ⟨p, q, r, n, rfl, hp, hq, hr, hl, kk⟩ := hc
  simp only [st0, List.map_cons, List.map_nil, List.replicate, List.cons_append, List.nil_append]
  walk_at "w"
  refine ⟨_, _, _, _, rfl, hq.1, hp.1, by omega, trivial, ?_⟩
  walk_at "w"
  refine ⟨_, _, _, _, rfl, hq.2, hp.2, by omega, trivial, ?_⟩
  walk_at "w"
  refine ⟨_, _, _, _, rfl, hr.1, hp.1, by omega, trivial, ?_⟩
  walk_at "w"
  refine ⟨_, _, _, _, rfl, hr.2, hp.2, by omega, trivial, ?_⟩
  walk_at "w"
  exact kk
/-- the transform that takes p, q, r to p', q', r' -/
def Tf.of (p q r p' q' r' : Pt) : Tf :=
  let u := q.sub p; let v := r.sub p; let s := q'.sub p'; let t := r'.sub p'; let w := u.cr v
  let a := (Pt.mk s.x u.y).cr ⟨t.x, v.y⟩ / w; let b := (Pt.mk u.x s.x).cr ⟨v.x, t.x⟩ / w
  let c := (Pt.mk s.y u.y).cr ⟨t.y, v.y⟩ / w; let d := (Pt.mk u.x s.y).cr ⟨v.x, t.y⟩ / w
  ⟨a, b, c, d, p'.x - (a * p.x + b * p.y), p'.y - (c * p.x + d * p.y)⟩
def c_three : Con := fun as k => ∃ (p q r p' q' r' : Pt) (m n j : Nat), as = [.i (.list [ptD p, ptD q, ptD r]), .i (.list [ptD p', ptD q', ptD r'])] ∧ PSz m p ∧ PSz m q ∧ PSz m r ∧ PSz n p' ∧ PSz n q' ∧ PSz n r' ∧
  PSz j (q'.sub p') ∧ PSz j (r'.sub p') ∧ (q.sub p).cr (r.sub p) ≠ 0 ∧ 2 * m + 1 ≤ j ∧ 24 * j + 2 * m + 7 ≤ 9000 ∧ 18 * j + 2 * m + n + 20 ≤ 9000 ∧ 2 * n + 1 ≤ 9000 ∧ k (tfD (.of p q r p' q' r'))
abbrev n_transform_t : List Str := ["points", "images", "u", "v", "s", "t", "whole", "found", "axis", "x", "y"]
abbrev s_transform_t : Stmt := top 62
theorem sc_transform_t : FnScope ["points", "images", "u", "v", "s", "t", "whole", "found", "axis", "x", "y"] ["points", "images"] (defScope s_transform_t) := ⟨rfl, rfl, rfl, by decide +kernel, rfl, by decide +kernel, by decide +kernel⟩
theorem h_transform_t (B : Bl mg) (d : DefAt K mg "transform_t" s_transform_t []) (h_sub_f : Has P w K mg base CX0 "sub_f" 2 [] (spOf K none (c_sub))) (h_placed_p : Has P w K mg base CX0 "placed_p" 3 [] (spOf K none (c_placed))) (h_div_f : Has P w K mg base CX0 "div_f" 2 [] (spOf K none (c_div))) (h_crossed : Has P w K mg base CX0 "crossed" 3 [] (spOf K none (c_crossed))) (h_steps_from : Has P w K mg base CX0 "steps_from" 3 [] (spOf K none (c_steps))) : Has P w K mg base CX0 "transform_t" 4 [] (spOf K none (c_three)) := by
  refine d.pure sc_transform_t (fun _ _ _ _ _ _ us hl => match us, hl with | [_, _], _ => rfl) 9 rfl (fun as k ⟨_, _, _, _, _, _, _, _, _, e, _⟩ => by rw [e]; rfl) fun f cdv A outer s H E hr => ⟨_, (pss_cons (ps_asg (pe_has h_steps_from (hr.mono (by decide)) pass0 (pa_cons (pv 0) pa_nil)) (kgLst (K := K) (n := 2) rfl (pgs_cons (pg_name (i := 2) sc_transform_t.nd rfl (Or.inl rfl)) (pgs_cons (pg_name (i := 3) sc_transform_t.nd rfl (Or.inl rfl)) pgs_nil))))
      (pss_cons (ps_asg (pe_has h_steps_from (hr.mono (by decide)) pass0 (pa_cons (pv 1) pa_nil)) (kgLst (K := K) (n := 2) rfl (pgs_cons (pg_name (i := 4) sc_transform_t.nd rfl (Or.inl rfl)) (pgs_cons (pg_name (i := 5) sc_transform_t.nd rfl (Or.inl rfl)) pgs_nil))))
      (pss_cons (ps_set (i := 6) sc_transform_t.nd rfl (Or.inl rfl) (pe_has h_crossed (hr.mono (by decide)) pass0 (pa_cons (pv 2) (pa_cons (pv 3) pa_nil))))
      (pss_cons (ps_setM (i := 7) sc_transform_t.nd rfl (Or.inl rfl) (pe_lst pa_nil))
      (pss_cons (ps_for PassesOwn.never rfl (kiTup (K := K) (pe_tup (pa_cons pe_int (pa_cons pe_int pa_nil)))) (pg_name (i := 8) sc_transform_t.nd rfl (Or.inl rfl)) (pss_cons (ps_expr (kApp (K := K) (pv 7) (pa_cons (pe_has h_div_f (hr.mono (by decide)) pass0 (pa_cons (pe_has h_crossed (hr.mono (by decide)) pass0 (pa_cons (pe_tup (pa_cons (pe_ix (kIx (K := K)) (pv 4) (pv 8) (fun _ _ => rfl)) (pa_cons (pe_ix (kIx (K := K)) (pv 2) pe_int (fun _ _ => rfl)) pa_nil))) (pa_cons (pe_tup (pa_cons (pe_ix (kIx (K := K)) (pv 5) (pv 8) (fun _ _ => rfl)) (pa_cons (pe_ix (kIx (K := K)) (pv 3) pe_int (fun _ _ => rfl)) pa_nil))) pa_nil))) (pa_cons (pv 6) pa_nil))) pa_nil)))
      (pss_one (ps_expr (kApp (K := K) (pv 7) (pa_cons (pe_has h_div_f (hr.mono (by decide)) pass0 (pa_cons (pe_has h_crossed (hr.mono (by decide)) pass0 (pa_cons (pe_tup (pa_cons (pe_ix (kIx (K := K)) (pv 2) pe_int (fun _ _ => rfl)) (pa_cons (pe_ix (kIx (K := K)) (pv 4) (pv 8) (fun _ _ => rfl)) pa_nil))) (pa_cons (pe_tup (pa_cons (pe_ix (kIx (K := K)) (pv 3) pe_int (fun _ _ => rfl)) (pa_cons (pe_ix (kIx (K := K)) (pv 5) (pv 8) (fun _ _ => rfl)) pa_nil))) pa_nil))) (pa_cons (pv 6) pa_nil))) pa_nil))))))
      (pss_frz 7 (pss_cons (ps_asg (pe_has h_placed_p (hr.mono (by decide)) pass0 (pa_cons (pe_op (kAdd (K := K)) (pe_callTy (kTup (K := K)) (by rfl) B.tuple (by decide +kernel) (pa_cons (pv 7) pa_nil)) (pe_tup (pa_cons (pe_tup (pa_cons pe_int (pa_cons pe_int pa_nil))) (pa_cons (pe_tup (pa_cons pe_int (pa_cons pe_int pa_nil))) pa_nil)))) (pa_cons (pe_ix (kIx (K := K)) (pv 0) pe_int (fun _ _ => rfl)) pa_nil))) (kgTup (K := K) (n := 2) rfl (pgs_cons (pg_name (i := 9) sc_transform_t.nd rfl (Or.inl rfl)) (pgs_cons (pg_name (i := 10) sc_transform_t.nd rfl (Or.inl rfl)) pgs_nil))))
      (pss_one (ps_ret (pe_op (kAdd (K := K)) (pe_callTy (kTup (K := K)) (by rfl) B.tuple (by decide +kernel) (pa_cons (pv 7) pa_nil)) (pe_tup (pa_cons (pe_has h_sub_f (hr.mono (by decide)) pass0 (pa_cons (pe_ix (kIx (K := K)) (pe_ix (kIx (K := K)) (pv 1) pe_int (fun _ _ => rfl)) pe_int (fun _ _ => rfl)) (pa_cons (pv 9) pa_nil))) (pa_cons (pe_has h_sub_f (hr.mono (by decide)) pass0 (pa_cons (pe_ix (kIx (K := K)) (pe_ix (kIx (K := K)) (pv 1) pe_int (fun _ _ => rfl)) pe_int (fun _ _ => rfl)) (pa_cons (pv 10) pa_nil))) pa_nil))))))))))))), fun as k hc => ?_⟩
  try dsimp only [cxOf]
  clear hr E H s outer A cdv f d B
  obtain ⟨p, q, r, p', q', r', m, n, j, rfl, hp, hq, hr, hp', hq', hr', hs, ht, hd, l1, l2, l3, l4, kk⟩ := hc
  have hu := (hq.sub hp).mono (show m + m + 1 ≤ j by omega)
  have hv := (hr.sub hp).mono (show m + m + 1 ≤ j by omega)
  have hw := hu.cr hv
  simp only [st0, List.map_cons, List.map_nil, List.replicate, List.cons_append, List.nil_append]
  walk_at "w"
  refine ⟨_, _, _, _, rfl, hp, hq, hr, by omega, ?_⟩
  walk_at "w"
  refine ⟨_, _, _, _, rfl, hp', hq', hr', by omega, ?_⟩
  walk_at "w"
  refine ⟨_, _, _, _, rfl, hu, hv, by omega, ?_⟩
  walk_at "w"
  refine ⟨⟨(q'.sub p').x, (q.sub p).y⟩, ⟨(r'.sub p').x, (r.sub p).y⟩, _, _, rfl, ⟨hs.1, hu.2⟩, ⟨ht.1, hv.2⟩, by omega, ?_⟩
  walk_at "w"
  refine ⟨_, _, _, _, rfl, (PSz.cr (p := ⟨_, _⟩) (q := ⟨_, _⟩) ⟨hs.1, hu.2⟩ ⟨ht.1, hv.2⟩), hw, by omega, hd, ?_⟩
  walk_at "w"
  refine ⟨⟨(q.sub p).x, (q'.sub p').x⟩, ⟨(r.sub p).x, (r'.sub p').x⟩, _, _, rfl, ⟨hu.1, hs.1⟩, ⟨hv.1, ht.1⟩, by omega, ?_⟩
  walk_at "w"
  refine ⟨_, _, _, _, rfl, (PSz.cr (p := ⟨_, _⟩) (q := ⟨_, _⟩) ⟨hu.1, hs.1⟩ ⟨hv.1, ht.1⟩), hw, by omega, hd, ?_⟩
  walk_at "w"
  refine ⟨⟨(q'.sub p').y, (q.sub p).y⟩, ⟨(r'.sub p').y, (r.sub p).y⟩, _, _, rfl, ⟨hs.2, hu.2⟩, ⟨ht.2, hv.2⟩, by omega, ?_⟩
  walk_at "w"
  refine ⟨_, _, _, _, rfl, (PSz.cr (p := ⟨_, _⟩) (q := ⟨_, _⟩) ⟨hs.2, hu.2⟩ ⟨ht.2, hv.2⟩), hw, by omega, hd, ?_⟩
  walk_at "w"
  refine ⟨⟨(q.sub p).x, (q'.sub p').y⟩, ⟨(r.sub p).x, (r'.sub p').y⟩, _, _, rfl, ⟨hu.1, hs.2⟩, ⟨hv.1, ht.2⟩, by omega, ?_⟩
  walk_at "w"
  refine ⟨_, _, _, _, rfl, (PSz.cr (p := ⟨_, _⟩) (q := ⟨_, _⟩) ⟨hu.1, hs.2⟩ ⟨hv.1, ht.2⟩), hw, by omega, hd, ?_⟩
  walk_at "w"
  have hA : TSz (8 * j + 2) ⟨(Pt.mk (q'.sub p').x (q.sub p).y).cr ⟨(r'.sub p').x, (r.sub p).y⟩ / (q.sub p).cr (r.sub p), (Pt.mk (q.sub p).x (q'.sub p').x).cr ⟨(r.sub p).x, (r'.sub p').x⟩ / (q.sub p).cr (r.sub p), (Pt.mk (q'.sub p').y (q.sub p).y).cr ⟨(r'.sub p').y, (r.sub p).y⟩ / (q.sub p).cr (r.sub p), (Pt.mk (q.sub p).x (q'.sub p').y).cr ⟨(r.sub p).x, (r'.sub p').y⟩ / (q.sub p).cr (r.sub p), 0, 0⟩ := ⟨(Sz.div (PSz.cr (p := ⟨(q'.sub p').x, (q.sub p).y⟩) (q := ⟨(r'.sub p').x, (r.sub p).y⟩) ⟨hs.1, hu.2⟩ ⟨ht.1, hv.2⟩) hw hd).mono (by omega), (Sz.div (PSz.cr (p := ⟨(q.sub p).x, (q'.sub p').x⟩) (q := ⟨(r.sub p).x, (r'.sub p').x⟩) ⟨hu.1, hs.1⟩ ⟨hv.1, ht.1⟩) hw hd).mono (by omega), (Sz.div (PSz.cr (p := ⟨(q'.sub p').y, (q.sub p).y⟩) (q := ⟨(r'.sub p').y, (r.sub p).y⟩) ⟨hs.2, hu.2⟩ ⟨ht.2, hv.2⟩) hw hd).mono (by omega), (Sz.div (PSz.cr (p := ⟨(q.sub p).x, (q'.sub p').y⟩) (q := ⟨(r.sub p).x, (r'.sub p').y⟩) ⟨hu.1, hs.2⟩ ⟨hv.1, ht.2⟩) hw hd).mono (by omega), sz0.mono (by omega), sz0.mono (by omega)⟩
  refine ⟨⟨_, _, _, _, 0, 0⟩, p, _, _, rfl, hA, hp, by omega, ?_⟩
  simp only [putD, peek, List.set, List.foldl, List.map_cons, List.map_nil, pkA]
  walk_at "w"
  refine ⟨_, _, _, _, rfl, hp'.1, (((hA.a.mul hp.1).add (hA.b.mul hp.2)).add sz0), by omega, trivial, ?_⟩
  walk_at "w"
  refine ⟨_, _, _, _, rfl, hp'.2, (((hA.c.mul hp.1).add (hA.d.mul hp.2)).add sz0), by omega, trivial, ?_⟩
  walk_at "w"
  simp only [Tf.on, Rat.add_zero]
  exact kk
end K88
/-! T4 -/
namespace K88
open PySem PySem.Spec PyProof.Rows L2 AL
local macro_rules | `(tactic| walk_at "bd") => `(tactic| first
  | assumption
  | (apply Sz.n; assumption)
  | (apply Sz.d; assumption)
  | ((with_reducible apply lt_mul); (case h1 => walk_at "bd"); (case h2 => walk_at "bd"))
  | ((with_reducible apply lt_addx); (case h1 => walk_at "bd"); (case h2 => walk_at "bd"))
  | ((with_reducible apply lt_subx); (case h1 => walk_at "bd"); (case h2 => walk_at "bd"))
  | ((with_reducible apply lt_neg); (case h => walk_at "bd")))
local macro_rules | `(tactic| walk_at "nz") => `(tactic| first
  | assumption
  | exact dnz _
  | ((with_reducible apply inz); (case h1 => walk_at "nz"); (case h2 => walk_at "nz")))
local macro_rules | `(tactic| walk_at "w") => `(tactic| repeat (first
  | with_reducible apply w_int
  | ((with_reducible apply w_var); (case h => exact rfl))
  | with_reducible apply wl_cons
  | with_reducible apply wl_nil
  | ((with_reducible refine And.intro (Nat.le_of_ble_eq_true ?hlen) ?_); (case hlen => exact rfl))
  | with_reducible apply w_tup
  | with_reducible apply w_op
  | with_reducible apply s_seq
  | with_reducible apply wa_cons
  | with_reducible apply wa_nil
  | with_reducible apply ru_i
  | with_reducible apply w_un
  | with_reducible apply s_asg
  | with_reducible apply w_call0
  | with_reducible apply w_callD2
  | with_reducible apply w_callD1
  | with_reducible apply w_callZ
  | with_reducible apply b_addI
  | ((with_reducible apply rb_ixT); (case e => exact rfl))
  | ((with_reducible apply rb_ixL); (case e => exact rfl))
  | with_reducible apply w_str
  | with_reducible apply w_sl
  | with_reducible apply o_none
  | with_reducible apply o_some
  | with_reducible apply sG_T
  | with_reducible apply sG_L
  | ((with_reducible apply s_app); (case e => exact rfl))
  | with_reducible apply w_if
  | with_reducible apply p_if
  | with_reducible apply t_test
  | with_reducible apply b_eqI
  | with_reducible apply s_next
  | with_reducible apply p_ret
  | ((with_reducible apply b_mulI); (case hc => (apply mulx; (case h1 => walk_at "bd"); (case h2 => walk_at "bd"); (case h => omega))))
  | with_reducible apply b_sub
  | with_reducible apply w_isT
  | with_reducible apply w_isL
  | with_reducible apply w_isI
  | with_reducible apply w_isB
  | with_reducible apply w_isS
  | with_reducible apply w_isN
  | with_reducible apply w_notN
  | with_reducible apply w_or
  | with_reducible apply w_and
  | with_reducible apply w_not
  | with_reducible apply w_chain
  | with_reducible apply w_cb
  | with_reducible apply t_or
  | with_reducible apply t_and
  | with_reducible apply t_not
  | with_reducible apply t_yes
  | ((with_reducible apply b_addT); (case hz => exact Nat.le_of_ble_eq_true rfl))
  | ((with_reducible apply b_addL); (case hz => exact Nat.le_of_ble_eq_true rfl))
  | with_reducible apply b_neI
  | with_reducible apply b_eqS
  | with_reducible apply b_eqB
  | with_reducible apply b_neB
  | with_reducible apply w_bl
  | with_reducible apply w_non
  | with_reducible apply t_B
  | with_reducible apply m_lst
  | with_reducible apply m_cat
  | with_reducible apply m_list
  | with_reducible apply w_lcLU
  | with_reducible apply w_lcTU
  | with_reducible apply s_forTU
  | with_reducible apply s_forLU
  | (with_reducible apply lcU_nil)
  | (with_reducible apply unr_nil)
  | with_reducible apply unr_one
  | ((with_reducible show LcU _ _ _ _ _ _ _ _ _); (refine lcU_one rfl (Nat.lt_of_succ_le (Nat.le_of_ble_eq_true rfl)) ?_))
  | ((with_reducible show (_ = true → _) ∧ (_ = false → _)); (first | refine ybt rfl ?_ | refine ybf rfl ?_))
  | ((with_reducible show (_ = false → _) ∧ (_ = true → _)); (first | refine obt rfl ?_ | refine obf rfl ?_))
  | with_reducible apply yt
  | with_reducible apply yf
  | with_reducible apply fy
  | with_reducible apply ft
  | ((with_reducible apply f_frz); (case e => exact rfl))
  | with_reducible apply s_asgG
  | (refine Exists.intro _ (And.intro (g_lst (by repeat (first | exact gs_nil | apply gs_one)) rfl) ?_))
  | (refine Exists.intro _ (And.intro (g_tup (by repeat (first | exact gs_nil | apply gs_one)) rfl) ?_))
  | with_reducible apply c_lenL
  | with_reducible apply c_lenT
  | with_reducible apply c_listL
  | with_reducible apply c_listT
  | with_reducible apply c_tupL
  | with_reducible apply c_abs
  | with_reducible apply c_int
  | with_reducible apply c_min
  | with_reducible apply rc_gcd
  | with_reducible apply rb_b
  | (refine And.intro (Nat.lt_of_succ_le (Nat.le_of_ble_eq_true rfl)) ?_)
  | with_reducible refine Exists.intro _ (And.intro rfl ?_)
  | refine And.intro (Nat.le_of_ble_eq_true rfl) ?_
  ))
variable {P : Program} {w : World} {K : PySem.W.Frag} {mg : Str → Option Value} {base : Heap}
def isInt : D → Bool
  | .int _ => true
  | _ => false
def isPos : D → Bool
  | .int n => decide (1 ≤ n)
  | _ => false
theorem isInt_of (d : D) : (isI d && !isB d) = isInt d := by cases d <;> rfl
def c_is_int : Con := fun as k => ∃ d l, as = [.i d, .i l, .i .none] ∧ ((l = .none ∧ k (.bool (isInt d))) ∨ (l = .int 1 ∧ k (.bool (isPos d))))
abbrev n_is_int : List Str := ["value", "low", "high"]
abbrev s_is_int : Stmt := top 17
theorem sc_is_int : FnScope ["value", "low", "high"] ["value", "low", "high"] (defScope s_is_int) := ⟨rfl, rfl, rfl, by decide +kernel, rfl, by decide +kernel, by decide +kernel⟩
theorem k_is_int (B : Bl mg) {f : Addr} {fd : FuncData} (D : FunD K "is_int" "is_int" (defArgs s_is_int) (defBody s_is_int) (defScope s_is_int) [.non, .non] [] f fd) : FnOk P w K mg base CX0 1 f fd ["value", "low", "high"] (spOf K none (c_is_int)) := by
  refine fnok_pure D sc_is_int 0 rfl (fun as k ⟨_, _, e, _⟩ => by rw [e]; rfl) fun f cdv A outer s H E hr => ⟨_, (pss_cons (ps_if (PW.pt (pw_or (pt_not (pt_val (pe_callB (kIsi (K := K)) (by rfl) B.isinstance (by decide +kernel) (pa_cons (pv 0) (pa_cons (pe_bltn (v := .ty "int") (by rfl) B.int (by decide +kernel) rfl) pa_nil))))) (pw_or1 (pt_val (pe_callB (kIsi (K := K)) (by rfl) B.isinstance (by decide +kernel) (pa_cons (pv 0) (pa_cons (pe_bltn (v := .ty "bool") (by rfl) B.bool (by decide +kernel) rfl) pa_nil))))))) (pss_one (ps_ret pe_bl)) pss_nil)
      (pss_one (ps_ret (pe_and (pe_or (pe_cmp (pc_isN (pv 1)) rfl) (pe_one (pe_cmpR op_le (pv 1) (pv 0) (nomark _)))) (pe_one (pe_or (pe_cmp (pc_isN (pv 2)) rfl) (pe_one (pe_cmpR op_le (pv 0) (pv 2) (nomark _))))))))), fun as k hc => ?_⟩
  clear hr E H s outer A cdv f B D
  obtain ⟨d, l, rfl, h⟩ := hc
  simp only [st0, List.map_cons, List.map_nil, List.replicate, List.cons_append, List.nil_append]
  rcases h with ⟨rfl, q⟩ | ⟨rfl, q⟩
  · cases d <;> walk_at "w"
    all_goals exact q
  · cases d <;> walk_at "w"
    all_goals try exact q
    refine yn (fun h => ?_) (fun h => ?_)
    · have e : isPos (.int _) = true := decide_eq_true h
      rw [e] at q
      walk_at "w"
      exact q
    · have e : isPos (.int _) = false := decide_eq_false h
      rw [e] at q
      exact q
theorem h_is_int_1 (B : Bl mg) (d : DefAt K mg "is_int" s_is_int [.non, .non]) : Has P w K mg base CX0 "is_int" 1 [.non, .non] (spOf K none (c_is_int)) :=
  has_dfl d 1 0 (by simp) rfl (fun T kV doc pm an cdv ct us its l1 l2 => match us, its, l1, l2 with | [_], [_, _], _, _ => ⟨_, rfl, rfl⟩) fun f fd D => k_is_int B D
theorem h_is_int_2 (B : Bl mg) (d : DefAt K mg "is_int" s_is_int [.non, .non]) : Has P w K mg base CX0 "is_int" 1 [.non] (spOf K none (c_is_int)) :=
  has_dfl d 2 1 (by simp) rfl (fun T kV doc pm an cdv ct us its l1 l2 => match us, its, l1, l2 with | [_, _], [_, _], _, _ => ⟨_, rfl, rfl⟩) fun f fd D => k_is_int B D
def isTupN (n : Nat) : D → Bool
  | .tuple ds => decide (ds.length = n)
  | _ => false
theorem dec_len {α : Type} (l : List α) (n : Nat) : decide ((l.length : Int) = (n : Int)) = decide (l.length = n) := by
  congr 1
  exact propext (by omega)
def c_is_tuple : Con := fun as k => ∃ (d : D) (n : Nat), as = [.i d, .i (.int n)] ∧ k (.bool (isTupN n d))
abbrev n_is_tuple : List Str := ["value", "many"]
abbrev s_is_tuple : Stmt := top 18
theorem sc_is_tuple : FnScope ["value", "many"] ["value", "many"] (defScope s_is_tuple) := ⟨rfl, rfl, rfl, by decide +kernel, rfl, by decide +kernel, by decide +kernel⟩
theorem h_is_tuple (B : Bl mg) (d : DefAt K mg "is_tuple" s_is_tuple []) : Has P w K mg base CX0 "is_tuple" 1 [] (spOf K none (c_is_tuple)) := by
  refine d.pure sc_is_tuple (fun _ _ _ _ _ _ us hl => match us, hl with | [_, _], _ => rfl) 0 rfl (fun as k ⟨_, _, e, _⟩ => by rw [e]; rfl) fun f cdv A outer s H E hr => ⟨_, (pss_one (ps_ret (pe_and (pe_callB (kIsi (K := K)) (by rfl) B.isinstance (by decide +kernel) (pa_cons (pv 0) (pa_cons (pe_bltn (v := .ty "tuple") (by rfl) B.tuple (by decide +kernel) rfl) pa_nil))) (pe_one (pe_cmpR (kEq (K := K) hr.units) (pe_callB (kLen (K := K)) (by rfl) B.len (by decide +kernel) (pa_cons (pv 0) pa_nil)) (pv 1) (nomark _)))))), fun as k hc => ?_⟩
  try dsimp only [cxOf]
  clear hr E H s outer A cdv f d B
  obtain ⟨d, n, rfl, q⟩ := hc
  simp only [st0, List.map_cons, List.map_nil, List.replicate, List.cons_append, List.nil_append]
  cases d <;> walk_at "w"
  all_goals try exact q
  rw [dec_len]
  exact q
def gcdOne : D → D → Bool
  | .int n, .int m => decide (Nat.gcd n.natAbs m.natAbs = 1)
  | _, _ => false
def isFrL : List D → Bool
  | [x, y] => isInt x && (isPos y && gcdOne x y)
  | _ => false
def isFr : D → Bool
  | .tuple ds => isFrL ds
  | _ => false
def c_is_frac : Con := fun as k => ∃ d : D, as = [.i d] ∧ k (.bool (isFr d))
theorem isFr_len {d : D} (h : isTupN 2 d = false) : isFr d = false := by
  cases d with
  | tuple ds =>
    have hl : ds.length ≠ 2 := of_decide_eq_false h
    match ds, hl with
    | [], _ => rfl
    | [_], _ => rfl
    | [_, _], hl => exact absurd rfl hl
    | _ :: _ :: _ :: _, _ => rfl
  | _ => rfl
theorem tup2 {d : D} (h : isTupN 2 d = true) : ∃ x y, d = .tuple [x, y] := by
  cases d with
  | tuple ds =>
    have hl : ds.length = 2 := of_decide_eq_true h
    match ds, hl with
    | [x, y], _ => exact ⟨x, y, rfl⟩
  | _ => cases h
theorem isFr_1 {x y : D} (h : isInt x = false) : isFr (.tuple [x, y]) = false := by
  show (isInt x && _) = false
  rw [h]
  rfl
theorem isFr_2 {x y : D} (h : isPos y = false) : isFr (.tuple [x, y]) = false := by
  show (isInt x && (isPos y && _)) = false
  rw [h, Bool.false_and, Bool.and_false]
theorem isInt_is {x : D} (h : isInt x = true) : ∃ n, x = .int n := by
  cases x <;> first | exact ⟨_, rfl⟩ | cases h
theorem isPos_is {x : D} (h : isPos x = true) : ∃ n : Int, x = .int n ∧ 1 ≤ n := by
  cases x <;> first | exact ⟨_, rfl, of_decide_eq_true h⟩ | cases h
abbrev n_is_fraction : List Str := ["value"]
abbrev s_is_fraction : Stmt := top 20
theorem sc_is_fraction : FnScope ["value"] ["value"] (defScope s_is_fraction) := ⟨rfl, rfl, rfl, by decide +kernel, rfl, by decide +kernel, by decide +kernel⟩
theorem h_is_fraction (B : Bl mg) (d : DefAt K mg "is_fraction" s_is_fraction []) (h_is_int_2 : Has P w K mg base CX0 "is_int" 1 [.non] (spOf K none (c_is_int))) (h_is_int_1 : Has P w K mg base CX0 "is_int" 1 [.non, .non] (spOf K none (c_is_int))) (h_is_tuple : Has P w K mg base CX0 "is_tuple" 1 [] (spOf K none (c_is_tuple))) : Has P w K mg base CX0 "is_fraction" 2 [] (spOf K none (c_is_frac)) := by
  refine d.pure sc_is_fraction (fun _ _ _ _ _ _ us hl => match us, hl with | [_], _ => rfl) 0 rfl (fun as k ⟨_, e, _⟩ => by rw [e]; rfl) fun f cdv A outer s H E hr => ⟨_, (pss_cons (ps_if (PW.pt (pw_or (pt_not (pt_val (pe_has h_is_tuple (hr.mono (by decide)) pass0 (pa_cons (pv 0) (pa_cons pe_int pa_nil))))) (pw_or (pt_not (pt_val (pe_has h_is_int_1 (hr.mono (by decide)) pass0 (pa_cons (pe_ix (kIx (K := K)) (pv 0) pe_int (fun _ _ => rfl)) pa_nil)))) (pw_or1 (pt_not (pt_val (pe_has h_is_int_2 (hr.mono (by decide)) pass0 (pa_cons (pe_ix (kIx (K := K)) (pv 0) pe_int (fun _ _ => rfl)) (pa_cons pe_int pa_nil))))))))) (pss_one (ps_ret pe_bl)) pss_nil)
      (pss_one (ps_ret (pe_cmpR (kEq (K := K) hr.units) (pe_callBfun cr_gcd (by rfl) B.gcd (pa_cons (pe_ix (kIx (K := K)) (pv 0) pe_int (fun _ _ => rfl)) (pa_cons (pe_ix (kIx (K := K)) (pv 0) pe_int (fun _ _ => rfl)) pa_nil))) pe_int (nomark _))))), fun as k hc => ?_⟩
  try dsimp only [cxOf]
  clear hr E H s outer A cdv f d B
  obtain ⟨d, rfl, q⟩ := hc
  simp only [st0, List.map_cons, List.map_nil, List.replicate, List.cons_append, List.nil_append]
  walk_at "w"
  refine ⟨_, 2, rfl, ?_⟩
  walk_at "w"
  refine ⟨fun h => ?_, fun h => ?_⟩
  · obtain ⟨x, y, rfl⟩ := tup2 (by simpa using h)
    walk_at "w"
    refine ⟨_, _, rfl, .inl ⟨rfl, ?_⟩⟩
    walk_at "w"
    refine ⟨fun h1 => ?_, fun h1 => ?_⟩
    · have hx : isInt x = true := by simpa using h1
      obtain ⟨n, rfl⟩ := isInt_is hx
      walk_at "w"
      refine ⟨_, _, rfl, .inr ⟨rfl, ?_⟩⟩
      walk_at "w"
      refine ⟨fun h2 => ?_, fun h2 => ?_⟩
      · have hy : isPos y = false := by simpa using h2
        rw [isFr_2 hy] at q
        walk_at "w"
        exact q
      · have hy : isPos y = true := by simpa using h2
        obtain ⟨m, rfl, hm⟩ := isPos_is hy
        walk_at "w"
        have e : isFr (.tuple [.int n, .int m]) = decide (((Nat.gcd n.natAbs m.natAbs : Nat) : Int) = 1) := by
          show (true && (decide (1 ≤ m) && decide (Nat.gcd n.natAbs m.natAbs = 1))) = _
          rw [decide_eq_true hm, Bool.true_and, Bool.true_and]
          congr 1
          exact propext (by omega)
        rw [e] at q
        exact q
    · have hx : isInt x = false := by simpa using h1
      rw [isFr_1 hx] at q
      walk_at "w"
      exact q
  · have hd : isTupN 2 d = false := by simpa using h
    rw [isFr_len hd] at q
    walk_at "w"
    exact q
end K88
/-! T5 -/
namespace K88
open PySem PySem.Spec PyProof.Rows L2 AL
local macro_rules | `(tactic| walk_at "bd") => `(tactic| first
  | assumption
  | (apply Sz.n; assumption)
  | (apply Sz.d; assumption)
  | ((with_reducible apply lt_mul); (case h1 => walk_at "bd"); (case h2 => walk_at "bd"))
  | ((with_reducible apply lt_addx); (case h1 => walk_at "bd"); (case h2 => walk_at "bd"))
  | ((with_reducible apply lt_subx); (case h1 => walk_at "bd"); (case h2 => walk_at "bd"))
  | ((with_reducible apply lt_neg); (case h => walk_at "bd")))
local macro_rules | `(tactic| walk_at "nz") => `(tactic| first
  | assumption
  | exact dnz _
  | ((with_reducible apply inz); (case h1 => walk_at "nz"); (case h2 => walk_at "nz")))
local macro_rules | `(tactic| walk_at "w") => `(tactic| repeat (first
  | with_reducible apply w_int
  | ((with_reducible apply w_var); (case h => exact rfl))
  | with_reducible apply wl_cons
  | with_reducible apply wl_nil
  | ((with_reducible refine And.intro (Nat.le_of_ble_eq_true ?hlen) ?_); (case hlen => exact rfl))
  | with_reducible apply w_tup
  | with_reducible apply w_op
  | with_reducible apply s_seq
  | with_reducible apply wa_cons
  | with_reducible apply wa_nil
  | with_reducible apply ru_i
  | with_reducible apply w_un
  | with_reducible apply s_asg
  | with_reducible apply w_call0
  | with_reducible apply w_callD2
  | with_reducible apply w_callD1
  | with_reducible apply w_callZ
  | with_reducible apply b_addI
  | ((with_reducible apply rb_ixT); (case e => exact rfl))
  | ((with_reducible apply rb_ixL); (case e => exact rfl))
  | with_reducible apply w_str
  | with_reducible apply w_sl
  | with_reducible apply o_none
  | with_reducible apply o_some
  | with_reducible apply sG_T
  | with_reducible apply sG_L
  | ((with_reducible apply s_app); (case e => exact rfl))
  | with_reducible apply w_if
  | with_reducible apply p_if
  | with_reducible apply t_test
  | with_reducible apply b_eqI
  | with_reducible apply s_next
  | with_reducible apply p_ret
  | ((with_reducible apply b_mulI); (case hc => (apply mulx; (case h1 => walk_at "bd"); (case h2 => walk_at "bd"); (case h => omega))))
  | with_reducible apply b_sub
  | with_reducible apply w_isT
  | with_reducible apply w_isL
  | with_reducible apply w_isI
  | with_reducible apply w_isB
  | with_reducible apply w_isS
  | with_reducible apply w_isN
  | with_reducible apply w_notN
  | with_reducible apply w_or
  | with_reducible apply w_and
  | with_reducible apply w_not
  | with_reducible apply w_chain
  | with_reducible apply w_cb
  | with_reducible apply t_or
  | with_reducible apply t_and
  | with_reducible apply t_not
  | with_reducible apply t_yes
  | ((with_reducible apply b_addT); (case hz => exact Nat.le_of_ble_eq_true rfl))
  | ((with_reducible apply b_addL); (case hz => exact Nat.le_of_ble_eq_true rfl))
  | with_reducible apply b_odd
  | with_reducible apply b_half
  | with_reducible apply t_truthI
  | with_reducible apply b_neI
  | with_reducible apply b_eqS
  | with_reducible apply b_eqB
  | with_reducible apply b_neB
  | with_reducible apply w_bl
  | with_reducible apply w_non
  | with_reducible apply t_B
  | with_reducible apply m_lst
  | with_reducible apply m_cat
  | with_reducible apply m_list
  | with_reducible apply w_lcLU
  | with_reducible apply w_lcTU
  | with_reducible apply s_forTU
  | with_reducible apply s_forLU
  | (with_reducible apply lcU_nil)
  | (with_reducible apply unr_nil)
  | with_reducible apply unr_one
  | ((with_reducible show LcU _ _ _ _ _ _ _ _ _); (refine lcU_one rfl (Nat.lt_of_succ_le (Nat.le_of_ble_eq_true rfl)) ?_))
  | ((with_reducible show (_ = true → _) ∧ (_ = false → _)); (first | refine ybt rfl ?_ | refine ybf rfl ?_))
  | ((with_reducible show (_ = false → _) ∧ (_ = true → _)); (first | refine obt rfl ?_ | refine obf rfl ?_))
  | with_reducible apply yt
  | with_reducible apply yf
  | with_reducible apply fy
  | with_reducible apply ft
  | ((with_reducible apply f_frz); (case e => exact rfl))
  | with_reducible apply s_asgG
  | (refine Exists.intro _ (And.intro (g_lst (by repeat (first | exact gs_nil | apply gs_one)) rfl) ?_))
  | (refine Exists.intro _ (And.intro (g_tup (by repeat (first | exact gs_nil | apply gs_one)) rfl) ?_))
  | with_reducible apply c_lenL
  | with_reducible apply c_lenT
  | with_reducible apply c_listL
  | with_reducible apply c_listT
  | with_reducible apply c_tupL
  | with_reducible apply c_abs
  | with_reducible apply c_int
  | with_reducible apply c_min
  | with_reducible apply rc_gcd
  | with_reducible apply rb_b
  | (refine And.intro (Nat.lt_of_succ_le (Nat.le_of_ble_eq_true rfl)) ?_)
  | with_reducible refine Exists.intro _ (And.intro rfl ?_)
  | refine And.intro (Nat.le_of_ble_eq_true rfl) ?_
  ))
variable {P : Program} {w : World} {K : PySem.W.Frag} {mg : Str → Option Value} {base : Heap}
theorem isFr_Fq (q : Rat) : isFr (Fq q) = true := by
  show (true && (decide ((1 : Int) ≤ (q.den : Int)) && decide (Nat.gcd q.num.natAbs ((q.den : Int)).natAbs = 1))) = true
  have h1 : (1 : Int) ≤ (q.den : Int) := by have := q.den_pos; omega
  have h2 : Nat.gcd q.num.natAbs ((q.den : Int)).natAbs = 1 := by simpa using q.reduced
  rw [decide_eq_true h1, decide_eq_true h2]
  rfl
theorem Fq_of {d : D} (h : isFr d = true) : ∃ q : Rat, d = Fq q := by
  cases d with
  | tuple ds =>
    match ds, h with
    | [x, y], h =>
      have h' : (isInt x && (isPos y && gcdOne x y)) = true := h
      rw [Bool.and_eq_true, Bool.and_eq_true] at h'
      obtain ⟨h1, h2, h3⟩ := h'
      obtain ⟨n, rfl⟩ := isInt_is h1
      obtain ⟨m, rfl, hm⟩ := isPos_is h2
      have hg : Nat.gcd n.natAbs m.natAbs = 1 := of_decide_eq_true h3
      have hm2 : ((m.toNat : Nat) : Int) = m := Int.toNat_of_nonneg (by omega)
      refine ⟨⟨n, m.toNat, by omega, by rw [show m.toNat = m.natAbs by omega]; exact hg⟩, ?_⟩
      show PyData.tuple _ = PyData.tuple [.int n, .int ((m.toNat : Nat) : Int)]
      rw [hm2]
  | _ => cases h
def c_ten : Con := fun as k => ∃ n : Nat, as = [.i (.int n)] ∧ n ≤ 1000 ∧ k (.int ((10 ^ n : Nat) : Int))
def tenI (n : Nat) (m : Nat) (ρ : Rho) : Prop := ∃ e f : Nat, ρ = [some (.i (.int n)), some (.i (.int ((10 ^ f : Nat) : Int))), some (.i (.int ((10 ^ e : Nat) : Int))), some (.i (.int m))] ∧ f + e * m = n ∧ (0 < m → e ≤ n)
theorem ten_lt {e b : Nat} (h : e ≤ b) : (((10 ^ e : Nat) : Int)).natAbs < 2 ^ (4 * b + 1) := by
  rw [Int.natAbs_natCast]
  have h1 : 10 ^ e ≤ 10 ^ b := Nat.pow_le_pow_right (by decide) h
  have h2 : 10 ^ b ≤ 16 ^ b := Nat.pow_le_pow_left (by decide) b
  have h3 : (16 : Nat) ^ b = 2 ^ (4 * b) := by rw [Nat.pow_mul]
  have h4 : (2 : Nat) ^ (4 * b) < 2 ^ (4 * b + 1) := Nat.pow_lt_pow_right (by decide) (by omega)
  omega
abbrev n_power_of_ten : List Str := ["k", "found", "base", "left"]
abbrev s_power_of_ten : Stmt := top 22
theorem sc_power_of_ten : FnScope ["k", "found", "base", "left"] ["k"] (defScope s_power_of_ten) := ⟨rfl, rfl, rfl, by decide +kernel, rfl, by decide +kernel, by decide +kernel⟩
theorem h_power_of_ten (B : Bl mg) (d : DefAt K mg "power_of_ten" s_power_of_ten []) : Has P w K mg base CX0 "power_of_ten" 1 [] (spOf K none (c_ten)) := by
  refine d.pure sc_power_of_ten (fun _ _ _ _ _ _ us hl => match us, hl with | [_], _ => rfl) 3 rfl (fun as k ⟨_, e, _⟩ => by rw [e]; rfl) fun f cdv A outer s H E hr => ⟨_, (pss_cons (ps_set (i := 1) sc_power_of_ten.nd rfl (Or.inl rfl) pe_int)
      (pss_cons (ps_set (i := 2) sc_power_of_ten.nd rfl (Or.inl rfl) pe_int)
      (pss_cons (ps_set (i := 3) sc_power_of_ten.nd rfl (Or.inl rfl) (pv 0))
      (pss_cons (ps_while PassesOwn.never (pt_cmpR op_gt (pv 3) pe_int (nomark _)) (pss_cons (ps_if (ktTruth (K := K) (pe_op op_oddG (pv 3) pe_int) (by intro _; rfl)) (pss_one (ps_set (i := 1) sc_power_of_ten.nd rfl (Or.inl rfl) (pe_op op_mulG (pv 1) (pv 2)))) pss_nil)
      (pss_cons (ps_set (i := 2) sc_power_of_ten.nd rfl (Or.inl rfl) (pe_op op_mulG (pv 2) (pv 2)))
      (pss_one (ps_set (i := 3) sc_power_of_ten.nd rfl (Or.inl rfl) (pe_op op_halfG (pv 3) pe_int))))))
      (pss_one (ps_ret (pv 1))))))), fun as k hc => ?_⟩
  try dsimp only [cxOf]
  clear hr E H s outer A cdv f d B
  obtain ⟨n, rfl, hn, q⟩ := hc
  simp only [st0, List.map_cons, List.map_nil, List.replicate, List.cons_append, List.nil_append]
  walk_at "w"
  refine s_while (tenI n) n ⟨1, 0, rfl, by omega, fun _ => by omega⟩ fun m ρ' ⟨e, f, hρ, h1, h2⟩ => ?_
  subst hρ
  walk_at "w"
  refine yn (fun hm => ?_) (fun hm => ?_)
  · have hm0 : 0 < m := by omega
    have he := h2 hm0
    have hf : f ≤ n := by have : 0 ≤ e * m := Nat.zero_le _; omega
    walk_at "w"
    have bf := ten_lt hf
    have be := ten_lt he
    have c1 : ((10 ^ f : Nat) : Int) * ((10 ^ e : Nat) : Int) = ((10 ^ (f + e) : Nat) : Int) := by rw [Nat.pow_add, Int.natCast_mul]
    have c2 : ((10 ^ e : Nat) : Int) * ((10 ^ e : Nat) : Int) = ((10 ^ (e + e) : Nat) : Int) := by rw [Nat.pow_add, Int.natCast_mul]
    have ed : e * m = (e + e) * (m / 2) + e * (m % 2) := by
      have := Nat.div_add_mod m 2
      conv => lhs; rw [← this]
      rw [Nat.mul_add, ← Nat.mul_assoc, Nat.mul_two]
    have hh : 0 < m / 2 → e + e ≤ n := fun hp => by
      have : (e + e) * 1 ≤ (e + e) * (m / 2) := Nat.mul_le_mul_left _ hp
      omega
    refine ⟨fun h => ?_, fun h => ?_⟩
    · have h3 : m % 2 = 1 := by
        have : ((m % 2 : Nat) : Int) ≠ 0 := by simpa using h
        omega
      walk_at "w"
      rw [c1, c2]
      refine ⟨m / 2, by omega, e + e, f + e, rfl, ?_, hh⟩
      rw [h3] at ed
      omega
    · have h3 : m % 2 = 0 := by
        have : ((m % 2 : Nat) : Int) = 0 := by simpa using h
        omega
      walk_at "w"
      rw [c2]
      refine ⟨m / 2, by omega, e + e, f, rfl, ?_, hh⟩
      rw [h3] at ed
      omega
  · have hm0 : m = 0 := by omega
    subst hm0
    walk_at "w"
    have : f = n := by simpa using h1
    subst this
    exact q
def wFig (n : Nat) (x : Rat) : Bool := decide (x.num.natAbs < 10 ^ n) && decide (x.den < 10 ^ n)
def c_within : Con := fun as k => ∃ (x : Rat) (n : Nat), as = [.i (Fq x), .i (.int n)] ∧ 10 ≤ n ∧ n ≤ 1000 ∧ k (.bool (wFig n x))
abbrev n_within_figures : List Str := ["a", "k", "bound"]
abbrev s_within_figures : Stmt := top 21
theorem sc_within_figures : FnScope ["a", "k", "bound"] ["a", "k"] (defScope s_within_figures) := ⟨rfl, rfl, rfl, by decide +kernel, rfl, by decide +kernel, by decide +kernel⟩
theorem h_within_figures (B : Bl mg) (d : DefAt K mg "within_figures" s_within_figures []) (h_power_of_ten : Has P w K mg base CX0 "power_of_ten" 1 [] (spOf K none (c_ten))) : Has P w K mg base CX0 "within_figures" 2 [] (spOf K none (c_within)) := by
  refine d.pure sc_within_figures (fun _ _ _ _ _ _ us hl => match us, hl with | [_, _], _ => rfl) 1 rfl (fun as k ⟨_, _, e, _⟩ => by rw [e]; rfl) fun f cdv A outer s H E hr => ⟨_, (pss_cons (ps_set (i := 2) sc_within_figures.nd rfl (Or.inl rfl) (pe_ifExp (pt_cmpR (kEq (K := K) hr.units) (pv 1) pe_int (nomark _)) (pe_op op_pow pe_int pe_int) (pe_has h_power_of_ten (hr.mono (by decide)) pass0 (pa_cons (pv 1) pa_nil))))
      (pss_one (ps_ret (pe_and (pe_chain op_lt op_lt (pe_un un_neg (pv 2)) (pe_ix (kIx (K := K)) (pv 0) pe_int (fun _ _ => rfl)) (pv 2)) (pe_one (pe_cmpR op_lt (pe_ix (kIx (K := K)) (pv 0) pe_int (fun _ _ => rfl)) (pv 2) (nomark _))))))), fun as k hc => ?_⟩
  try dsimp only [cxOf]
  clear hr E H s outer A cdv f d B
  obtain ⟨x, n, rfl, hn, hn2, q⟩ := hc
  simp only [st0, List.map_cons, List.map_nil, List.replicate, List.cons_append, List.nil_append]
  walk_at "w"
  refine yn (fun h => False.elim (by omega)) (fun h => ?_)
  walk_at "w"
  refine ⟨_, rfl, hn2, ?_⟩
  walk_at "w"
  have hb : ∀ b : Bool, wFig n x = b → k (.bool b) := fun b e => e ▸ q
  refine yn (fun h1 => ?_) (fun h1 => ?_)
  · walk_at "w"
    refine yn (fun h2 => ?_) (fun h2 => ?_)
    · walk_at "w"
      refine hb _ ?_
      unfold wFig
      rw [decide_eq_true (show x.num.natAbs < 10 ^ n by omega), Bool.true_and]
      congr 1
      exact propext (by omega)
    · walk_at "w"
      refine hb _ ?_
      unfold wFig
      rw [decide_eq_false (show ¬ x.num.natAbs < 10 ^ n by omega), Bool.false_and]
  · walk_at "w"
    refine hb _ ?_
    unfold wFig
    rw [decide_eq_false (show ¬ x.num.natAbs < 10 ^ n by omega), Bool.false_and]
end K88
/-! T6 -/
namespace K88
open PySem PySem.Spec PyProof.Rows L2 AL
local macro_rules | `(tactic| walk_at "bd") => `(tactic| first
  | assumption
  | (apply Sz.n; assumption)
  | (apply Sz.d; assumption)
  | ((with_reducible apply lt_mul); (case h1 => walk_at "bd"); (case h2 => walk_at "bd"))
  | ((with_reducible apply lt_addx); (case h1 => walk_at "bd"); (case h2 => walk_at "bd"))
  | ((with_reducible apply lt_subx); (case h1 => walk_at "bd"); (case h2 => walk_at "bd"))
  | ((with_reducible apply lt_neg); (case h => walk_at "bd")))
local macro_rules | `(tactic| walk_at "nz") => `(tactic| first
  | assumption
  | exact dnz _
  | ((with_reducible apply inz); (case h1 => walk_at "nz"); (case h2 => walk_at "nz")))
local macro_rules | `(tactic| walk_at "w") => `(tactic| repeat (first
  | with_reducible apply w_int
  | ((with_reducible apply w_var); (case h => exact rfl))
  | with_reducible apply wl_cons
  | with_reducible apply wl_nil
  | ((with_reducible refine And.intro (Nat.le_of_ble_eq_true ?hlen) ?_); (case hlen => exact rfl))
  | with_reducible apply w_tup
  | with_reducible apply w_op
  | with_reducible apply s_seq
  | with_reducible apply wa_cons
  | with_reducible apply wa_nil
  | with_reducible apply ru_i
  | with_reducible apply w_un
  | with_reducible apply s_asg
  | with_reducible apply w_call0
  | with_reducible apply w_callD2
  | with_reducible apply w_callD1
  | with_reducible apply w_callZ
  | with_reducible apply b_addI
  | ((with_reducible apply rb_ixT); (case e => exact rfl))
  | ((with_reducible apply rb_ixL); (case e => exact rfl))
  | with_reducible apply w_str
  | with_reducible apply w_sl
  | with_reducible apply o_none
  | with_reducible apply o_some
  | with_reducible apply sG_T
  | with_reducible apply sG_L
  | ((with_reducible apply s_app); (case e => exact rfl))
  | with_reducible apply w_if
  | with_reducible apply p_if
  | with_reducible apply t_test
  | with_reducible apply b_eqI
  | with_reducible apply s_next
  | with_reducible apply p_ret
  | ((with_reducible apply b_mulI); (case hc => (apply mulx; (case h1 => walk_at "bd"); (case h2 => walk_at "bd"); (case h => omega))))
  | with_reducible apply b_sub
  | with_reducible apply w_isT
  | with_reducible apply w_isL
  | with_reducible apply w_isI
  | with_reducible apply w_isB
  | with_reducible apply w_isS
  | with_reducible apply w_isN
  | with_reducible apply w_notN
  | with_reducible apply w_or
  | with_reducible apply w_and
  | with_reducible apply w_not
  | with_reducible apply w_chain
  | with_reducible apply w_cb
  | with_reducible apply t_or
  | with_reducible apply t_and
  | with_reducible apply t_not
  | with_reducible apply t_yes
  | ((with_reducible apply b_addT); (case hz => exact Nat.le_of_ble_eq_true rfl))
  | ((with_reducible apply b_addL); (case hz => exact Nat.le_of_ble_eq_true rfl))
  | with_reducible apply rb_b
  | with_reducible apply t_truthI
  | with_reducible apply b_neI
  | with_reducible apply b_eqS
  | with_reducible apply b_eqB
  | with_reducible apply b_neB
  | with_reducible apply w_bl
  | with_reducible apply w_non
  | with_reducible apply t_B
  | with_reducible apply m_lst
  | with_reducible apply m_cat
  | with_reducible apply m_list
  | with_reducible apply w_lcLU
  | with_reducible apply w_lcTU
  | with_reducible apply s_forTU
  | with_reducible apply s_forLU
  | (with_reducible apply lcU_nil)
  | (with_reducible apply unr_nil)
  | with_reducible apply unr_one
  | ((with_reducible show LcU _ _ _ _ _ _ _ _ _); (refine lcU_one rfl (Nat.lt_of_succ_le (Nat.le_of_ble_eq_true rfl)) ?_))
  | ((with_reducible show (_ = true → _) ∧ (_ = false → _)); (first | refine ybt rfl ?_ | refine ybf rfl ?_))
  | ((with_reducible show (_ = false → _) ∧ (_ = true → _)); (first | refine obt rfl ?_ | refine obf rfl ?_))
  | with_reducible apply yt
  | with_reducible apply yf
  | with_reducible apply fy
  | with_reducible apply ft
  | ((with_reducible apply f_frz); (case e => exact rfl))
  | with_reducible apply s_asgG
  | (refine Exists.intro _ (And.intro (g_lst (by repeat (first | exact gs_nil | apply gs_one)) rfl) ?_))
  | (refine Exists.intro _ (And.intro (g_tup (by repeat (first | exact gs_nil | apply gs_one)) rfl) ?_))
  | with_reducible apply c_lenL
  | with_reducible apply c_lenT
  | with_reducible apply c_listL
  | with_reducible apply c_listT
  | with_reducible apply c_tupL
  | with_reducible apply c_abs
  | with_reducible apply c_int
  | with_reducible apply c_min
  | with_reducible apply rc_gcd
  | with_reducible apply rb_b
  | (refine And.intro (Nat.lt_of_succ_le (Nat.le_of_ble_eq_true rfl)) ?_)
  | with_reducible refine Exists.intro _ (And.intro rfl ?_)
  | refine And.intro (Nat.le_of_ble_eq_true rfl) ?_
  ))
variable {P : Program} {w : World} {K : PySem.W.Frag} {mg : Str → Option Value} {base : Heap}
def isPtL : List D → Bool
  | [x, y] => isFr x && isFr y
  | _ => false
def isPt : D → Bool
  | .tuple ds => isPtL ds
  | _ => false
def c_is_point : Con := fun as k => ∃ d : D, as = [.i d] ∧ k (.bool (isPt d))
theorem isPt_len {d : D} (h : isTupN 2 d = false) : isPt d = false := by
  cases d with
  | tuple ds =>
    have hl : ds.length ≠ 2 := of_decide_eq_false h
    match ds, hl with
    | [], _ => rfl
    | [_], _ => rfl
    | [_, _], hl => exact absurd rfl hl
    | _ :: _ :: _ :: _, _ => rfl
  | _ => rfl
theorem isPt_ptD (p : Pt) : isPt (ptD p) = true := by
  show (isFr (Fq p.x) && isFr (Fq p.y)) = true
  rw [isFr_Fq, isFr_Fq]
  rfl
theorem ptD_of {d : D} (h : isPt d = true) : ∃ p : Pt, d = ptD p := by
  cases d with
  | tuple ds =>
    match ds, h with
    | [x, y], h =>
      have h' : (isFr x && isFr y) = true := h
      rw [Bool.and_eq_true] at h'
      obtain ⟨a, rfl⟩ := Fq_of h'.1
      obtain ⟨b, rfl⟩ := Fq_of h'.2
      exact ⟨⟨a, b⟩, rfl⟩
  | _ => cases h
abbrev n_is_point : List Str := ["value"]
abbrev s_is_point : Stmt := top 35
theorem sc_is_point : FnScope ["value"] ["value"] (defScope s_is_point) := ⟨rfl, rfl, rfl, by decide +kernel, rfl, by decide +kernel, by decide +kernel⟩
theorem h_is_point (B : Bl mg) (d : DefAt K mg "is_point" s_is_point []) (h_is_fraction : Has P w K mg base CX0 "is_fraction" 2 [] (spOf K none (c_is_frac))) (h_is_tuple : Has P w K mg base CX0 "is_tuple" 1 [] (spOf K none (c_is_tuple))) : Has P w K mg base CX0 "is_point" 3 [] (spOf K none (c_is_point)) := by
  refine d.pure sc_is_point (fun _ _ _ _ _ _ us hl => match us, hl with | [_], _ => rfl) 0 rfl (fun as k ⟨_, e, _⟩ => by rw [e]; rfl) fun f cdv A outer s H E hr => ⟨_, (pss_one (ps_ret (pe_and (pe_has h_is_tuple (hr.mono (by decide)) pass0 (pa_cons (pv 0) (pa_cons pe_int pa_nil))) (pe_and (pe_has h_is_fraction (hr.mono (by decide)) pass0 (pa_cons (pe_ix (kIx (K := K)) (pv 0) pe_int (fun _ _ => rfl)) pa_nil)) (pe_one (pe_has h_is_fraction (hr.mono (by decide)) pass0 (pa_cons (pe_ix (kIx (K := K)) (pv 0) pe_int (fun _ _ => rfl)) pa_nil))))))), fun as k hc => ?_⟩
  try dsimp only [cxOf]
  clear hr E H s outer A cdv f d B
  obtain ⟨d, rfl, q⟩ := hc
  simp only [st0, List.map_cons, List.map_nil, List.replicate, List.cons_append, List.nil_append]
  walk_at "w"
  refine ⟨_, 2, rfl, ?_⟩
  walk_at "w"
  refine ⟨fun h => ?_, fun h => ?_⟩
  · obtain ⟨x, y, rfl⟩ := tup2 h
    have q' : k (.bool (isFr x && isFr y)) := q
    walk_at "w"
    refine ⟨_, rfl, ?_⟩
    walk_at "w"
    refine ⟨fun h1 => ?_, fun h1 => ?_⟩
    · rw [h1, Bool.true_and] at q'
      walk_at "w"
      exact ⟨_, rfl, q'⟩
    · rw [h1, Bool.false_and] at q'
      walk_at "w"
      exact q'
  · rw [isPt_len h] at q
    exact q
def isSgL : List D → Bool
  | [x, y] => isPt x && isPt y
  | _ => false
def isSg : D → Bool
  | .tuple ds => isSgL ds
  | _ => false
def c_is_seg : Con := fun as k => ∃ d : D, as = [.i d] ∧ k (.bool (isSg d))
theorem isSg_len {d : D} (h : isTupN 2 d = false) : isSg d = false := by
  cases d with
  | tuple ds =>
    have hl : ds.length ≠ 2 := of_decide_eq_false h
    match ds, hl with
    | [], _ => rfl
    | [_], _ => rfl
    | [_, _], hl => exact absurd rfl hl
    | _ :: _ :: _ :: _, _ => rfl
  | _ => rfl
abbrev n_is_segment : List Str := ["value"]
abbrev s_is_segment : Stmt := top 36
theorem sc_is_segment : FnScope ["value"] ["value"] (defScope s_is_segment) := ⟨rfl, rfl, rfl, by decide +kernel, rfl, by decide +kernel, by decide +kernel⟩
theorem h_is_segment (B : Bl mg) (d : DefAt K mg "is_segment" s_is_segment []) (h_is_point : Has P w K mg base CX0 "is_point" 3 [] (spOf K none (c_is_point))) (h_is_tuple : Has P w K mg base CX0 "is_tuple" 1 [] (spOf K none (c_is_tuple))) : Has P w K mg base CX0 "is_segment" 4 [] (spOf K none (c_is_seg)) := by
  refine d.pure sc_is_segment (fun _ _ _ _ _ _ us hl => match us, hl with | [_], _ => rfl) 0 rfl (fun as k ⟨_, e, _⟩ => by rw [e]; rfl) fun f cdv A outer s H E hr => ⟨_, (pss_one (ps_ret (pe_and (pe_has h_is_tuple (hr.mono (by decide)) pass0 (pa_cons (pv 0) (pa_cons pe_int pa_nil))) (pe_and (pe_has h_is_point (hr.mono (by decide)) pass0 (pa_cons (pe_ix (kIx (K := K)) (pv 0) pe_int (fun _ _ => rfl)) pa_nil)) (pe_one (pe_has h_is_point (hr.mono (by decide)) pass0 (pa_cons (pe_ix (kIx (K := K)) (pv 0) pe_int (fun _ _ => rfl)) pa_nil))))))), fun as k hc => ?_⟩
  try dsimp only [cxOf]
  clear hr E H s outer A cdv f d B
  obtain ⟨d, rfl, q⟩ := hc
  simp only [st0, List.map_cons, List.map_nil, List.replicate, List.cons_append, List.nil_append]
  walk_at "w"
  refine ⟨_, 2, rfl, ?_⟩
  walk_at "w"
  refine ⟨fun h => ?_, fun h => ?_⟩
  · obtain ⟨x, y, rfl⟩ := tup2 h
    have q' : k (.bool (isPt x && isPt y)) := q
    walk_at "w"
    refine ⟨_, rfl, ?_⟩
    walk_at "w"
    refine ⟨fun h1 => ?_, fun h1 => ?_⟩
    · rw [h1, Bool.true_and] at q'
      walk_at "w"
      exact ⟨_, rfl, q'⟩
    · rw [h1, Bool.false_and] at q'
      walk_at "w"
      exact q'
  · rw [isSg_len h] at q
    exact q
/-- a row of whole numbers that stands for a point -/
structure Tri (p : Pt) (n : Nat) (X Y W : Int) : Prop where
  x : (X : Rat) = p.x * (W : Rat)
  y : (Y : Rat) = p.y * (W : Rat)
  w : 0 < W
  bx : X.natAbs < 2 ^ n
  by' : Y.natAbs < 2 ^ n
  bw : W.natAbs < 2 ^ n
def c_triple : Con := fun as k => ∃ (p : Pt) (n : Nat), as = [.i (ptD p)] ∧ PSz n p ∧ n ≤ 9000 ∧ ∀ X Y W, Tri p (2 * n) X Y W → k (.tuple [.int X, .int Y, .int W])
theorem den_pos' (x : Rat) : (0 : Int) < (x.den : Int) := by have := x.den_pos; omega
theorem tri_one {p : Pt} {n : Nat} (h : PSz n p) (h1 : (p.x.den : Int) = 1) (h2 : (p.y.den : Int) = 1) : Tri p (2 * n) p.x.num p.y.num 1 := by
  have e1 : (p.x.den : Rat) = 1 := by rw [← Rat.intCast_natCast, h1]; rfl
  have e2 : (p.y.den : Rat) = 1 := by rw [← Rat.intCast_natCast, h2]; rfl
  refine ⟨?_, ?_, by decide, lt_ltx (Sz.n h.1) (by omega), lt_ltx (Sz.n h.2) (by omega), ?_⟩
  · rw [nu, e1]; rfl
  · rw [nu, e2]; rfl
  · have := h.1.2
    have e : p.x.den = 1 := by omega
    rw [e] at this
    exact Nat.lt_of_lt_of_le this (Nat.pow_le_pow_right (by decide) (by omega))
theorem tri_two {p : Pt} {n : Nat} (h : PSz n p) : Tri p (2 * n) (p.x.num * p.y.den) (p.y.num * p.x.den) (p.x.den * p.y.den) := by
  refine ⟨?_, ?_, Int.mul_pos (den_pos' _) (den_pos' _), lt_ltx (lt_mul (Sz.n h.1) (Sz.d h.2)) (by omega), lt_ltx (lt_mul (Sz.n h.2) (Sz.d h.1)) (by omega), lt_ltx (lt_mul (Sz.d h.1) (Sz.d h.2)) (by omega)⟩
  · simp only [Rat.intCast_mul, Rat.intCast_natCast, nu]
    grind
  · simp only [Rat.intCast_mul, Rat.intCast_natCast, nu]
    grind
abbrev n_triple_of : List Str := ["p", "x", "y"]
abbrev s_triple_of : Stmt := top 30
theorem sc_triple_of : FnScope ["p", "x", "y"] ["p"] (defScope s_triple_of) := ⟨rfl, rfl, rfl, by decide +kernel, rfl, by decide +kernel, by decide +kernel⟩
theorem h_triple_of (B : Bl mg) (d : DefAt K mg "triple_of" s_triple_of []) : Has P w K mg base CX0 "triple_of" 1 [] (spOf K none (c_triple)) := by
  refine d.pure sc_triple_of (fun _ _ _ _ _ _ us hl => match us, hl with | [_], _ => rfl) 2 rfl (fun as k ⟨_, _, e, _⟩ => by rw [e]; rfl) fun f cdv A outer s H E hr => ⟨_, (pss_cons (ps_set (i := 1) sc_triple_of.nd rfl (Or.inl rfl) (pe_ix (kIx (K := K)) (pv 0) pe_int (fun _ _ => rfl)))
      (pss_cons (ps_set (i := 2) sc_triple_of.nd rfl (Or.inl rfl) (pe_ix (kIx (K := K)) (pv 0) pe_int (fun _ _ => rfl)))
      (pss_cons (ps_if (PW.pt (pw_and (pt_cmpR (kEq (K := K) hr.units) (pe_ix (kIx (K := K)) (pv 1) pe_int (fun _ _ => rfl)) pe_int (nomark _)) (pw_and1 (pt_cmpR (kEq (K := K) hr.units) (pe_ix (kIx (K := K)) (pv 2) pe_int (fun _ _ => rfl)) pe_int (nomark _))))) (pss_one (ps_ret (pe_tup (pa_cons (pe_ix (kIx (K := K)) (pv 1) pe_int (fun _ _ => rfl)) (pa_cons (pe_ix (kIx (K := K)) (pv 2) pe_int (fun _ _ => rfl)) (pa_cons pe_int pa_nil)))))) pss_nil)
      (pss_one (ps_ret (pe_tup (pa_cons (pe_op op_mulG (pe_ix (kIx (K := K)) (pv 1) pe_int (fun _ _ => rfl)) (pe_ix (kIx (K := K)) (pv 2) pe_int (fun _ _ => rfl))) (pa_cons (pe_op op_mulG (pe_ix (kIx (K := K)) (pv 2) pe_int (fun _ _ => rfl)) (pe_ix (kIx (K := K)) (pv 1) pe_int (fun _ _ => rfl))) (pa_cons (pe_op op_mulG (pe_ix (kIx (K := K)) (pv 1) pe_int (fun _ _ => rfl)) (pe_ix (kIx (K := K)) (pv 2) pe_int (fun _ _ => rfl))) pa_nil))))))))), fun as k hc => ?_⟩
  try dsimp only [cxOf]
  clear hr E H s outer A cdv f d B
  obtain ⟨p, n, rfl, hp, hn, q⟩ := hc
  simp only [st0, List.map_cons, List.map_nil, List.replicate, List.cons_append, List.nil_append]
  walk_at "w"
  refine yn (fun h1 => ?_) (fun h1 => ?_)
  · walk_at "w"
    refine yn (fun h2 => ?_) (fun h2 => ?_)
    · walk_at "w"
      exact q _ _ _ (tri_one hp h1 h2)
    · have hx := hp.1
      have hy := hp.2
      walk_at "w"
      exact q _ _ _ (tri_two hp)
  · have hx := hp.1
    have hy := hp.2
    walk_at "w"
    exact q _ _ _ (tri_two hp)
abbrev i3 (a b c : Int) : D := .tuple [.int a, .int b, .int c]
def c_cross3 : Con := fun as k => ∃ (a b c a' b' c' : Int) (n m : Nat), as = [.i (i3 a b c), .i (i3 a' b' c')] ∧ (a.natAbs < 2 ^ n ∧ b.natAbs < 2 ^ n ∧ c.natAbs < 2 ^ n) ∧ (a'.natAbs < 2 ^ m ∧ b'.natAbs < 2 ^ m ∧ c'.natAbs < 2 ^ m) ∧ n + m ≤ 1000000 ∧ k (i3 (b * c' - c * b') (c * a' - a * c') (a * b' - b * a'))
abbrev n_cross3 : List Str := ["u", "v"]
abbrev s_cross3 : Stmt := top 31
theorem sc_cross3 : FnScope ["u", "v"] ["u", "v"] (defScope s_cross3) := ⟨rfl, rfl, rfl, by decide +kernel, rfl, by decide +kernel, by decide +kernel⟩
theorem h_cross3 (B : Bl mg) (d : DefAt K mg "cross3" s_cross3 []) : Has P w K mg base CX0 "cross3" 1 [] (spOf K none (c_cross3)) := by
  refine d.pure sc_cross3 (fun _ _ _ _ _ _ us hl => match us, hl with | [_, _], _ => rfl) 0 rfl (fun as k ⟨_, _, _, _, _, _, _, _, e, _⟩ => by rw [e]; rfl) fun f cdv A outer s H E hr => ⟨_, (pss_one (ps_ret (pe_tup (pa_cons (pe_op op_sub (pe_op op_mulG (pe_ix (kIx (K := K)) (pv 0) pe_int (fun _ _ => rfl)) (pe_ix (kIx (K := K)) (pv 1) pe_int (fun _ _ => rfl))) (pe_op op_mulG (pe_ix (kIx (K := K)) (pv 0) pe_int (fun _ _ => rfl)) (pe_ix (kIx (K := K)) (pv 1) pe_int (fun _ _ => rfl)))) (pa_cons (pe_op op_sub (pe_op op_mulG (pe_ix (kIx (K := K)) (pv 0) pe_int (fun _ _ => rfl)) (pe_ix (kIx (K := K)) (pv 1) pe_int (fun _ _ => rfl))) (pe_op op_mulG (pe_ix (kIx (K := K)) (pv 0) pe_int (fun _ _ => rfl)) (pe_ix (kIx (K := K)) (pv 1) pe_int (fun _ _ => rfl)))) (pa_cons (pe_op op_sub (pe_op op_mulG (pe_ix (kIx (K := K)) (pv 0) pe_int (fun _ _ => rfl)) (pe_ix (kIx (K := K)) (pv 1) pe_int (fun _ _ => rfl))) (pe_op op_mulG (pe_ix (kIx (K := K)) (pv 0) pe_int (fun _ _ => rfl)) (pe_ix (kIx (K := K)) (pv 1) pe_int (fun _ _ => rfl)))) pa_nil)))))), fun as k hc => ?_⟩
  try dsimp only [cxOf]
  clear hr E H s outer A cdv f d B
  obtain ⟨a, b, c, a', b', c', n, m, rfl, ⟨h1, h2, h3⟩, ⟨g1, g2, g3⟩, hl, q⟩ := hc
  simp only [st0, List.map_cons, List.map_nil, List.replicate, List.cons_append, List.nil_append]
  walk_at "w"
  exact q
def c_dot3 : Con := fun as k => ∃ (a b c a' b' c' : Int) (n m : Nat), as = [.i (i3 a b c), .i (i3 a' b' c')] ∧ (a.natAbs < 2 ^ n ∧ b.natAbs < 2 ^ n ∧ c.natAbs < 2 ^ n) ∧ (a'.natAbs < 2 ^ m ∧ b'.natAbs < 2 ^ m ∧ c'.natAbs < 2 ^ m) ∧ n + m ≤ 1000000 ∧ k (.int (a * a' + b * b' + c * c'))
abbrev n_dot3 : List Str := ["u", "v"]
abbrev s_dot3 : Stmt := top 32
theorem sc_dot3 : FnScope ["u", "v"] ["u", "v"] (defScope s_dot3) := ⟨rfl, rfl, rfl, by decide +kernel, rfl, by decide +kernel, by decide +kernel⟩
theorem h_dot3 (B : Bl mg) (d : DefAt K mg "dot3" s_dot3 []) : Has P w K mg base CX0 "dot3" 1 [] (spOf K none (c_dot3)) := by
  refine d.pure sc_dot3 (fun _ _ _ _ _ _ us hl => match us, hl with | [_, _], _ => rfl) 0 rfl (fun as k ⟨_, _, _, _, _, _, _, _, e, _⟩ => by rw [e]; rfl) fun f cdv A outer s H E hr => ⟨_, (pss_one (ps_ret (pe_op (kAdd (K := K)) (pe_op (kAdd (K := K)) (pe_op op_mulG (pe_ix (kIx (K := K)) (pv 0) pe_int (fun _ _ => rfl)) (pe_ix (kIx (K := K)) (pv 1) pe_int (fun _ _ => rfl))) (pe_op op_mulG (pe_ix (kIx (K := K)) (pv 0) pe_int (fun _ _ => rfl)) (pe_ix (kIx (K := K)) (pv 1) pe_int (fun _ _ => rfl)))) (pe_op op_mulG (pe_ix (kIx (K := K)) (pv 0) pe_int (fun _ _ => rfl)) (pe_ix (kIx (K := K)) (pv 1) pe_int (fun _ _ => rfl)))))), fun as k hc => ?_⟩
  try dsimp only [cxOf]
  clear hr E H s outer A cdv f d B
  obtain ⟨a, b, c, a', b', c', n, m, rfl, ⟨h1, h2, h3⟩, ⟨g1, g2, g3⟩, hl, q⟩ := hc
  simp only [st0, List.map_cons, List.map_nil, List.replicate, List.cons_append, List.nil_append]
  walk_at "w"
  exact q
def c_sign : Con := fun as k => ∃ n : Int, as = [.i (.int n)] ∧ ∀ s : Int, (s = 0 ↔ n = 0) → k (.int s)
abbrev n_sign_of : List Str := ["n"]
abbrev s_sign_of : Stmt := top 33
theorem sc_sign_of : FnScope ["n"] ["n"] (defScope s_sign_of) := ⟨rfl, rfl, rfl, by decide +kernel, rfl, by decide +kernel, by decide +kernel⟩
theorem h_sign_of (B : Bl mg) (d : DefAt K mg "sign_of" s_sign_of []) : Has P w K mg base CX0 "sign_of" 1 [] (spOf K none (c_sign)) := by
  refine d.pure sc_sign_of (fun _ _ _ _ _ _ us hl => match us, hl with | [_], _ => rfl) 0 rfl (fun as k ⟨_, e, _⟩ => by rw [e]; rfl) fun f cdv A outer s H E hr => ⟨_, (pss_one (ps_ret (pe_ifExp (pt_cmpR op_gt (pv 0) pe_int (nomark _)) pe_int (pe_ifExp (pt_cmpR op_lt (pv 0) pe_int (nomark _)) (pe_un un_neg pe_int) pe_int)))), fun as k hc => ?_⟩
  try dsimp only [cxOf]
  clear hr E H s outer A cdv f d B
  obtain ⟨n, rfl, q⟩ := hc
  simp only [st0, List.map_cons, List.map_nil, List.replicate, List.cons_append, List.nil_append]
  walk_at "w"
  refine yn (fun h1 => ?_) (fun h1 => ?_)
  · walk_at "w"
    exact q _ (by omega)
  · walk_at "w"
    refine yn (fun h2 => ?_) (fun h2 => ?_)
    · walk_at "w"
      exact q _ (by omega)
    · walk_at "w"
      exact q _ (by omega)
theorem eqv_pt {p r : Pt} : PyData.eqvAll [Fq p.x, Fq p.y] [Fq r.x, Fq r.y] = (decide (p.x = r.x) && decide (p.y = r.y)) := by
  show (PyData.eqv (Fq p.x) (Fq r.x) && (PyData.eqv (Fq p.y) (Fq r.y) && true)) = _
  rw [eqv_Fq, eqv_Fq, Bool.and_true]
theorem tri_side {p q r : Pt} {n : Nat} {X Y W X' Y' W' X'' Y'' W'' : Int} (h : Tri p n X Y W) (g : Tri q n X' Y' W') (f : Tri r n X'' Y'' W'') :
    ((Y * W' - W * Y') * X'' + (W * X' - X * W') * Y'' + (X * Y' - Y * X') * W'' = 0) ↔ (q.sub p).cr (r.sub p) = 0 := by
  have e : (((Y * W' - W * Y') * X'' + (W * X' - X * W') * Y'' + (X * Y' - Y * X') * W'' : Int) : Rat) = (q.sub p).cr (r.sub p) * ((W : Rat) * (W' : Rat) * (W'' : Rat)) := by
    simp only [Rat.intCast_add, Rat.intCast_sub, Rat.intCast_mul, h.x, h.y, g.x, g.y, f.x, f.y, Pt.cr, Pt.sub]
    grind
  have z : ∀ {i : Int}, 0 < i → (i : Rat) ≠ 0 := fun {i} hi c => by
    have : i = 0 := by exact_mod_cast c
    omega
  have hw : ((W : Rat) * (W' : Rat) * (W'' : Rat)) ≠ 0 := mz (mz (z h.w) (z g.w)) (z f.w)
  constructor
  · intro c
    rw [c] at e
    have e0 : ((0 : Int) : Rat) = 0 := rfl
    rw [e0] at e
    rcases Rat.mul_eq_zero.mp e.symm with h1 | h1
    · exact h1
    · exact absurd h1 hw
  · intro c
    rw [c, Rat.zero_mul] at e
    exact_mod_cast e
def c_side : Con := fun as k => ∃ (p q r : Pt) (n : Nat), as = [.i (ptD p), .i (ptD q), .i (ptD r)] ∧ PSz n p ∧ PSz n q ∧ PSz n r ∧ n ≤ 9000 ∧ ∀ s : Int, (s = 0 ↔ (q.sub p).cr (r.sub p) = 0) → k (.int s)
abbrev n_side_p : List Str := ["p", "q", "r"]
abbrev s_side_p : Stmt := top 37
theorem sc_side_p : FnScope ["p", "q", "r"] ["p", "q", "r"] (defScope s_side_p) := ⟨rfl, rfl, rfl, by decide +kernel, rfl, by decide +kernel, by decide +kernel⟩
theorem h_side_p (B : Bl mg) (d : DefAt K mg "side_p" s_side_p []) (h_sign_of : Has P w K mg base CX0 "sign_of" 1 [] (spOf K none (c_sign))) (h_dot3 : Has P w K mg base CX0 "dot3" 1 [] (spOf K none (c_dot3))) (h_triple_of : Has P w K mg base CX0 "triple_of" 1 [] (spOf K none (c_triple))) (h_cross3 : Has P w K mg base CX0 "cross3" 1 [] (spOf K none (c_cross3))) : Has P w K mg base CX0 "side_p" 2 [] (spOf K none (c_side)) := by
  refine d.pure sc_side_p (fun _ _ _ _ _ _ us hl => match us, hl with | [_, _, _], _ => rfl) 0 rfl (fun as k ⟨_, _, _, _, e, _⟩ => by rw [e]; rfl) fun f cdv A outer s H E hr => ⟨_, (pss_cons (ps_if (pt_cmpR (kEq (K := K) hr.units) (pv 0) (pv 1) (nomark _)) (pss_one (ps_ret pe_int)) pss_nil)
      (pss_one (ps_ret (pe_has h_sign_of (hr.mono (by decide)) pass0 (pa_cons (pe_has h_dot3 (hr.mono (by decide)) pass0 (pa_cons (pe_has h_cross3 (hr.mono (by decide)) pass0 (pa_cons (pe_has h_triple_of (hr.mono (by decide)) pass0 (pa_cons (pv 0) pa_nil)) (pa_cons (pe_has h_triple_of (hr.mono (by decide)) pass0 (pa_cons (pv 1) pa_nil)) pa_nil))) (pa_cons (pe_has h_triple_of (hr.mono (by decide)) pass0 (pa_cons (pv 2) pa_nil)) pa_nil))) pa_nil))))), fun as k hc => ?_⟩
  try dsimp only [cxOf]
  clear hr E H s outer A cdv f d B
  obtain ⟨p, q, r, n, rfl, hp, hq, hr, hn, kk⟩ := hc
  simp only [st0, List.map_cons, List.map_nil, List.replicate, List.cons_append, List.nil_append]
  walk_at "w"
  refine b_eqT rfl rfl ?_
  rw [eqv_pt]
  walk_at "w"
  refine ⟨fun h => ?_, fun h => ?_⟩
  · rw [Bool.and_eq_true] at h
    have h1 : p.x = q.x := of_decide_eq_true h.1
    have h2 : p.y = q.y := of_decide_eq_true h.2
    walk_at "w"
    refine kk 0 ?_
    refine ⟨fun _ => ?_, fun _ => rfl⟩
    simp only [Pt.cr, Pt.sub, h1, h2]
    grind
  · walk_at "w"
    refine ⟨_, _, rfl, hp, hn, fun X Y W t1 => ?_⟩
    walk_at "w"
    refine ⟨_, _, rfl, hq, hn, fun X' Y' W' t2 => ?_⟩
    walk_at "w"
    refine ⟨_, _, _, _, _, _, _, _, rfl, ⟨t1.bx, t1.by', t1.bw⟩, ⟨t2.bx, t2.by', t2.bw⟩, by omega, ?_⟩
    walk_at "w"
    refine ⟨_, _, rfl, hr, hn, fun X'' Y'' W'' t3 => ?_⟩
    walk_at "w"
    refine ⟨_, _, _, _, _, _, _, _, rfl, ⟨lt_subx (lt_mul t1.by' t2.bw) (lt_mul t1.bw t2.by'), lt_subx (lt_mul t1.bw t2.bx) (lt_mul t1.bx t2.bw), lt_subx (lt_mul t1.bx t2.by') (lt_mul t1.by' t2.bx)⟩, ⟨t3.bx, t3.by', t3.bw⟩, by omega, ?_⟩
    walk_at "w"
    refine ⟨_, rfl, fun s hs => kk s (hs.trans (tri_side t1 t2 t3))⟩
/-! rows of segments -/
structure Sg where
  p : Pt
  q : Pt
abbrev sgD (s : Sg) : D := .tuple [ptD s.p, ptD s.q]
def Sg.by (t : Tf) (s : Sg) : Sg := ⟨t.on s.p, t.on s.q⟩
def SSz (n : Nat) (s : Sg) : Prop := PSz n s.p ∧ PSz n s.q
def c_rows : Con := fun as k => ∃ (t : Tf) (l : List Sg) (n m : Nat), as = [.i (tfD t), .i (.list (l.map sgD))] ∧ TSz n t ∧ (∀ s ∈ l, SSz m s) ∧ 3 * n + 2 * m + 1 ≤ 9000 ∧ l.length ≤ 1000 ∧ k (.list ((l.map (Sg.by t)).map sgD))
theorem map_get {α : Type} {f : α → D} {l : List α} {i : Nat} {d : D} (h : (l.map f)[i]? = some d) : ∃ x, l[i]? = some x ∧ d = f x := by
  rw [List.getElem?_map] at h
  obtain ⟨x, h1, h2⟩ := Option.map_eq_some_iff.mp h
  exact ⟨x, h1, h2.symm⟩
theorem take_one {α : Type} {l : List α} {i : Nat} {x : α} (h : l[i]? = some x) : l.take (i + 1) = l.take i ++ [x] := by
  rw [List.take_succ, h]
  rfl
abbrev n_placed_rows : List Str := ["transform", "drawing", "p", "q"]
abbrev s_placed_rows : Stmt := top 57
theorem sc_placed_rows : FnScope ["transform", "drawing", "p", "q"] ["transform", "drawing"] (defScope s_placed_rows) := ⟨rfl, rfl, rfl, by decide +kernel, rfl, by decide +kernel, by decide +kernel⟩
theorem h_placed_rows (B : Bl mg) (d : DefAt K mg "placed_rows" s_placed_rows []) (h_placed_p : Has P w K mg base CX0 "placed_p" 3 [] (spOf K none (c_placed))) : Has P w K mg base CX0 "placed_rows" 4 [] (spOf K none (c_rows)) := by
  refine d.pure sc_placed_rows (fun _ _ _ _ _ _ us hl => match us, hl with | [_, _], _ => rfl) 2 rfl (fun as k ⟨_, _, _, _, e, _⟩ => by rw [e]; rfl) fun f cdv A outer s H E hr => ⟨_, (pss_one (ps_ret (pe_lc (own := [("p", 2), ("q", 3)]) (tt := tYes) rfl sc_placed_rows.nd (kiList (K := K) (pv 1)) (blkOk_by (own := [("p", 2), ("q", 3)]) (N := n_placed_rows) (sc := defScope s_placed_rows) (by decide +kernel)) (fun _ _ _ _ _ => (kgTup (K := K) (n := 2) rfl (pgs_cons (pg_name (i := 2) sc_placed_rows.nd rfl (Or.inl rfl)) (pgs_cons (pg_name (i := 3) sc_placed_rows.nd rfl (Or.inl rfl)) pgs_nil)))) (fun _ _ _ _ _ => pts_nil) (fun _ _ _ _ _ => (pe_tup (pa_cons (pe_has h_placed_p (hr.mono (by decide)) pass0 (pa_cons (pv 0) (pa_cons (pv 2) pa_nil))) (pa_cons (pe_has h_placed_p (hr.mono (by decide)) pass0 (pa_cons (pv 0) (pa_cons (pv 3) pa_nil))) pa_nil))))))), fun as k hc => ?_⟩
  try dsimp only [cxOf]
  clear hr E H s outer A cdv f d B
  obtain ⟨t, l, n, m, rfl, ht, hl, hn, hz, kk⟩ := hc
  simp only [st0, List.map_cons, List.map_nil, List.replicate, List.cons_append, List.nil_append]
  refine p_ret (w_lcL ?_)
  walk_at "w"
  refine ⟨fun i acc => acc = ((l.take i).map (Sg.by t)).map sgD, rfl, fun i d hd acc ha => ?_, fun acc ha => ?_⟩
  · obtain ⟨s, h1, rfl⟩ := map_get hd
    have hm : s ∈ l := List.mem_of_getElem? h1
    refine ⟨_, g_tup (by repeat (first | exact gs_nil | apply gs_one)) rfl, rfl, t_yes ⟨fun _ => ?_, fun e => by cases e⟩⟩
    walk_at "w"
    refine ⟨_, _, _, _, rfl, ht, (hl s hm).1, hn, ?_⟩
    walk_at "w"
    refine ⟨_, _, _, _, rfl, ht, (hl s hm).2, hn, ?_⟩
    walk_at "w"
    subst ha
    refine ⟨?_, ?_⟩
    · rw [List.length_map, List.length_map, List.length_take]
      omega
    · show _ = _
      rw [take_one h1, List.map_append, List.map_append]
      rfl
  · subst ha
    have e : (l.map sgD).length = l.length := List.length_map ..
    rw [e, List.take_length]
    exact kk
end K88
/-! T7 -/
namespace K88
open PySem PySem.Spec PyProof.Rows L2 AL
local macro_rules | `(tactic| walk_at "bd") => `(tactic| first
  | assumption
  | (apply Sz.n; assumption)
  | (apply Sz.d; assumption)
  | ((with_reducible apply lt_mul); (case h1 => walk_at "bd"); (case h2 => walk_at "bd"))
  | ((with_reducible apply lt_addx); (case h1 => walk_at "bd"); (case h2 => walk_at "bd"))
  | ((with_reducible apply lt_subx); (case h1 => walk_at "bd"); (case h2 => walk_at "bd"))
  | ((with_reducible apply lt_neg); (case h => walk_at "bd")))
local macro_rules | `(tactic| walk_at "nz") => `(tactic| first
  | assumption
  | exact dnz _
  | ((with_reducible apply inz); (case h1 => walk_at "nz"); (case h2 => walk_at "nz")))
local macro_rules | `(tactic| walk_at "w") => `(tactic| repeat (first
  | with_reducible apply w_int
  | ((with_reducible apply w_var); (case h => exact rfl))
  | with_reducible apply wl_cons
  | with_reducible apply wl_nil
  | ((with_reducible refine And.intro (Nat.le_of_ble_eq_true ?hlen) ?_); (case hlen => exact rfl))
  | with_reducible apply w_tup
  | with_reducible apply w_op
  | with_reducible apply s_seq
  | with_reducible apply wa_cons
  | with_reducible apply wa_nil
  | with_reducible apply ru_i
  | with_reducible apply w_un
  | with_reducible apply s_asg
  | with_reducible apply w_call0
  | with_reducible apply w_callD2
  | with_reducible apply w_callD1
  | ((with_reducible apply w_callX0); (case hz => exact rfl))
  | ((with_reducible apply w_callXS); (case hz => exact rfl))
  | with_reducible apply w_callZ
  | with_reducible apply b_addI
  | ((with_reducible apply rb_ixT); (case e => exact rfl))
  | ((with_reducible apply rb_ixL); (case e => exact rfl))
  | with_reducible apply w_str
  | with_reducible apply w_lst
  | with_reducible apply w_sl
  | with_reducible apply o_none
  | with_reducible apply o_some
  | with_reducible apply sG_T
  | with_reducible apply sG_L
  | ((with_reducible apply s_app); (case e => exact rfl))
  | with_reducible apply s_drop
  | with_reducible apply w_if
  | with_reducible apply p_if
  | with_reducible apply t_test
  | with_reducible apply b_eqI
  | with_reducible apply s_next
  | with_reducible apply p_ret
  | ((with_reducible apply b_mulI); (case hc => (apply mulx; (case h1 => walk_at "bd"); (case h2 => walk_at "bd"); (case h => omega))))
  | with_reducible apply b_sub
  | with_reducible apply s_raiseK
  | with_reducible apply w_isT
  | with_reducible apply w_isL
  | with_reducible apply w_isI
  | with_reducible apply w_isB
  | with_reducible apply w_isS
  | with_reducible apply w_isN
  | with_reducible apply w_notN
  | with_reducible apply w_or
  | with_reducible apply w_and
  | with_reducible apply w_not
  | with_reducible apply w_chain
  | with_reducible apply w_cb
  | with_reducible apply t_or
  | with_reducible apply t_and
  | with_reducible apply t_not
  | with_reducible apply t_yes
  | ((with_reducible apply b_addT); (case hz => exact Nat.le_of_ble_eq_true rfl))
  | ((with_reducible apply b_addL); (case hz => exact Nat.le_of_ble_eq_true rfl))
  | with_reducible apply s_break
  | with_reducible apply rb_b
  | with_reducible apply t_truthI
  | with_reducible apply b_neI
  | with_reducible apply b_eqS
  | with_reducible apply b_eqB
  | with_reducible apply b_neB
  | with_reducible apply w_bl
  | with_reducible apply w_non
  | with_reducible apply t_B
  | with_reducible apply m_lst
  | with_reducible apply m_cat
  | with_reducible apply m_list
  | with_reducible apply w_lcLU
  | with_reducible apply w_lcTU
  | with_reducible apply s_forTU
  | with_reducible apply s_forLU
  | (with_reducible apply lcU_nil)
  | (with_reducible apply unr_nil)
  | with_reducible apply unr_one
  | ((with_reducible show LcU _ _ _ _ _ _ _ _ _); (refine lcU_one rfl (Nat.lt_of_succ_le (Nat.le_of_ble_eq_true rfl)) ?_))
  | ((with_reducible show (_ = true → _) ∧ (_ = false → _)); (first | refine ybt rfl ?_ | refine ybf rfl ?_))
  | ((with_reducible show (_ = false → _) ∧ (_ = true → _)); (first | refine obt rfl ?_ | refine obf rfl ?_))
  | with_reducible apply yt
  | with_reducible apply yf
  | with_reducible apply fy
  | with_reducible apply ft
  | ((with_reducible apply f_frz); (case e => exact rfl))
  | with_reducible apply s_asgG
  | (refine Exists.intro _ (And.intro (g_lst (by repeat (first | exact gs_nil | apply gs_one)) rfl) ?_))
  | (refine Exists.intro _ (And.intro (g_tup (by repeat (first | exact gs_nil | apply gs_one)) rfl) ?_))
  | with_reducible apply c_lenL
  | with_reducible apply c_lenT
  | with_reducible apply c_listL
  | with_reducible apply c_listT
  | with_reducible apply c_tupL
  | with_reducible apply c_abs
  | with_reducible apply c_int
  | with_reducible apply c_min
  | with_reducible apply rc_gcd
  | with_reducible apply rb_b
  | (refine And.intro (Nat.lt_of_succ_le (Nat.le_of_ble_eq_true rfl)) ?_)
  | with_reducible refine Exists.intro _ (And.intro rfl ?_)
  | refine And.intro (Nat.le_of_ble_eq_true rfl) ?_
  ))
variable {P : Program} {w : World} {K : PySem.W.Frag} {mg : Str → Option Value} {base : Heap}
variable {cV cS cM cL : Addr}
def BV (c : Addr) (nm : Str) : AExc := ⟨c, [("name", .str nm)]⟩
def TL (c : Addr) : AExc := ⟨c, [("word", .str "figures")]⟩
def TM (c : Addr) : AExc := ⟨c, [("word", .str "segments")]⟩
def BS (c : Addr) (i : Int) : AExc := ⟨c, [("index", .int i)]⟩
def isTf : D → Bool
  | .tuple ds => decide (ds.length = 6) && ds.all isFr
  | _ => false
theorem isTf_len {d : D} (h : isTupN 6 d = false) : isTf d = false := by
  cases d with
  | tuple ds =>
    show (decide (ds.length = 6) && ds.all isFr) = false
    have h' : decide (ds.length = 6) = false := h
    rw [h', Bool.false_and]
  | _ => rfl
theorem isTf_tfD (t : Tf) : isTf (tfD t) = true := by
  show (isFr (Fq t.a) && (isFr (Fq t.b) && (isFr (Fq t.c) && (isFr (Fq t.d) && (isFr (Fq t.e) && (isFr (Fq t.f) && true)))))) = true
  rw [isFr_Fq, isFr_Fq, isFr_Fq, isFr_Fq, isFr_Fq, isFr_Fq]
  rfl
theorem six {α : Type} : ∀ {l : List α}, l.length = 6 → ∃ a b c d e f, l = [a, b, c, d, e, f]
  | [a, b, c, d, e, f], _ => ⟨a, b, c, d, e, f, rfl⟩
theorem tfD_of {d : D} (h : isTf d = true) : ∃ t : Tf, d = tfD t := by
  cases d with
  | tuple ds =>
    have h' : (decide (ds.length = 6) && ds.all isFr) = true := h
    rw [Bool.and_eq_true] at h'
    obtain ⟨a, b, c, d, e, f, rfl⟩ := six (of_decide_eq_true h'.1)
    have h2 := h'.2
    simp only [List.all_cons, List.all_nil, Bool.and_true, Bool.and_eq_true] at h2
    obtain ⟨h1, h2, h3, h4, h5, h6⟩ := h2
    obtain ⟨a, rfl⟩ := Fq_of h1
    obtain ⟨b, rfl⟩ := Fq_of h2
    obtain ⟨c, rfl⟩ := Fq_of h3
    obtain ⟨d, rfl⟩ := Fq_of h4
    obtain ⟨e, rfl⟩ := Fq_of h5
    obtain ⟨f, rfl⟩ := Fq_of h6
    exact ⟨⟨a, b, c, d, e, f⟩, rfl⟩
  | _ => cases h
theorem isTupN_is {n : Nat} {d : D} (h : isTupN n d = true) : ∃ ds, d = .tuple ds ∧ ds.length = n := by
  cases d with
  | tuple ds => exact ⟨ds, rfl, of_decide_eq_true h⟩
  | _ => cases h
theorem tfD_inj {t s : Tf} (h : tfD t = tfD s) : t = s := by
  injection h with h
  injection h with h1 h
  injection h with h2 h
  injection h with h3 h
  injection h with h4 h
  injection h with h5 h
  injection h with h6 h
  obtain ⟨a, b, c, d, e, f⟩ := t
  obtain ⟨a', b', c', d', e', f'⟩ := s
  rw [show a = a' from Fq_inj h1, show b = b' from Fq_inj h2, show c = c' from Fq_inj h3, show d = d' from Fq_inj h4, show e = e' from Fq_inj h5, show f = f' from Fq_inj h6]
def c_is_transform : Con := fun as k => ∃ d, as = [.i d] ∧ ((isTf d = false ∧ k (.bool false)) ∨ ∃ (t : Tf) (n : Nat), d = tfD t ∧ TSz n t ∧ 4 * n + 1 ≤ 9000 ∧ k (.bool (decide (t.det ≠ 0))))
theorem map_take_one {α β : Type} {g : α → β} {l : List α} {i : Nat} {x : α} (h : l[i]? = some x) : (l.take (i + 1)).map g = (l.take i).map g ++ [g x] := by
  rw [take_one h, List.map_append]
  rfl
theorem all_id {l : List D} {g : D → Bool} : (l.map g).all id = l.all g := by
  rw [List.all_map]
  rfl
abbrev n_is_transform : List Str := ["value", "number"]
abbrev s_is_transform : Stmt := top 53
theorem sc_is_transform : FnScope ["value", "number"] ["value"] (defScope s_is_transform) := ⟨rfl, rfl, rfl, by decide +kernel, rfl, by decide +kernel, by decide +kernel⟩
theorem h_is_transform (B : Bl mg) (d : DefAt K mg "is_transform" s_is_transform []) (h_det_t : Has P w K mg base CX0 "det_t" 3 [] (spOf K none (c_det))) (h_is_fraction : Has P w K mg base CX0 "is_fraction" 2 [] (spOf K none (c_is_frac))) (h_is_tuple : Has P w K mg base CX0 "is_tuple" 1 [] (spOf K none (c_is_tuple))) : Has P w K mg base CX0 "is_transform" 4 [] (spOf K none (c_is_transform)) := by
  refine d.pure sc_is_transform (fun _ _ _ _ _ _ us hl => match us, hl with | [_], _ => rfl) 1 rfl (fun as k ⟨_, e, _⟩ => by rw [e]; rfl) fun f cdv A outer s H E hr => ⟨_, (pss_cons (ps_if (PW.pt (pw_or (pt_not (pt_val (pe_has h_is_tuple (hr.mono (by decide)) pass0 (pa_cons (pv 0) (pa_cons pe_int pa_nil))))) (pw_or1 (pt_not (pt_val (pe_callB (kAll (K := K) rfl) (by rfl) B.all (by decide +kernel) (pa_cons (pe_lc (own := [("number", 1)]) (g := gName 1) (tt := tYes) rfl sc_is_transform.nd (kiTup (K := K) (pv 0)) (blkOk_by (own := [("number", 1)]) (N := n_is_transform) (sc := defScope s_is_transform) (by decide +kernel)) (fun _ _ _ _ _ => (pg_name (i := 1) sc_is_transform.nd rfl (Or.inl rfl))) (fun _ _ _ _ _ => pts_nil) (fun _ _ _ _ _ => (pe_has h_is_fraction (hr.mono (by decide)) pass0 (pa_cons (pv 1) pa_nil)))) pa_nil))))))) (pss_one (ps_ret pe_bl)) pss_nil)
      (pss_one (ps_ret (pe_cmpR (kNe (K := K) hr.units) (pe_ix (kIx (K := K)) (pe_has h_det_t (hr.mono (by decide)) pass0 (pa_cons (pv 0) pa_nil)) pe_int (fun _ _ => rfl)) pe_int (nomark _))))), fun as k hc => ?_⟩
  try dsimp only [cxOf]
  clear hr E H s outer A cdv f d B
  obtain ⟨d, rfl, hd⟩ := hc
  simp only [st0, List.map_cons, List.map_nil, List.replicate, List.cons_append, List.nil_append]
  walk_at "w"
  refine ⟨_, 6, rfl, ?_⟩
  walk_at "w"
  refine ⟨fun h => ?_, fun h => ?_⟩
  · obtain ⟨ds, rfl, hl⟩ := isTupN_is (by simpa using h)
    walk_at "w"
    refine lcU_map (fun d => .bool (isFr d)) rfl (fun d hd => ?_) (by omega) ?_
    · walk_at "w"
      exact ⟨_, rfl, rfl⟩
    · walk_at "w"
      refine rc_all (bs := ds.map isFr) (by rw [List.map_map]; rfl) ?_
      rw [all_id]
      walk_at "w"
      refine ⟨fun h1 => ?_, fun h1 => ?_⟩
      · have e : isTf (.tuple ds) = false := by
          show (decide (ds.length = 6) && ds.all isFr) = false
          rw [show ds.all isFr = false by simpa using h1, Bool.and_false]
        rcases hd with ⟨_, q⟩ | ⟨t, n, e2, _⟩
        · walk_at "w"
          exact q
        · rw [e2, isTf_tfD] at e
          cases e
      · have e : isTf (.tuple ds) = true := by
          show (decide (ds.length = 6) && ds.all isFr) = true
          rw [show ds.all isFr = true by simpa using h1, Bool.and_true]
          exact decide_eq_true hl
        rcases hd with ⟨e2, _⟩ | ⟨t, n, e2, ht, hn, q⟩
        · rw [e2] at e
          cases e
        · rw [e2]
          walk_at "w"
          refine ⟨_, _, rfl, ht, hn, ?_⟩
          walk_at "w"
          have e3 : (!decide (t.det.num = 0)) = decide (t.det ≠ 0) := by
            rw [← decide_not]
            congr 1
            exact propext (not_congr Rat.num_eq_zero)
          rw [e3]
          exact q
  · have e : isTupN 6 d = false := by simpa using h
    rcases hd with ⟨_, q⟩ | ⟨t, n, e2, _⟩
    · walk_at "w"
      exact q
    · rw [e2] at e
      cases e
/-- an end: an answer, or a refusal -/
def go (o : Option AExc) (q : Prop) (ke : AExc → Prop) : Prop := match o with
  | none => q
  | some ex => ke ex
inductive ChkP (cV cL : Addr) (nm : Str) : D → Option AExc → Prop
  | no {d : D} (h : isPt d = false) : ChkP cV cL nm d (some (BV cV nm))
  | long (p : Pt) (h : (wFig 300 p.x && wFig 300 p.y) = false) : ChkP cV cL nm (ptD p) (some (TL cL))
  | ok (p : Pt) (h : (wFig 300 p.x && wFig 300 p.y) = true) : ChkP cV cL nm (ptD p) none
def c_chk_pt (cV : Addr) : ConX := fun as k ke => ∃ (d : D) (nm : Str), as = [.i d, .i (.str nm)] ∧ ((isPt d = true ∧ k .none) ∨ (isPt d = false ∧ ke (BV cV nm)))
def c_chk_pl (cV cL : Addr) : ConX := fun as k ke => ∃ (d : D) (nm : Str) (o : Option AExc), as = [.i d, .i (.str nm), .i (.int 300)] ∧ ChkP cV cL nm d o ∧ go o (k .none) ke
abbrev n_check_point : List Str := ["value", "name"]
abbrev s_check_point : Stmt := top 46
theorem sc_check_point : FnScope ["value", "name"] ["value", "name"] (defScope s_check_point) := ⟨rfl, rfl, rfl, by decide +kernel, rfl, by decide +kernel, by decide +kernel⟩
theorem k_check_point (B : Bl mg) (e_BadValue : ExK P w K mg base "BadValue" cV "name") (h_is_point : Has P w K mg base CX0 "is_point" 3 [] (spOf K none (c_is_point))) {f : Addr} {fd : FuncData} (D : FunD K "check_point" "check_point" (defArgs s_check_point) (defBody s_check_point) (defScope s_check_point) [] [] f fd) : FnOk P w K mg base (L2.CX P w) 4 f fd ["value", "name"] (spX K (c_chk_pt cV)) := by
  refine fnok_raises D sc_check_point 0 rfl (fun as k ke ⟨_, _, e, _⟩ => by rw [e]; rfl) fun f cdv A outer s H E hr => ⟨_, (pss_one (ps_if (pt_not (pt_val (pe_has h_is_point (hr.mono (by decide)) pass0 (pa_cons (pv 0) pa_nil)))) (pss_one (ps_raiseK e_BadValue rfl (hr.mono (by decide)) (takes_of rfl rfl rfl rfl) (pa_cons (pv 1) pa_nil))) pss_nil)), fun as k ke hc => ?_⟩
  clear hr H s outer A cdv f B D
  obtain ⟨d, nm, rfl, h⟩ := hc
  simp only [st0, List.map_cons, List.map_nil, List.replicate, List.cons_append, List.nil_append]
  walk_at "w"
  refine ⟨_, rfl, ?_⟩
  walk_at "w"
  rcases h with ⟨h, q⟩ | ⟨h, q⟩
  · rw [h]
    walk_at "w"
    exact q
  · rw [h]
    walk_at "w"
    exact ⟨_, _, rfl, .str _, q⟩
theorem h_check_point (B : Bl mg) (e_BadValue : ExK P w K mg base "BadValue" cV "name") (h_is_point : Has P w K mg base CX0 "is_point" 3 [] (spOf K none (c_is_point))) (d : DefAt K mg "check_point" s_check_point []) : Has P w K mg base (L2.CX P w) "check_point" 4 [] (spX K (c_chk_pt cV)) :=
  d.has (fun _ _ _ _ _ _ us hl => match us, hl with | [_, _], _ => rfl) fun f fd D => k_check_point B e_BadValue h_is_point D
abbrev n_check_place : List Str := ["value", "name", "most"]
abbrev s_check_place : Stmt := top 47
theorem sc_check_place : FnScope ["value", "name", "most"] ["value", "name", "most"] (defScope s_check_place) := ⟨rfl, rfl, rfl, by decide +kernel, rfl, by decide +kernel, by decide +kernel⟩
theorem k_check_place (B : Bl mg) (e_TooLong : ExK P w K mg base "TooLong" cL "word") (h_within_figures : Has P w K mg base CX0 "within_figures" 2 [] (spOf K none (c_within))) (h_check_point : Has P w K mg base (L2.CX P w) "check_point" 4 [] (spX K (c_chk_pt cV))) {f : Addr} {fd : FuncData} (D : FunD K "check_place" "check_place" (defArgs s_check_place) (defBody s_check_place) (defScope s_check_place) [.int 300] [] f fd) : FnOk P w K mg base (L2.CX P w) 5 f fd ["value", "name", "most"] (spX K (c_chk_pl cV cL)) := by
  refine fnok_raises D sc_check_place 0 rfl (fun as k ke ⟨_, _, _, e, _⟩ => by rw [e]; rfl) fun f cdv A outer s H E hr => ⟨_, (pss_cons (ps_expr (pe_has h_check_point (hr.mono (by decide)) passX (pa_cons (pv 0) (pa_cons (pv 1) pa_nil))))
      (pss_one (ps_if (PW.pt (pw_or (pt_not (pt_val (pe_has h_within_figures (hr.mono (by decide)) pass0 (pa_cons (pe_ix (kIx (K := K)) (pv 0) pe_int (fun _ _ => rfl)) (pa_cons (pv 2) pa_nil))))) (pw_or1 (pt_not (pt_val (pe_has h_within_figures (hr.mono (by decide)) pass0 (pa_cons (pe_ix (kIx (K := K)) (pv 0) pe_int (fun _ _ => rfl)) (pa_cons (pv 2) pa_nil)))))))) (pss_one (ps_raiseK e_TooLong rfl (hr.mono (by decide)) (takes_of rfl rfl rfl rfl) (pa_cons pe_str pa_nil))) pss_nil))), fun as k ke hc => ?_⟩
  clear hr H s outer A cdv f B D
  obtain ⟨d, nm, o, rfl, h, q⟩ := hc
  simp only [st0, List.map_cons, List.map_nil, List.replicate, List.cons_append, List.nil_append]
  walk_at "w"
  refine ⟨_, _, rfl, ?_⟩
  cases h with
  | no h => exact .inr ⟨h, q⟩
  | long p h =>
    refine .inl ⟨isPt_ptD p, ?_⟩
    walk_at "w"
    refine ⟨_, 300, rfl, by decide, by decide, ?_⟩
    walk_at "w"
    refine ⟨fun h1 => ?_, fun h1 => ?_⟩
    · have e : wFig 300 p.x = true := by simpa using h1
      rw [e, Bool.true_and] at h
      walk_at "w"
      refine ⟨_, 300, rfl, by decide, by decide, ?_⟩
      rw [h]
      walk_at "w"
      exact ⟨_, _, rfl, .str _, q⟩
    · walk_at "w"
      exact ⟨_, _, rfl, .str _, q⟩
  | ok p h =>
    rw [Bool.and_eq_true] at h
    refine .inl ⟨isPt_ptD p, ?_⟩
    walk_at "w"
    refine ⟨_, 300, rfl, by decide, by decide, ?_⟩
    rw [h.1]
    walk_at "w"
    refine ⟨_, 300, rfl, by decide, by decide, ?_⟩
    rw [h.2]
    walk_at "w"
    exact q
theorem h_check_place (B : Bl mg) (e_TooLong : ExK P w K mg base "TooLong" cL "word") (h_within_figures : Has P w K mg base CX0 "within_figures" 2 [] (spOf K none (c_within))) (h_check_point : Has P w K mg base (L2.CX P w) "check_point" 4 [] (spX K (c_chk_pt cV))) (d : DefAt K mg "check_place" s_check_place [.int 300]) : Has P w K mg base (L2.CX P w) "check_place" 5 [] (spX K (c_chk_pl cV cL)) :=
  has_dfl d 3 1 (by simp) rfl (fun T kV doc pm an cdv ct us its l1 l2 => match us, its, l1, l2 with | [_, _, _], [_], _, _ => ⟨_, rfl, rfl⟩) fun f fd D => k_check_place B e_TooLong h_within_figures h_check_point D
def figT (t : Tf) : Bool := wFig 150 t.a && (wFig 150 t.b && (wFig 150 t.c && (wFig 150 t.d && (wFig 150 t.e && (wFig 150 t.f && true)))))
inductive ChkT (cV cL : Addr) (nm : Str) : D → Option AExc → Prop
  | no {d : D} (h : isTf d = false) : ChkT cV cL nm d (some (BV cV nm))
  | flat (t : Tf) (n : Nat) (ht : TSz n t) (hn : 4 * n + 1 ≤ 9000) (h : t.det = 0) : ChkT cV cL nm (tfD t) (some (BV cV nm))
  | long (t : Tf) (n : Nat) (ht : TSz n t) (hn : 4 * n + 1 ≤ 9000) (h : t.det ≠ 0) (hf : figT t = false) : ChkT cV cL nm (tfD t) (some (TL cL))
  | ok (t : Tf) (n : Nat) (ht : TSz n t) (hn : 4 * n + 1 ≤ 9000) (h : t.det ≠ 0) (hf : figT t = true) : ChkT cV cL nm (tfD t) none
def c_chk_t (cV cL : Addr) : ConX := fun as k ke => ∃ (d : D) (nm : Str) (o : Option AExc), as = [.i d, .i (.str nm)] ∧ ChkT cV cL nm d o ∧ go o (k .none) ke
abbrev n_check_transform : List Str := ["value", "name", "number"]
abbrev s_check_transform : Stmt := top 54
theorem sc_check_transform : FnScope ["value", "name", "number"] ["value", "name"] (defScope s_check_transform) := ⟨rfl, rfl, rfl, by decide +kernel, rfl, by decide +kernel, by decide +kernel⟩
theorem k_check_transform (B : Bl mg) (e_BadValue : ExK P w K mg base "BadValue" cV "name") (e_TooLong : ExK P w K mg base "TooLong" cL "word") (h_within_figures : Has P w K mg base CX0 "within_figures" 2 [] (spOf K none (c_within))) (h_is_transform : Has P w K mg base CX0 "is_transform" 4 [] (spOf K none (c_is_transform))) (g_mt : GInt mg "MOST_TRANSFORM" 150) {f : Addr} {fd : FuncData} (D : FunD K "check_transform" "check_transform" (defArgs s_check_transform) (defBody s_check_transform) (defScope s_check_transform) [.str "transform"] [] f fd) : FnOk P w K mg base (L2.CX P w) 5 f fd ["value", "name"] (spX K (c_chk_t cV cL)) := by
  refine fnok_raises D sc_check_transform 1 rfl (fun as k ke ⟨_, _, _, e, _⟩ => by rw [e]; rfl) fun f cdv A outer s H E hr => ⟨_, (pss_cons (ps_if (pt_not (pt_val (pe_has h_is_transform (hr.mono (by decide)) pass0 (pa_cons (pv 0) pa_nil)))) (pss_one (ps_raiseK e_BadValue rfl (hr.mono (by decide)) (takes_of rfl rfl rfl rfl) (pa_cons (pv 1) pa_nil))) pss_nil)
      (pss_one (ps_if (pt_not (pt_val (pe_callB (kAll (K := K) rfl) (by rfl) B.all (by decide +kernel) (pa_cons (pe_lc (own := [("number", 2)]) (g := gName 2) (tt := tYes) rfl sc_check_transform.nd (kiTup (K := K) (pv 0)) (blkOk_by (own := [("number", 2)]) (N := n_check_transform) (sc := defScope s_check_transform) (by decide +kernel)) (fun _ _ _ _ _ => (pg_name (i := 2) sc_check_transform.nd rfl (Or.inl rfl))) (fun _ _ _ _ _ => pts_nil) (fun _ _ _ _ _ => (pe_has h_within_figures (hr.mono (by decide)) pass0 (pa_cons (pv 2) (pa_cons (pe_gint g_mt) pa_nil))))) pa_nil)))) (pss_one (ps_raiseK e_TooLong rfl (hr.mono (by decide)) (takes_of rfl rfl rfl rfl) (pa_cons pe_str pa_nil))) pss_nil))), fun as k ke hc => ?_⟩
  clear hr H s outer A cdv f B D
  obtain ⟨d, nm, o, rfl, h, q⟩ := hc
  simp only [st0, List.map_cons, List.map_nil, List.replicate, List.cons_append, List.nil_append]
  walk_at "w"
  refine ⟨_, rfl, ?_⟩
  cases h with
  | no h =>
    refine .inl ⟨h, ?_⟩
    walk_at "w"
    exact ⟨_, _, rfl, .str _, q⟩
  | flat t n ht hn h =>
    refine .inr ⟨t, n, rfl, ht, hn, ?_⟩
    rw [decide_eq_false (fun z => z h)]
    walk_at "w"
    exact ⟨_, _, rfl, .str _, q⟩
  | long t n ht hn h hf =>
    refine .inr ⟨t, n, rfl, ht, hn, ?_⟩
    rw [decide_eq_true h]
    walk_at "w"
    refine ⟨_, 150, rfl, by decide, by decide, ?_⟩
    walk_at "w"
    refine ⟨_, 150, rfl, by decide, by decide, ?_⟩
    walk_at "w"
    refine ⟨_, 150, rfl, by decide, by decide, ?_⟩
    walk_at "w"
    refine ⟨_, 150, rfl, by decide, by decide, ?_⟩
    walk_at "w"
    refine ⟨_, 150, rfl, by decide, by decide, ?_⟩
    walk_at "w"
    refine ⟨_, 150, rfl, by decide, by decide, ?_⟩
    walk_at "w"
    refine rc_all (bs := [wFig 150 t.a, wFig 150 t.b, wFig 150 t.c, wFig 150 t.d, wFig 150 t.e, wFig 150 t.f]) rfl ?_
    have e : ([wFig 150 t.a, wFig 150 t.b, wFig 150 t.c, wFig 150 t.d, wFig 150 t.e, wFig 150 t.f]).all id = false := hf
    rw [e]
    walk_at "w"
    exact ⟨_, _, rfl, .str _, q⟩
  | ok t n ht hn h hf =>
    refine .inr ⟨t, n, rfl, ht, hn, ?_⟩
    rw [decide_eq_true h]
    walk_at "w"
    refine ⟨_, 150, rfl, by decide, by decide, ?_⟩
    walk_at "w"
    refine ⟨_, 150, rfl, by decide, by decide, ?_⟩
    walk_at "w"
    refine ⟨_, 150, rfl, by decide, by decide, ?_⟩
    walk_at "w"
    refine ⟨_, 150, rfl, by decide, by decide, ?_⟩
    walk_at "w"
    refine ⟨_, 150, rfl, by decide, by decide, ?_⟩
    walk_at "w"
    refine ⟨_, 150, rfl, by decide, by decide, ?_⟩
    walk_at "w"
    refine rc_all (bs := [wFig 150 t.a, wFig 150 t.b, wFig 150 t.c, wFig 150 t.d, wFig 150 t.e, wFig 150 t.f]) rfl ?_
    have e : ([wFig 150 t.a, wFig 150 t.b, wFig 150 t.c, wFig 150 t.d, wFig 150 t.e, wFig 150 t.f]).all id = true := hf
    rw [e]
    walk_at "w"
    exact q
theorem h_check_transform_1 (B : Bl mg) (e_BadValue : ExK P w K mg base "BadValue" cV "name") (e_TooLong : ExK P w K mg base "TooLong" cL "word") (h_within_figures : Has P w K mg base CX0 "within_figures" 2 [] (spOf K none (c_within))) (h_is_transform : Has P w K mg base CX0 "is_transform" 4 [] (spOf K none (c_is_transform))) (g_mt : GInt mg "MOST_TRANSFORM" 150) (d : DefAt K mg "check_transform" s_check_transform [.str "transform"]) : Has P w K mg base (L2.CX P w) "check_transform" 5 [.str "transform"] (spX K (c_chk_t cV cL)) :=
  has_dfl d 1 0 (by simp) rfl (fun T kV doc pm an cdv ct us its l1 l2 => match us, its, l1, l2 with | [_], [_], _, _ => ⟨_, rfl, rfl⟩) fun f fd D => k_check_transform B e_BadValue e_TooLong h_within_figures h_is_transform g_mt D
theorem h_check_transform (B : Bl mg) (e_BadValue : ExK P w K mg base "BadValue" cV "name") (e_TooLong : ExK P w K mg base "TooLong" cL "word") (h_within_figures : Has P w K mg base CX0 "within_figures" 2 [] (spOf K none (c_within))) (h_is_transform : Has P w K mg base CX0 "is_transform" 4 [] (spOf K none (c_is_transform))) (g_mt : GInt mg "MOST_TRANSFORM" 150) (d : DefAt K mg "check_transform" s_check_transform [.str "transform"]) : Has P w K mg base (L2.CX P w) "check_transform" 5 [] (spX K (c_chk_t cV cL)) :=
  has_dfl d 2 1 (by simp) rfl (fun T kV doc pm an cdv ct us its l1 l2 => match us, its, l1, l2 with | [_, _], [_], _, _ => ⟨_, rfl, rfl⟩) fun f fd D => k_check_transform B e_BadValue e_TooLong h_within_figures h_is_transform g_mt D
end K88
/-! T8 -/
namespace K88
open PySem PySem.Spec PyProof.Rows L2 AL
local macro_rules | `(tactic| walk_at "bd") => `(tactic| first
  | assumption
  | (apply Sz.n; assumption)
  | (apply Sz.d; assumption)
  | ((with_reducible apply lt_mul); (case h1 => walk_at "bd"); (case h2 => walk_at "bd"))
  | ((with_reducible apply lt_addx); (case h1 => walk_at "bd"); (case h2 => walk_at "bd"))
  | ((with_reducible apply lt_subx); (case h1 => walk_at "bd"); (case h2 => walk_at "bd"))
  | ((with_reducible apply lt_neg); (case h => walk_at "bd")))
local macro_rules | `(tactic| walk_at "nz") => `(tactic| first
  | assumption
  | exact dnz _
  | ((with_reducible apply inz); (case h1 => walk_at "nz"); (case h2 => walk_at "nz")))
local macro_rules | `(tactic| walk_at "w") => `(tactic| repeat (first
  | with_reducible apply w_int
  | ((with_reducible apply w_var); (case h => exact rfl))
  | with_reducible apply wl_cons
  | with_reducible apply wl_nil
  | ((with_reducible refine And.intro (Nat.le_of_ble_eq_true ?hlen) ?_); (case hlen => exact rfl))
  | with_reducible apply w_tup
  | with_reducible apply w_op
  | with_reducible apply s_seq
  | with_reducible apply wa_cons
  | with_reducible apply wa_nil
  | with_reducible apply ru_i
  | with_reducible apply w_un
  | with_reducible apply s_asg
  | with_reducible apply w_call0
  | with_reducible apply w_callD2
  | with_reducible apply w_callD1
  | ((with_reducible apply w_callX0); (case hz => exact rfl))
  | ((with_reducible apply w_callXS); (case hz => exact rfl))
  | with_reducible apply w_callZ
  | with_reducible apply b_addI
  | ((with_reducible apply rb_ixT); (case e => exact rfl))
  | ((with_reducible apply rb_ixL); (case e => exact rfl))
  | with_reducible apply w_str
  | with_reducible apply w_lst
  | with_reducible apply w_sl
  | with_reducible apply o_none
  | with_reducible apply o_some
  | with_reducible apply sG_T
  | with_reducible apply sG_L
  | ((with_reducible apply s_app); (case e => exact rfl))
  | with_reducible apply s_drop
  | with_reducible apply w_if
  | with_reducible apply p_if
  | with_reducible apply t_test
  | with_reducible apply b_eqI
  | with_reducible apply s_next
  | with_reducible apply p_ret
  | ((with_reducible apply w_ref); (case h => assumption))
  | ((with_reducible apply b_mulI); (case hc => (apply mulx; (case h1 => walk_at "bd"); (case h2 => walk_at "bd"); (case h => omega))))
  | with_reducible apply b_sub
  | with_reducible apply s_raiseK
  | with_reducible apply w_isT
  | with_reducible apply w_isL
  | with_reducible apply w_isI
  | with_reducible apply w_isB
  | with_reducible apply w_isS
  | with_reducible apply w_isN
  | with_reducible apply w_notN
  | with_reducible apply w_or
  | with_reducible apply w_and
  | with_reducible apply w_not
  | with_reducible apply w_chain
  | with_reducible apply w_cb
  | with_reducible apply t_or
  | with_reducible apply t_and
  | with_reducible apply t_not
  | with_reducible apply t_yes
  | ((with_reducible apply b_addT); (case hz => exact Nat.le_of_ble_eq_true rfl))
  | ((with_reducible apply b_addL); (case hz => exact Nat.le_of_ble_eq_true rfl))
  | with_reducible apply s_break
  | with_reducible apply rb_b
  | with_reducible apply t_truthI
  | with_reducible apply b_neI
  | with_reducible apply b_eqS
  | with_reducible apply b_eqB
  | with_reducible apply b_neB
  | with_reducible apply w_bl
  | with_reducible apply w_non
  | with_reducible apply t_B
  | with_reducible apply m_lst
  | with_reducible apply m_cat
  | with_reducible apply m_list
  | with_reducible apply w_lcLU
  | with_reducible apply w_lcTU
  | with_reducible apply s_forTU
  | with_reducible apply s_forLU
  | (with_reducible apply lcU_nil)
  | (with_reducible apply unr_nil)
  | with_reducible apply unr_one
  | ((with_reducible show LcU _ _ _ _ _ _ _ _ _); (refine lcU_one rfl (Nat.lt_of_succ_le (Nat.le_of_ble_eq_true rfl)) ?_))
  | ((with_reducible show (_ = true → _) ∧ (_ = false → _)); (first | refine ybt rfl ?_ | refine ybf rfl ?_))
  | ((with_reducible show (_ = false → _) ∧ (_ = true → _)); (first | refine obt rfl ?_ | refine obf rfl ?_))
  | with_reducible apply yt
  | with_reducible apply yf
  | with_reducible apply fy
  | with_reducible apply ft
  | ((with_reducible apply f_frz); (case e => exact rfl))
  | with_reducible apply s_asgG
  | (refine Exists.intro _ (And.intro (g_lst (by repeat (first | exact gs_nil | apply gs_one)) rfl) ?_))
  | (refine Exists.intro _ (And.intro (g_tup (by repeat (first | exact gs_nil | apply gs_one)) rfl) ?_))
  | with_reducible apply c_lenL
  | with_reducible apply c_lenT
  | with_reducible apply c_listL
  | with_reducible apply c_listT
  | with_reducible apply c_tupL
  | with_reducible apply c_abs
  | with_reducible apply c_int
  | with_reducible apply c_min
  | with_reducible apply rc_gcd
  | with_reducible apply rb_b
  | (refine And.intro (Nat.lt_of_succ_le (Nat.le_of_ble_eq_true rfl)) ?_)
  | with_reducible refine Exists.intro _ (And.intro rfl ?_)
  | refine And.intro (Nat.le_of_ble_eq_true rfl) ?_
  ))
variable {P : Program} {w : World} {K : PySem.W.Frag} {mg : Str → Option Value} {base : Heap}
variable {cV cS cM cL : Addr}
def figP (p : Pt) : Bool := wFig 300 p.x && wFig 300 p.y
theorem Sz_wFig {n b : Nat} {x : Rat} (h : wFig n x = true) (l : 10 ^ n ≤ 2 ^ b) : Sz b x := by
  unfold wFig at h
  rw [Bool.and_eq_true] at h
  have h1 := of_decide_eq_true h.1
  have h2 := of_decide_eq_true h.2
  exact ⟨Nat.lt_of_lt_of_le h1 l, Nat.lt_of_lt_of_le h2 l⟩
theorem ten150 : 10 ^ 150 ≤ 2 ^ 499 := by decide +kernel
theorem ten300 : 10 ^ 300 ≤ 2 ^ 997 := by decide +kernel
theorem figT_sz {t : Tf} (h : figT t = true) : TSz 499 t := by
  unfold figT at h
  simp only [Bool.and_eq_true] at h
  obtain ⟨h1, h2, h3, h4, h5, h6, _⟩ := h
  exact ⟨Sz_wFig h1 ten150, Sz_wFig h2 ten150, Sz_wFig h3 ten150, Sz_wFig h4 ten150, Sz_wFig h5 ten150, Sz_wFig h6 ten150⟩
theorem figP_sz {p : Pt} (h : figP p = true) : PSz 997 p := by
  unfold figP at h
  rw [Bool.and_eq_true] at h
  exact ⟨Sz_wFig h.1 ten300, Sz_wFig h.2 ten300⟩
structure OkT (t : Tf) : Prop where
  d : t.det ≠ 0
  f : figT t = true
theorem OkT.chk {t : Tf} (h : OkT t) (nm : Str) : ChkT cV cL nm (tfD t) none := .ok t 499 (figT_sz h.f) (by decide) h.d h.f
def c_pp (cV cL : Addr) : ConX := fun as k ke => ∃ d e, as = [.i d, .i e] ∧ ((∃ ex, ChkT cV cL "transform" d (some ex) ∧ ke ex) ∨
  (∃ t ex, d = tfD t ∧ OkT t ∧ ChkP cV cL "p" e (some ex) ∧ ke ex) ∨ ∃ t p, d = tfD t ∧ OkT t ∧ e = ptD p ∧ figP p = true ∧ k (ptD (t.on p)))
abbrev n_placed_point : List Str := ["transform", "p"]
abbrev s_placed_point : Stmt := top 63
theorem sc_placed_point : FnScope ["transform", "p"] ["transform", "p"] (defScope s_placed_point) := ⟨rfl, rfl, rfl, by decide +kernel, rfl, by decide +kernel, by decide +kernel⟩
theorem k_placed_point (B : Bl mg) (h_placed_p : Has P w K mg base CX0 "placed_p" 3 [] (spOf K none (c_placed))) (h_check_place : Has P w K mg base (L2.CX P w) "check_place" 5 [] (spX K (c_chk_pl cV cL))) (h_check_transform_1 : Has P w K mg base (L2.CX P w) "check_transform" 5 [.str "transform"] (spX K (c_chk_t cV cL))) (g_mp : GInt mg "MOST_PLACE" 300) {f : Addr} {fd : FuncData} (D : FunD K "placed_point" "placed_point" (defArgs s_placed_point) (defBody s_placed_point) (defScope s_placed_point) [] [] f fd) : FnOk P w K mg base (L2.CX P w) 6 f fd ["transform", "p"] (spX K (c_pp cV cL)) := by
  refine fnok_raises D sc_placed_point 0 rfl (fun as k ke ⟨_, _, e, _⟩ => by rw [e]; rfl) fun f cdv A outer s H E hr => ⟨_, (pss_cons (ps_expr (pe_has h_check_transform_1 (hr.mono (by decide)) passX (pa_cons (pv 0) pa_nil)))
      (pss_cons (ps_expr (pe_has h_check_place (hr.mono (by decide)) passX (pa_cons (pv 1) (pa_cons pe_str (pa_cons (pe_gint g_mp) pa_nil)))))
      (pss_one (ps_ret (pe_has h_placed_p (hr.mono (by decide)) pass0 (pa_cons (pv 0) (pa_cons (pv 1) pa_nil))))))), fun as k ke hc => ?_⟩
  clear hr H s outer A cdv f B D
  obtain ⟨d, e, rfl, h⟩ := hc
  simp only [st0, List.map_cons, List.map_nil, List.replicate, List.cons_append, List.nil_append]
  walk_at "w"
  rcases h with ⟨ex, h, q⟩ | ⟨t, ex, rfl, h, h2, q⟩ | ⟨t, p, rfl, h, rfl, h2, q⟩
  · exact ⟨_, _, some ex, rfl, h, q⟩
  · refine ⟨_, _, none, rfl, h.chk _, ?_⟩
    show WS _ _ _ _ _ _ _
    walk_at "w"
    exact ⟨_, _, some ex, rfl, h2, q⟩
  · refine ⟨_, _, none, rfl, h.chk _, ?_⟩
    show WS _ _ _ _ _ _ _
    walk_at "w"
    refine ⟨_, _, none, rfl, .ok p h2, ?_⟩
    show WS _ _ _ _ _ _ _
    walk_at "w"
    exact ⟨t, p, _, _, rfl, figT_sz h.f, figP_sz h2, by decide, q⟩
theorem h_placed_point (B : Bl mg) (h_placed_p : Has P w K mg base CX0 "placed_p" 3 [] (spOf K none (c_placed))) (h_check_place : Has P w K mg base (L2.CX P w) "check_place" 5 [] (spX K (c_chk_pl cV cL))) (h_check_transform_1 : Has P w K mg base (L2.CX P w) "check_transform" 5 [.str "transform"] (spX K (c_chk_t cV cL))) (g_mp : GInt mg "MOST_PLACE" 300) (d : DefAt K mg "placed_point" s_placed_point []) : Has P w K mg base (L2.CX P w) "placed_point" 6 [] (spX K (c_pp cV cL)) :=
  d.has (fun _ _ _ _ _ _ us hl => match us, hl with | [_, _], _ => rfl) fun f fd D => k_placed_point B h_placed_p h_check_place h_check_transform_1 g_mp D
def c_chn (cV cL : Addr) : ConX := fun as k ke => ∃ d e, as = [.i d, .i e] ∧ ((∃ ex, ChkT cV cL "first" d (some ex) ∧ ke ex) ∨
  (∃ t ex, d = tfD t ∧ OkT t ∧ ChkT cV cL "second" e (some ex) ∧ ke ex) ∨ ∃ t s, d = tfD t ∧ OkT t ∧ e = tfD s ∧ OkT s ∧ k (tfD (t.chain s)))
abbrev n_chained_transform : List Str := ["first", "second"]
abbrev s_chained_transform : Stmt := top 65
theorem sc_chained_transform : FnScope ["first", "second"] ["first", "second"] (defScope s_chained_transform) := ⟨rfl, rfl, rfl, by decide +kernel, rfl, by decide +kernel, by decide +kernel⟩
theorem k_chained_transform (B : Bl mg) (h_chained_t : Has P w K mg base CX0 "chained_t" 4 [] (spOf K none (c_chain))) (h_check_transform : Has P w K mg base (L2.CX P w) "check_transform" 5 [] (spX K (c_chk_t cV cL))) {f : Addr} {fd : FuncData} (D : FunD K "chained_transform" "chained_transform" (defArgs s_chained_transform) (defBody s_chained_transform) (defScope s_chained_transform) [] [] f fd) : FnOk P w K mg base (L2.CX P w) 6 f fd ["first", "second"] (spX K (c_chn cV cL)) := by
  refine fnok_raises D sc_chained_transform 0 rfl (fun as k ke ⟨_, _, e, _⟩ => by rw [e]; rfl) fun f cdv A outer s H E hr => ⟨_, (pss_cons (ps_expr (pe_has h_check_transform (hr.mono (by decide)) passX (pa_cons (pv 0) (pa_cons pe_str pa_nil))))
      (pss_cons (ps_expr (pe_has h_check_transform (hr.mono (by decide)) passX (pa_cons (pv 1) (pa_cons pe_str pa_nil))))
      (pss_one (ps_ret (pe_has h_chained_t (hr.mono (by decide)) pass0 (pa_cons (pv 0) (pa_cons (pv 1) pa_nil))))))), fun as k ke hc => ?_⟩
  clear hr H s outer A cdv f B D
  obtain ⟨d, e, rfl, h⟩ := hc
  simp only [st0, List.map_cons, List.map_nil, List.replicate, List.cons_append, List.nil_append]
  walk_at "w"
  rcases h with ⟨ex, h, q⟩ | ⟨t, ex, rfl, h, h2, q⟩ | ⟨t, s, rfl, h, rfl, h2, q⟩
  · exact ⟨_, _, some ex, rfl, h, q⟩
  · refine ⟨_, _, none, rfl, h.chk _, ?_⟩
    show WS _ _ _ _ _ _ _
    walk_at "w"
    exact ⟨_, _, some ex, rfl, h2, q⟩
  · refine ⟨_, _, none, rfl, h.chk _, ?_⟩
    show WS _ _ _ _ _ _ _
    walk_at "w"
    refine ⟨_, _, none, rfl, h2.chk _, ?_⟩
    show WS _ _ _ _ _ _ _
    walk_at "w"
    exact ⟨t, s, _, _, rfl, figT_sz h.f, figT_sz h2.f, by decide, q⟩
theorem h_chained_transform (B : Bl mg) (h_chained_t : Has P w K mg base CX0 "chained_t" 4 [] (spOf K none (c_chain))) (h_check_transform : Has P w K mg base (L2.CX P w) "check_transform" 5 [] (spX K (c_chk_t cV cL))) (d : DefAt K mg "chained_transform" s_chained_transform []) : Has P w K mg base (L2.CX P w) "chained_transform" 6 [] (spX K (c_chn cV cL)) :=
  d.has (fun _ _ _ _ _ _ us hl => match us, hl with | [_, _], _ => rfl) fun f fd D => k_chained_transform B h_chained_t h_check_transform D
def c_one (cV cL : Addr) (f : Tf → D) : ConX := fun as k ke => ∃ d, as = [.i d] ∧ ((∃ ex, ChkT cV cL "transform" d (some ex) ∧ ke ex) ∨ ∃ t, d = tfD t ∧ OkT t ∧ k (f t))
abbrev n_inverse_of : List Str := ["transform"]
abbrev s_inverse_of : Stmt := top 66
theorem sc_inverse_of : FnScope ["transform"] ["transform"] (defScope s_inverse_of) := ⟨rfl, rfl, rfl, by decide +kernel, rfl, by decide +kernel, by decide +kernel⟩
theorem k_inverse_of (B : Bl mg) (h_inverse_t : Has P w K mg base CX0 "inverse_t" 4 [] (spOf K none (c_inv))) (h_check_transform_1 : Has P w K mg base (L2.CX P w) "check_transform" 5 [.str "transform"] (spX K (c_chk_t cV cL))) {f : Addr} {fd : FuncData} (D : FunD K "inverse_of" "inverse_of" (defArgs s_inverse_of) (defBody s_inverse_of) (defScope s_inverse_of) [] [] f fd) : FnOk P w K mg base (L2.CX P w) 6 f fd ["transform"] (spX K (c_one cV cL (fun t => tfD t.inv))) := by
  refine fnok_raises D sc_inverse_of 0 rfl (fun as k ke ⟨_, e, _⟩ => by rw [e]; rfl) fun f cdv A outer s H E hr => ⟨_, (pss_cons (ps_expr (pe_has h_check_transform_1 (hr.mono (by decide)) passX (pa_cons (pv 0) pa_nil)))
      (pss_one (ps_ret (pe_has h_inverse_t (hr.mono (by decide)) pass0 (pa_cons (pv 0) pa_nil))))), fun as k ke hc => ?_⟩
  clear hr H s outer A cdv f B D
  obtain ⟨d, rfl, h⟩ := hc
  simp only [st0, List.map_cons, List.map_nil, List.replicate, List.cons_append, List.nil_append]
  walk_at "w"
  rcases h with ⟨ex, h, q⟩ | ⟨t, rfl, h, q⟩
  · exact ⟨_, _, some ex, rfl, h, q⟩
  · refine ⟨_, _, none, rfl, h.chk _, ?_⟩
    show WS _ _ _ _ _ _ _
    walk_at "w"
    exact ⟨t, _, rfl, figT_sz h.f, h.d, by decide, q⟩
theorem h_inverse_of (B : Bl mg) (h_inverse_t : Has P w K mg base CX0 "inverse_t" 4 [] (spOf K none (c_inv))) (h_check_transform_1 : Has P w K mg base (L2.CX P w) "check_transform" 5 [.str "transform"] (spX K (c_chk_t cV cL))) (d : DefAt K mg "inverse_of" s_inverse_of []) : Has P w K mg base (L2.CX P w) "inverse_of" 6 [] (spX K (c_one cV cL (fun t => tfD t.inv))) :=
  d.has (fun _ _ _ _ _ _ us hl => match us, hl with | [_], _ => rfl) fun f fd D => k_inverse_of B h_inverse_t h_check_transform_1 D
abbrev n_determinant_of : List Str := ["transform"]
abbrev s_determinant_of : Stmt := top 67
theorem sc_determinant_of : FnScope ["transform"] ["transform"] (defScope s_determinant_of) := ⟨rfl, rfl, rfl, by decide +kernel, rfl, by decide +kernel, by decide +kernel⟩
theorem k_determinant_of (B : Bl mg) (h_det_t : Has P w K mg base CX0 "det_t" 3 [] (spOf K none (c_det))) (h_check_transform_1 : Has P w K mg base (L2.CX P w) "check_transform" 5 [.str "transform"] (spX K (c_chk_t cV cL))) {f : Addr} {fd : FuncData} (D : FunD K "determinant_of" "determinant_of" (defArgs s_determinant_of) (defBody s_determinant_of) (defScope s_determinant_of) [] [] f fd) : FnOk P w K mg base (L2.CX P w) 6 f fd ["transform"] (spX K (c_one cV cL (fun t => Fq t.det))) := by
  refine fnok_raises D sc_determinant_of 0 rfl (fun as k ke ⟨_, e, _⟩ => by rw [e]; rfl) fun f cdv A outer s H E hr => ⟨_, (pss_cons (ps_expr (pe_has h_check_transform_1 (hr.mono (by decide)) passX (pa_cons (pv 0) pa_nil)))
      (pss_one (ps_ret (pe_has h_det_t (hr.mono (by decide)) pass0 (pa_cons (pv 0) pa_nil))))), fun as k ke hc => ?_⟩
  clear hr H s outer A cdv f B D
  obtain ⟨d, rfl, h⟩ := hc
  simp only [st0, List.map_cons, List.map_nil, List.replicate, List.cons_append, List.nil_append]
  walk_at "w"
  rcases h with ⟨ex, h, q⟩ | ⟨t, rfl, h, q⟩
  · exact ⟨_, _, some ex, rfl, h, q⟩
  · refine ⟨_, _, none, rfl, h.chk _, ?_⟩
    show WS _ _ _ _ _ _ _
    walk_at "w"
    exact ⟨t, _, rfl, figT_sz h.f, by decide, q⟩
theorem h_determinant_of (B : Bl mg) (h_det_t : Has P w K mg base CX0 "det_t" 3 [] (spOf K none (c_det))) (h_check_transform_1 : Has P w K mg base (L2.CX P w) "check_transform" 5 [.str "transform"] (spX K (c_chk_t cV cL))) (d : DefAt K mg "determinant_of" s_determinant_of []) : Has P w K mg base (L2.CX P w) "determinant_of" 6 [] (spX K (c_one cV cL (fun t => Fq t.det))) :=
  d.has (fun _ _ _ _ _ _ us hl => match us, hl with | [_], _ => rfl) fun f fd D => k_determinant_of B h_det_t h_check_transform_1 D
abbrev n_scale_of : List Str := ["transform"]
abbrev s_scale_of : Stmt := top 69
theorem sc_scale_of : FnScope ["transform"] ["transform"] (defScope s_scale_of) := ⟨rfl, rfl, rfl, by decide +kernel, rfl, by decide +kernel, by decide +kernel⟩
theorem k_scale_of (B : Bl mg) (h_scale_t : Has P w K mg base CX0 "scale_t" 3 [] (spOf K none (c_scale))) (h_check_transform_1 : Has P w K mg base (L2.CX P w) "check_transform" 5 [.str "transform"] (spX K (c_chk_t cV cL))) {f : Addr} {fd : FuncData} (D : FunD K "scale_of" "scale_of" (defArgs s_scale_of) (defBody s_scale_of) (defScope s_scale_of) [] [] f fd) : FnOk P w K mg base (L2.CX P w) 6 f fd ["transform"] (spX K (c_one cV cL (fun t => optD t.scale))) := by
  refine fnok_raises D sc_scale_of 0 rfl (fun as k ke ⟨_, e, _⟩ => by rw [e]; rfl) fun f cdv A outer s H E hr => ⟨_, (pss_cons (ps_expr (pe_has h_check_transform_1 (hr.mono (by decide)) passX (pa_cons (pv 0) pa_nil)))
      (pss_one (ps_ret (pe_has h_scale_t (hr.mono (by decide)) pass0 (pa_cons (pv 0) pa_nil))))), fun as k ke hc => ?_⟩
  clear hr H s outer A cdv f B D
  obtain ⟨d, rfl, h⟩ := hc
  simp only [st0, List.map_cons, List.map_nil, List.replicate, List.cons_append, List.nil_append]
  walk_at "w"
  rcases h with ⟨ex, h, q⟩ | ⟨t, rfl, h, q⟩
  · exact ⟨_, _, some ex, rfl, h, q⟩
  · refine ⟨_, _, none, rfl, h.chk _, ?_⟩
    show WS _ _ _ _ _ _ _
    walk_at "w"
    exact ⟨t, _, rfl, figT_sz h.f, by decide, q⟩
theorem h_scale_of (B : Bl mg) (h_scale_t : Has P w K mg base CX0 "scale_t" 3 [] (spOf K none (c_scale))) (h_check_transform_1 : Has P w K mg base (L2.CX P w) "check_transform" 5 [.str "transform"] (spX K (c_chk_t cV cL))) (d : DefAt K mg "scale_of" s_scale_of []) : Has P w K mg base (L2.CX P w) "scale_of" 6 [] (spX K (c_one cV cL (fun t => optD t.scale))) :=
  d.has (fun _ _ _ _ _ _ us hl => match us, hl with | [_], _ => rfl) fun f fd D => k_scale_of B h_scale_t h_check_transform_1 D
instance : DecidableEq Tf := fun s t => decidable_of_iff (s.a = t.a ∧ s.b = t.b ∧ s.c = t.c ∧ s.d = t.d ∧ s.e = t.e ∧ s.f = t.f) ⟨fun ⟨h1, h2, h3, h4, h5, h6⟩ => by cases s; cases t; simp only at h1 h2 h3 h4 h5 h6; subst h1 h2 h3 h4 h5 h6; rfl, fun h => by subst h; exact ⟨rfl, rfl, rfl, rfl, rfl, rfl⟩⟩
def pw (t : Tf) : Nat → Tf
  | 0 => .unit
  | n + 1 => (pw t n).chain t
/-- the least of 1 .. n behind i at which a power is the unit -/
def ordF (t : Tf) : Nat → Nat → D
  | _, 0 => .none
  | i, n + 1 => if pw t (i + 1) = .unit then .int ((i + 1 : Nat) : Int) else ordF t (i + 1) n
theorem eqv_tf {s t : Tf} : PyData.eqvAll [Fq s.a, Fq s.b, Fq s.c, Fq s.d, Fq s.e, Fq s.f] [Fq t.a, Fq t.b, Fq t.c, Fq t.d, Fq t.e, Fq t.f] = decide (s = t) := by
  show (PyData.eqv (Fq s.a) (Fq t.a) && (PyData.eqv (Fq s.b) (Fq t.b) && (PyData.eqv (Fq s.c) (Fq t.c) && (PyData.eqv (Fq s.d) (Fq t.d) && (PyData.eqv (Fq s.e) (Fq t.e) && (PyData.eqv (Fq s.f) (Fq t.f) && true)))))) = _
  rw [eqv_Fq, eqv_Fq, eqv_Fq, eqv_Fq, eqv_Fq, eqv_Fq, Bool.and_true, ← Bool.decide_and, ← Bool.decide_and, ← Bool.decide_and, ← Bool.decide_and, ← Bool.decide_and]
  congr 1
  refine propext ⟨fun ⟨h1, h2, h3, h4, h5, h6⟩ => ?_, fun h => by subst h; exact ⟨rfl, rfl, rfl, rfl, rfl, rfl⟩⟩
  cases s; cases t
  simp only at h1 h2 h3 h4 h5 h6
  subst h1 h2 h3 h4 h5 h6
  rfl
structure GUnit (K : PySem.W.Frag) (mg : Str → Option Value) (a : Addr) : Prop where
  m : mg "UNIT" = some (.ref a)
  d : ∀ F, Dq K F (.ref a) (tfD .unit)
def c_ord (cV cL : Addr) : ConX := fun as k ke => ∃ d, as = [.i d] ∧ ((∃ ex, ChkT cV cL "transform" d (some ex) ∧ ke ex) ∨ ∃ t m, d = tfD t ∧ OkT t ∧ TSz m t ∧ (∀ i, i < 6 → ∃ n, TSz n (pw t i) ∧ 3 * m + 2 * n + 2 ≤ 9000) ∧ k (ordF t 0 6))
abbrev n_order_of : List Str := ["transform", "power", "k"]
abbrev s_order_of : Stmt := top 70
theorem sc_order_of : FnScope ["transform", "power", "k"] ["transform"] (defScope s_order_of) := ⟨rfl, rfl, rfl, by decide +kernel, rfl, by decide +kernel, by decide +kernel⟩
theorem k_order_of {aU : Addr} (B : Bl mg) (h_chained_t : Has P w K mg base CX0 "chained_t" 4 [] (spOf K none (c_chain))) (h_check_transform_1 : Has P w K mg base (L2.CX P w) "check_transform" 5 [.str "transform"] (spX K (c_chk_t cV cL))) (g_unit : GUnit K mg aU) {f : Addr} {fd : FuncData} (D : FunD K "order_of" "order_of" (defArgs s_order_of) (defBody s_order_of) (defScope s_order_of) [] [] f fd) : FnOk P w K mg base (L2.CX P w) 6 f fd ["transform"] (spX K (c_ord cV cL)) := by
  refine fnok_raises D sc_order_of 2 rfl (fun as k ke ⟨_, e, _⟩ => by rw [e]; rfl) fun f cdv A outer s H E hr => ⟨_, (pss_cons (ps_expr (pe_has h_check_transform_1 (hr.mono (by decide)) passX (pa_cons (pv 0) pa_nil)))
      (pss_cons (ps_set (i := 1) sc_order_of.nd rfl (Or.inl rfl) (pe_gref g_unit.m))
      (pss_cons (ps_for (passes_of rfl) rfl (pi_range2 (by rfl) B.range (pa_cons pe_int (pa_cons pe_int pa_nil))) (pg_name (i := 2) sc_order_of.nd rfl (Or.inl rfl)) (pss_cons (ps_set (i := 1) sc_order_of.nd rfl (Or.inl rfl) (pe_has h_chained_t (hr.mono (by decide)) pass0 (pa_cons (pv 1) (pa_cons (pv 0) pa_nil))))
      (pss_one (ps_if (pt_cmpR (kEq (K := K) hr.units) (pv 1) (pe_gref g_unit.m) (nomark _)) (pss_one (ps_ret (pv 2))) pss_nil))))
      (pss_one (ps_ret pe_non))))), fun as k ke hc => ?_⟩
  clear hr H s outer A cdv f B D
  have hU := g_unit.d
  obtain ⟨d, rfl, h⟩ := hc
  simp only [st0, List.map_cons, List.map_nil, List.replicate, List.cons_append, List.nil_append]
  walk_at "w"
  rcases h with ⟨ex, h, q⟩ | ⟨t, m, rfl, h, hm, hp, q⟩
  · exact ⟨_, _, some ex, rfl, h, q⟩
  · refine ⟨_, _, none, rfl, h.chk _, ?_⟩
    show WS _ _ _ _ _ _ _
    walk_at "w"
    refine s_forR2 ?_
    walk_at "w"
    refine ⟨_, _, rfl, by decide, fun i ρ => ∃ x, ρ = [some (.i (tfD t)), some (.i (tfD (pw t i))), x] ∧ i ≤ 6 ∧ k (ordF t i (6 - i)), ⟨_, rfl, by decide, q⟩, fun i ρ' hi ⟨x, hρ, h6, q⟩ => ?_, fun ρ' ⟨x, hρ, _, q⟩ => ?_⟩
    · subst hρ
      have hi6 : i < 6 := by omega
      obtain ⟨n, hn, hz⟩ := hp i hi6
      walk_at "w"
      refine ⟨_, _, _, _, rfl, hn, hm, hz, ?_⟩
      walk_at "w"
      refine b_eqT rfl rfl ?_
      rw [show (pw t i).chain t = pw t (i + 1) from rfl, eqv_tf]
      walk_at "w"
      have e : 6 - i = (6 - (i + 1)) + 1 := by omega
      rw [e] at q
      refine yn (fun h1 => ?_) (fun h1 => ?_)
      · walk_at "w"
        have q' : k (if pw t (i + 1) = .unit then .int ((i + 1 : Nat) : Int) else ordF t (i + 1) (6 - (i + 1))) := q
        rw [if_pos h1] at q'
        have e2 : (1 : Int) + (i : Int) = ((i + 1 : Nat) : Int) := by omega
        rw [e2]
        exact q'
      · walk_at "w"
        have q' : k (if pw t (i + 1) = .unit then .int ((i + 1 : Nat) : Int) else ordF t (i + 1) (6 - (i + 1))) := q
        rw [if_neg h1] at q'
        exact ⟨by omega, q'⟩
    · subst hρ
      walk_at "w"
      exact q
theorem h_order_of {aU : Addr} (B : Bl mg) (h_chained_t : Has P w K mg base CX0 "chained_t" 4 [] (spOf K none (c_chain))) (h_check_transform_1 : Has P w K mg base (L2.CX P w) "check_transform" 5 [.str "transform"] (spX K (c_chk_t cV cL))) (g_unit : GUnit K mg aU) (d : DefAt K mg "order_of" s_order_of []) : Has P w K mg base (L2.CX P w) "order_of" 6 [] (spX K (c_ord cV cL)) :=
  d.has (fun _ _ _ _ _ _ us hl => match us, hl with | [_], _ => rfl) fun f fd D => k_order_of B h_chained_t h_check_transform_1 g_unit D
end K88
/-! T9 -/
namespace K88
open PySem PySem.Spec PyProof.Rows L2 AL
local macro_rules | `(tactic| walk_at "bd") => `(tactic| first
  | assumption
  | (apply Sz.n; assumption)
  | (apply Sz.d; assumption)
  | ((with_reducible apply lt_mul); (case h1 => walk_at "bd"); (case h2 => walk_at "bd"))
  | ((with_reducible apply lt_addx); (case h1 => walk_at "bd"); (case h2 => walk_at "bd"))
  | ((with_reducible apply lt_subx); (case h1 => walk_at "bd"); (case h2 => walk_at "bd"))
  | ((with_reducible apply lt_neg); (case h => walk_at "bd")))
local macro_rules | `(tactic| walk_at "nz") => `(tactic| first
  | assumption
  | exact dnz _
  | ((with_reducible apply inz); (case h1 => walk_at "nz"); (case h2 => walk_at "nz")))
local macro_rules | `(tactic| walk_at "w") => `(tactic| repeat (first
  | with_reducible apply w_int
  | ((with_reducible apply w_var); (case h => exact rfl))
  | with_reducible apply wl_cons
  | with_reducible apply wl_nil
  | ((with_reducible refine And.intro (Nat.le_of_ble_eq_true ?hlen) ?_); (case hlen => exact rfl))
  | with_reducible apply w_tup
  | with_reducible apply w_op
  | with_reducible apply s_seq
  | with_reducible apply wa_cons
  | with_reducible apply wa_nil
  | with_reducible apply ru_i
  | with_reducible apply w_un
  | with_reducible apply s_asg
  | with_reducible apply w_call0
  | with_reducible apply w_callD2
  | with_reducible apply w_callD1
  | ((with_reducible apply w_callX0); (case hz => exact rfl))
  | ((with_reducible apply w_callXS); (case hz => exact rfl))
  | with_reducible apply w_callZ
  | with_reducible apply b_addI
  | ((with_reducible apply rb_ixT); (case e => exact rfl))
  | ((with_reducible apply rb_ixL); (case e => exact rfl))
  | with_reducible apply w_str
  | with_reducible apply w_lst
  | with_reducible apply w_sl
  | with_reducible apply o_none
  | with_reducible apply o_some
  | with_reducible apply sG_T
  | with_reducible apply sG_L
  | ((with_reducible apply s_app); (case e => exact rfl))
  | with_reducible apply s_drop
  | with_reducible apply w_if
  | with_reducible apply p_if
  | with_reducible apply t_test
  | with_reducible apply b_eqI
  | with_reducible apply s_next
  | with_reducible apply p_ret
  | ((with_reducible apply w_ref); (case h => assumption))
  | ((with_reducible apply b_mulI); (case hc => (apply mulx; (case h1 => walk_at "bd"); (case h2 => walk_at "bd"); (case h => omega))))
  | with_reducible apply b_sub
  | with_reducible apply s_raiseK
  | with_reducible apply w_isT
  | with_reducible apply w_isL
  | with_reducible apply w_isI
  | with_reducible apply w_isB
  | with_reducible apply w_isS
  | with_reducible apply w_isN
  | with_reducible apply w_notN
  | with_reducible apply w_or
  | with_reducible apply w_and
  | with_reducible apply w_not
  | with_reducible apply w_chain
  | with_reducible apply w_cb
  | with_reducible apply t_or
  | with_reducible apply t_and
  | with_reducible apply t_not
  | with_reducible apply t_yes
  | ((with_reducible apply b_addT); (case hz => exact Nat.le_of_ble_eq_true rfl))
  | ((with_reducible apply b_addL); (case hz => exact Nat.le_of_ble_eq_true rfl))
  | with_reducible apply s_break
  | with_reducible apply rb_b
  | with_reducible apply t_truthI
  | with_reducible apply b_neI
  | with_reducible apply b_eqS
  | with_reducible apply b_eqB
  | with_reducible apply b_neB
  | with_reducible apply w_bl
  | with_reducible apply w_non
  | with_reducible apply t_B
  | with_reducible apply m_lst
  | with_reducible apply m_cat
  | with_reducible apply m_list
  | with_reducible apply w_lcLU
  | with_reducible apply w_lcTU
  | with_reducible apply s_forTU
  | with_reducible apply s_forLU
  | (with_reducible apply lcU_nil)
  | (with_reducible apply unr_nil)
  | with_reducible apply unr_one
  | ((with_reducible show LcU _ _ _ _ _ _ _ _ _); (refine lcU_one rfl (Nat.lt_of_succ_le (Nat.le_of_ble_eq_true rfl)) ?_))
  | ((with_reducible show (_ = true → _) ∧ (_ = false → _)); (first | refine ybt rfl ?_ | refine ybf rfl ?_))
  | ((with_reducible show (_ = false → _) ∧ (_ = true → _)); (first | refine obt rfl ?_ | refine obf rfl ?_))
  | with_reducible apply yt
  | with_reducible apply yf
  | with_reducible apply fy
  | with_reducible apply ft
  | ((with_reducible apply f_frz); (case e => exact rfl))
  | with_reducible apply s_asgG
  | (refine Exists.intro _ (And.intro (g_lst (by repeat (first | exact gs_nil | apply gs_one)) rfl) ?_))
  | (refine Exists.intro _ (And.intro (g_tup (by repeat (first | exact gs_nil | apply gs_one)) rfl) ?_))
  | with_reducible apply c_lenL
  | with_reducible apply c_lenT
  | with_reducible apply c_listL
  | with_reducible apply c_listT
  | with_reducible apply c_tupL
  | with_reducible apply c_abs
  | with_reducible apply c_int
  | with_reducible apply c_min
  | with_reducible apply rc_gcd
  | with_reducible apply rb_b
  | (refine And.intro (Nat.lt_of_succ_le (Nat.le_of_ble_eq_true rfl)) ?_)
  | with_reducible refine Exists.intro _ (And.intro rfl ?_)
  | refine And.intro (Nat.le_of_ble_eq_true rfl) ?_
  ))
variable {P : Program} {w : World} {K : PySem.W.Frag} {mg : Str → Option Value} {base : Heap}
variable {cV cS cM cL : Addr}
abbrev th (p q r : Pt) : D := .list [ptD p, ptD q, ptD r]
def isTh : D → Bool
  | .list ds => decide (ds.length = 3) && ds.all isPt
  | _ => false
theorem three {α : Type} : ∀ {l : List α}, l.length = 3 → ∃ a b c, l = [a, b, c]
  | [a, b, c], _ => ⟨a, b, c, rfl⟩
theorem isTh_th (p q r : Pt) : isTh (th p q r) = true := by
  show (isPt (ptD p) && (isPt (ptD q) && (isPt (ptD r) && true))) = true
  rw [isPt_ptD, isPt_ptD, isPt_ptD]
  rfl
theorem th_of {d : D} (h : isTh d = true) : ∃ p q r, d = th p q r := by
  cases d with
  | list ds =>
    have h' : (decide (ds.length = 3) && ds.all isPt) = true := h
    rw [Bool.and_eq_true] at h'
    obtain ⟨a, b, c, rfl⟩ := three (of_decide_eq_true h'.1)
    have h2 := h'.2
    simp only [List.all_cons, List.all_nil, Bool.and_true, Bool.and_eq_true] at h2
    obtain ⟨h1, h2, h3⟩ := h2
    obtain ⟨p, rfl⟩ := ptD_of h1
    obtain ⟨q, rfl⟩ := ptD_of h2
    obtain ⟨r, rfl⟩ := ptD_of h3
    exact ⟨p, q, r, rfl⟩
  | _ => cases h
def tri (p q r : Pt) : Rat := (q.sub p).cr (r.sub p)
inductive ChkH (cV cL : Addr) (nm : Str) : D → Option AExc → Prop
  | no {d : D} (h : isTh d = false) : ChkH cV cL nm d (some (BV cV nm))
  | flat (p q r : Pt) (n : Nat) (hn : n ≤ 9000) (hp : PSz n p) (hq : PSz n q) (hr : PSz n r) (h : tri p q r = 0) : ChkH cV cL nm (th p q r) (some (BV cV nm))
  | long (p q r : Pt) (n : Nat) (hn : n ≤ 9000) (hp : PSz n p) (hq : PSz n q) (hr : PSz n r) (h : tri p q r ≠ 0) (hf : (figP p && (figP q && figP r)) = false) : ChkH cV cL nm (th p q r) (some (TL cL))
  | ok (p q r : Pt) (n : Nat) (hn : n ≤ 9000) (hp : PSz n p) (hq : PSz n q) (hr : PSz n r) (h : tri p q r ≠ 0) (hf : (figP p && (figP q && figP r)) = true) : ChkH cV cL nm (th p q r) none
def c_chk_h (cV cL : Addr) : ConX := fun as k ke => ∃ (d : D) (nm : Str) (o : Option AExc), as = [.i d, .i (.str nm)] ∧ ChkH cV cL nm d o ∧ go o (k .none) ke
theorem chkP_of (p : Pt) (nm : Str) : ChkP cV cL nm (ptD p) (if figP p = true then none else some (TL cL)) := by
  by_cases h : figP p = true
  · rw [if_pos h]
    exact .ok p h
  · rw [if_neg h]
    exact .long p (by simpa [figP] using h)
theorem go_if {b : Bool} {ex : AExc} {A : Prop} {ke : AExc → Prop} (h1 : b = true → A) (h2 : b = false → ke ex) : go (if b = true then none else some ex) A ke := by
  cases b with
  | true => exact h1 rfl
  | false => exact h2 rfl
abbrev n_check_three : List Str := ["points", "name", "p"]
abbrev s_check_three : Stmt := top 71
theorem sc_check_three : FnScope ["points", "name", "p"] ["points", "name"] (defScope s_check_three) := ⟨rfl, rfl, rfl, by decide +kernel, rfl, by decide +kernel, by decide +kernel⟩
theorem k_check_three (B : Bl mg) (e_BadValue : ExK P w K mg base "BadValue" cV "name") (h_check_place : Has P w K mg base (L2.CX P w) "check_place" 5 [] (spX K (c_chk_pl cV cL))) (h_side_p : Has P w K mg base CX0 "side_p" 2 [] (spOf K none (c_side))) (h_is_point : Has P w K mg base CX0 "is_point" 3 [] (spOf K none (c_is_point))) (g_mp : GInt mg "MOST_PLACE" 300) {f : Addr} {fd : FuncData} (D : FunD K "check_three" "check_three" (defArgs s_check_three) (defBody s_check_three) (defScope s_check_three) [] [] f fd) : FnOk P w K mg base (L2.CX P w) 6 f fd ["points", "name"] (spX K (c_chk_h cV cL)) := by
  refine fnok_raises D sc_check_three 1 rfl (fun as k ke ⟨_, _, _, e, _⟩ => by rw [e]; rfl) fun f cdv A outer s H E hr => ⟨_, (pss_cons (ps_if (PW.pt (pw_or (pt_not (pt_val (pe_callB (kIsi (K := K)) (by rfl) B.isinstance (by decide +kernel) (pa_cons (pv 0) (pa_cons (pe_bltn (v := .ty "list") (by rfl) B.list (by decide +kernel) rfl) pa_nil))))) (pw_or (pt_cmpR (kNe (K := K) hr.units) (pe_callB (kLen (K := K)) (by rfl) B.len (by decide +kernel) (pa_cons (pv 0) pa_nil)) pe_int (nomark _)) (pw_or1 (pt_not (pt_val (pe_callB (kAll (K := K) rfl) (by rfl) B.all (by decide +kernel) (pa_cons (pe_lc (own := [("p", 2)]) (g := gName 2) (tt := tYes) rfl sc_check_three.nd (kiList (K := K) (pv 0)) (blkOk_by (own := [("p", 2)]) (N := n_check_three) (sc := defScope s_check_three) (by decide +kernel)) (fun _ _ _ _ _ => (pg_name (i := 2) sc_check_three.nd rfl (Or.inl rfl))) (fun _ _ _ _ _ => pts_nil) (fun _ _ _ _ _ => (pe_has h_is_point (hr.mono (by decide)) pass0 (pa_cons (pv 2) pa_nil)))) pa_nil)))))))) (pss_one (ps_raiseK e_BadValue rfl (hr.mono (by decide)) (takes_of rfl rfl rfl rfl) (pa_cons (pv 1) pa_nil))) pss_nil)
      (pss_cons (ps_if (pt_cmpR (kEq (K := K) hr.units) (pe_has h_side_p (hr.mono (by decide)) pass0 (pa_cons (pe_ix (kIx (K := K)) (pv 0) pe_int (fun _ _ => rfl)) (pa_cons (pe_ix (kIx (K := K)) (pv 0) pe_int (fun _ _ => rfl)) (pa_cons (pe_ix (kIx (K := K)) (pv 0) pe_int (fun _ _ => rfl)) pa_nil)))) pe_int (nomark _)) (pss_one (ps_raiseK e_BadValue rfl (hr.mono (by decide)) (takes_of rfl rfl rfl rfl) (pa_cons (pv 1) pa_nil))) pss_nil)
      (pss_one (ps_for (passes_of rfl) rfl (kiList (K := K) (pv 0)) (pg_name (i := 2) sc_check_three.nd rfl (Or.inl rfl)) (pss_one (ps_expr (pe_has h_check_place (hr.mono (by decide)) passX (pa_cons (pv 2) (pa_cons (pv 1) (pa_cons (pe_gint g_mp) pa_nil)))))))))), fun as k ke hc => ?_⟩
  clear hr H s outer A cdv f B D
  obtain ⟨d, nm, o, rfl, h, q⟩ := hc
  simp only [st0, List.map_cons, List.map_nil, List.replicate, List.cons_append, List.nil_append]
  cases h with
  | no h =>
    walk_at "w"
    refine ⟨fun h0 => ?_, fun h0 => ?_⟩
    · have hl : isL d = true := by simpa using h0
      cases d with
      | list ds =>
        walk_at "w"
        refine ⟨fun h1 => ?_, fun h1 => ?_⟩
        · have hl3 : ds.length = 3 := by
            have : ((ds.length : Nat) : Int) = 3 := by simpa using h1
            omega
          walk_at "w"
          refine lcU_map (fun d => .bool (isPt d)) rfl (fun d hd => ?_) (by omega) ?_
          · walk_at "w"
            exact ⟨_, rfl, rfl⟩
          · walk_at "w"
            refine rc_all (bs := ds.map isPt) (by rw [List.map_map]; rfl) ?_
            rw [all_id]
            have e : ds.all isPt = false := by
              have h' : (decide (ds.length = 3) && ds.all isPt) = false := h
              rw [decide_eq_true hl3, Bool.true_and] at h'
              exact h'
            rw [e]
            walk_at "w"
            exact ⟨_, _, rfl, .str _, q⟩
        · walk_at "w"
          exact ⟨_, _, rfl, .str _, q⟩
      | _ => cases hl
    · walk_at "w"
      exact ⟨_, _, rfl, .str _, q⟩
  | flat p1 p2 p3 n hn hp hq hr h =>
    walk_at "w"
    refine ⟨_, rfl, ?_⟩
    rw [isPt_ptD]
    walk_at "w"
    refine ⟨_, rfl, ?_⟩
    rw [isPt_ptD]
    walk_at "w"
    refine ⟨_, rfl, ?_⟩
    rw [isPt_ptD]
    walk_at "w"
    refine rc_all (bs := [true, true, true]) rfl ?_
    walk_at "w"
    refine ⟨_, _, _, _, rfl, hp, hq, hr, hn, fun s hs => ?_⟩
    walk_at "w"
    rw [decide_eq_true (hs.mpr h)]
    walk_at "w"
    exact ⟨_, _, rfl, .str _, q⟩
  | long p1 p2 p3 n hn hp hq hr h hf =>
    walk_at "w"
    refine ⟨_, rfl, ?_⟩
    rw [isPt_ptD]
    walk_at "w"
    refine ⟨_, rfl, ?_⟩
    rw [isPt_ptD]
    walk_at "w"
    refine ⟨_, rfl, ?_⟩
    rw [isPt_ptD]
    walk_at "w"
    refine rc_all (bs := [true, true, true]) rfl ?_
    walk_at "w"
    refine ⟨_, _, _, _, rfl, hp, hq, hr, hn, fun s hs => ?_⟩
    walk_at "w"
    rw [decide_eq_false (fun z => h (hs.mp z))]
    walk_at "w"
    refine ⟨_, _, _, rfl, chkP_of p1 nm, go_if (fun h1 => ?_) fun _ => q⟩
    walk_at "w"
    refine ⟨_, _, _, rfl, chkP_of p2 nm, go_if (fun h2 => ?_) fun _ => q⟩
    walk_at "w"
    refine ⟨_, _, _, rfl, chkP_of p3 nm, go_if (fun h3 => ?_) fun _ => q⟩
    rw [h1, h2, h3] at hf
    cases hf
  | ok p1 p2 p3 n hn hp hq hr h hf =>
    have hf' := hf
    rw [Bool.and_eq_true, Bool.and_eq_true] at hf'
    obtain ⟨f1, f2, f3⟩ := hf'
    walk_at "w"
    refine ⟨_, rfl, ?_⟩
    rw [isPt_ptD]
    walk_at "w"
    refine ⟨_, rfl, ?_⟩
    rw [isPt_ptD]
    walk_at "w"
    refine ⟨_, rfl, ?_⟩
    rw [isPt_ptD]
    walk_at "w"
    refine rc_all (bs := [true, true, true]) rfl ?_
    walk_at "w"
    refine ⟨_, _, _, _, rfl, hp, hq, hr, hn, fun s hs => ?_⟩
    walk_at "w"
    rw [decide_eq_false (fun z => h (hs.mp z))]
    walk_at "w"
    refine ⟨_, _, _, rfl, chkP_of p1 nm, go_if (fun h1 => ?_) fun z => by rw [f1] at z; cases z⟩
    walk_at "w"
    refine ⟨_, _, _, rfl, chkP_of p2 nm, go_if (fun h2 => ?_) fun z => by rw [f2] at z; cases z⟩
    walk_at "w"
    refine ⟨_, _, _, rfl, chkP_of p3 nm, go_if (fun h3 => ?_) fun z => by rw [f3] at z; cases z⟩
    walk_at "w"
    exact q
theorem h_check_three (B : Bl mg) (e_BadValue : ExK P w K mg base "BadValue" cV "name") (h_check_place : Has P w K mg base (L2.CX P w) "check_place" 5 [] (spX K (c_chk_pl cV cL))) (h_side_p : Has P w K mg base CX0 "side_p" 2 [] (spOf K none (c_side))) (h_is_point : Has P w K mg base CX0 "is_point" 3 [] (spOf K none (c_is_point))) (g_mp : GInt mg "MOST_PLACE" 300) (d : DefAt K mg "check_three" s_check_three []) : Has P w K mg base (L2.CX P w) "check_three" 6 [] (spX K (c_chk_h cV cL)) :=
  d.has (fun _ _ _ _ _ _ us hl => match us, hl with | [_, _], _ => rfl) fun f fd D => k_check_three B e_BadValue h_check_place h_side_p h_is_point g_mp D
def c_tof (cV cL : Addr) : ConX := fun as k ke => ∃ d e, as = [.i d, .i e] ∧ ((∃ ex, ChkH cV cL "points" d (some ex) ∧ ke ex) ∨ (∃ ex, ChkH cV cL "points" d none ∧ ChkH cV cL "images" e (some ex) ∧ ke ex) ∨
  (∃ p q r p' q' r' : Pt, ∃ m n j : Nat, d = th p q r ∧ e = th p' q' r' ∧ ChkH cV cL "points" d none ∧ ChkH cV cL "images" e none ∧ PSz m p ∧ PSz m q ∧ PSz m r ∧ PSz n p' ∧ PSz n q' ∧ PSz n r' ∧
  PSz j (q'.sub p') ∧ PSz j (r'.sub p') ∧ tri p q r ≠ 0 ∧ 2 * m + 1 ≤ j ∧ 24 * j + 2 * m + 7 ≤ 9000 ∧ 18 * j + 2 * m + n + 20 ≤ 9000 ∧ 2 * n + 1 ≤ 9000 ∧ k (tfD (.of p q r p' q' r'))))
abbrev n_transform_of : List Str := ["points", "images"]
abbrev s_transform_of : Stmt := top 72
theorem sc_transform_of : FnScope ["points", "images"] ["points", "images"] (defScope s_transform_of) := ⟨rfl, rfl, rfl, by decide +kernel, rfl, by decide +kernel, by decide +kernel⟩
theorem k_transform_of (B : Bl mg) (h_transform_t : Has P w K mg base CX0 "transform_t" 4 [] (spOf K none (c_three))) (h_check_three : Has P w K mg base (L2.CX P w) "check_three" 6 [] (spX K (c_chk_h cV cL))) {f : Addr} {fd : FuncData} (D : FunD K "transform_of" "transform_of" (defArgs s_transform_of) (defBody s_transform_of) (defScope s_transform_of) [] [] f fd) : FnOk P w K mg base (L2.CX P w) 7 f fd ["points", "images"] (spX K (c_tof cV cL)) := by
  refine fnok_raises D sc_transform_of 0 rfl (fun as k ke ⟨_, _, e, _⟩ => by rw [e]; rfl) fun f cdv A outer s H E hr => ⟨_, (pss_cons (ps_expr (pe_has h_check_three (hr.mono (by decide)) passX (pa_cons (pv 0) (pa_cons pe_str pa_nil))))
      (pss_cons (ps_expr (pe_has h_check_three (hr.mono (by decide)) passX (pa_cons (pv 1) (pa_cons pe_str pa_nil))))
      (pss_one (ps_ret (pe_has h_transform_t (hr.mono (by decide)) pass0 (pa_cons (pv 0) (pa_cons (pv 1) pa_nil))))))), fun as k ke hc => ?_⟩
  clear hr H s outer A cdv f B D
  obtain ⟨d, e, rfl, h⟩ := hc
  simp only [st0, List.map_cons, List.map_nil, List.replicate, List.cons_append, List.nil_append]
  walk_at "w"
  rcases h with ⟨ex, h, q⟩ | ⟨ex, h1, h2, q⟩ | ⟨p, q, r, p', q', r', m, n, j, e1, e2, h1, h2, a1, a2, a3, a4, a5, a6, a7, a8, a9, b1, b2, b3, b4, kk⟩
  · exact ⟨_, _, some ex, rfl, h, q⟩
  · refine ⟨_, _, none, rfl, h1, ?_⟩
    show WS _ _ _ _ _ _ _
    walk_at "w"
    exact ⟨_, _, some ex, rfl, h2, q⟩
  · refine ⟨_, _, none, rfl, h1, ?_⟩
    show WS _ _ _ _ _ _ _
    walk_at "w"
    refine ⟨_, _, none, rfl, h2, ?_⟩
    show WS _ _ _ _ _ _ _
    walk_at "w"
    exact ⟨p, q, r, p', q', r', m, n, j, by rw [e1, e2], a1, a2, a3, a4, a5, a6, a7, a8, a9, b1, b2, b3, b4, kk⟩
theorem h_transform_of (B : Bl mg) (h_transform_t : Has P w K mg base CX0 "transform_t" 4 [] (spOf K none (c_three))) (h_check_three : Has P w K mg base (L2.CX P w) "check_three" 6 [] (spX K (c_chk_h cV cL))) (d : DefAt K mg "transform_of" s_transform_of []) : Has P w K mg base (L2.CX P w) "transform_of" 7 [] (spX K (c_tof cV cL)) :=
  d.has (fun _ _ _ _ _ _ us hl => match us, hl with | [_, _], _ => rfl) fun f fd D => k_transform_of B h_transform_t h_check_three D
end K88
/-! B1 -/
/-! list comprehensions of several clauses without tests -/
namespace AL
open PySem PySem.Spec PyProof.Rows L2
/-- a turn of a clause: the next item is stored, then inn -/
def clTurn (L : Expr) (j : Nat) (t i : Expr) (inn : Sem Fin → Sem Fin) (it acc : Value) (env : Env) : Sem Fin := do
  standAt i.pos
  match ← pyNext it with
  | none => pure (.done .next)
  | some v =>
    letOwnedTupleGo t it v
    assign t env v
    let mut ok := true
    for c in ([] : List Expr) do
      if ok then ok ← isTrue c env (eval c env)
    if ok then inn (again (.compLoop L j it acc env)) else again (.compLoop L j it acc env)
/-- into the next clause -/
def clNext (L : Expr) (j : Nat) (i : Expr) (acc : Value) (env : Env) (k : Sem Fin) : Sem Fin := do
  let x ← eval i env
  standAt i.pos
  let x ← foldedSetIterable i env x
  let _ ← runOwn (.compStart L j (← holding [x] (pyIter x)) acc env) env
  k
/-- behind the last clause -/
def clEnd (elt : Expr) (acc : Value) (env : Env) (k : Sem Fin) : Sem Fin := (do let _ ← call (.builtin "list.append") [acc, ← eval elt env]) >>= fun _ => k
abbrev lcx (elt : Expr) (gs : List Comprehension) (sc : Scope) (pos : Pos) : Expr := .ListComp elt gs sc pos
abbrev No : Value → Shared → Prop := fun _ _ => False
abbrev cl (t i : Expr) : Comprehension := ⟨t, i, [], 0⟩
theorem turn3_0 (elt t0 i0 t1 i1 t2 i2 : Expr) (sc : Scope) (pos : Pos) (it acc : Value) (env : Env) :
    compTurn (.ListComp elt [cl t0 i0, cl t1 i1, cl t2 i2] sc pos) 0 it acc env = clTurn (.ListComp elt [cl t0 i0, cl t1 i1, cl t2 i2] sc pos) 0 t0 i0 (clNext (.ListComp elt [cl t0 i0, cl t1 i1, cl t2 i2] sc pos) 1 i1 acc env) it acc env := by rfl
theorem turn3_1 (elt t0 i0 t1 i1 t2 i2 : Expr) (sc : Scope) (pos : Pos) (it acc : Value) (env : Env) :
    compTurn (.ListComp elt [cl t0 i0, cl t1 i1, cl t2 i2] sc pos) 1 it acc env = clTurn (.ListComp elt [cl t0 i0, cl t1 i1, cl t2 i2] sc pos) 1 t1 i1 (clNext (.ListComp elt [cl t0 i0, cl t1 i1, cl t2 i2] sc pos) 2 i2 acc env) it acc env := by rfl
theorem turn3_2 (elt t0 i0 t1 i1 t2 i2 : Expr) (sc : Scope) (pos : Pos) (it acc : Value) (env : Env) :
    compTurn (.ListComp elt [cl t0 i0, cl t1 i1, cl t2 i2] sc pos) 2 it acc env = clTurn (.ListComp elt [cl t0 i0, cl t1 i1, cl t2 i2] sc pos) 2 t2 i2 (clEnd elt acc env) it acc env := by rfl
section
variable {prog : Program} {w : World} {A : Around} {R : Result → Shared → Prop} {s : Shared} {elt t i : Expr} {gs : List Comprehension} {sc : Scope} {pos : Pos} {j : Nat} {inn : Sem Fin → Sem Fin} {it acc : Value} {env : Env}
/-- the loop of a clause -/
theorem clLoop (he : compTurn (lcx elt gs sc pos) j it acc env = clTurn (lcx elt gs sc pos) j t i inn it acc env) (J : Nat → Shared → Prop)
    (turn : ∀ n s, J n s → wpAny (model prog w) A (pyNext it) (fun r s1 => match r with
      | none => R (.ok .next) s1
      | some v => wpAny (model prog w) A (letOwnedTupleGo t it v) (fun _ s2 => wpAny (model prog w) A (assign t env v) (fun _ s3 => ∀ (k : Sem Fin) (F : Fin → Shared → Prop) (E : Value → Shared → Prop), (∀ s4, (∃ m, m < n ∧ J m s4) → wpAny (model prog w) A k F E s4) → wpAny (model prog w) A (inn k) F E s3) No s2) No s1) No s)
    (n : Nat) (h : J n s) : codeAny (model prog w) A (.compLoop (lcx elt gs sc pos) j it acc env) R s := by
  refine codeAny_loop rfl J (fun n s q => ?_) n h
  show wpAny _ A ((compTurn (lcx elt gs sc pos) j it acc env).onRaise fun x => do noteFrame x env; theTreesLotGoes x) _ _ s
  rw [he]
  refine wpAny_noted (wpAny_bind (wpAny_standAt (wpAny_bind (thnF (turn n s q) fun r s1 h1 => ?_))))
  cases r with
  | none => exact wpAny_pure h1
  | some v =>
    refine wpAny_bind (thnF h1 fun _ s2 h2 => wpAny_bind (thnF h2 fun _ s3 h3 => ?_))
    refine wpAny_bind (wpAny_tests_nil ?_)
    exact h3 _ _ _ fun s4 h4 => wpAny_pure ⟨rfl, h4⟩
/-- a clause's start -/
theorem clStart (hg : gs[j]? = some (cl t i)) (h0 : codeAny (model prog w) A (.compLoop (lcx elt gs sc pos) j it acc env) R s)
    (h : wpAny (model prog w) A (pyIter it) (fun it2 s2 => codeAny (model prog w) A (.compLoop (lcx elt gs sc pos) j it2 acc env) R s2) No s) : codeAny (model prog w) A (.compStart (lcx elt gs sc pos) j it acc env) R s := by
  refine codeAny_of_tree ?_
  show wpAny _ _ ((compStart (lcx elt gs sc pos) j it acc env).onRaise fun x => do noteFrame x env; standAt theWindowsPlace) _ _ s
  refine wpAny_notedAt ?_
  unfold compStart
  rw [show clausesOf (lcx elt gs sc pos) = gs from rfl, hg]
  show wpAny _ _ (ask >>= _) _ _ s
  refine wpAny_bind (wpAny_askSetting (wpAny_ite ?_))
  split
  · first
      | exact wpAny_pure ⟨rfl, h0⟩
      | exact wpAny_bind (wpAny_pure (wpAny_pure ⟨rfl, h0⟩))
  · refine wpAny_bind (wpAny_rule ?_)
    show wpAny _ _ (standAt i.pos >>= _) _ _ s
    exact wpAny_bind (wpAny_standAt (wpAny_bind (thnF h fun it2 s2 h2 => wpAny_pure ⟨rfl, h2⟩)))
end
/-! ### within the block -/
/-- slots that still know what was known, but for vs -/
structure Kp (vs : List Nat) (σ τ : L2.St) : Prop where
  len : σ.length = τ.length
  kn : ∀ (j : Nat) v, (wipe σ vs)[j]? = some (some v) → τ[j]? = some (some v)
abbrev TC := L2.St → Hp → (Hp → Prop) → Prop
structure PIn (X : Cx) (m : Sem Fin → Sem Fin) (vs : List Nat) (t : TC) : Prop where
  run : ∀ pins s σ H Q (k : Sem Fin) (F : Fin → Shared → Prop) (E : Value → Shared → Prop), Inv X pins σ H s → t σ H Q → (∀ τ H2 s2, Inv X pins τ H2 s2 → Kp vs σ τ → Q H2 → wpAny (model X.prog X.w) X.A k F E s2) → wpAny (model X.prog X.w) X.A (m k) F E s
/-- the item is made and laid into the list at D -/
def tcEnd (te : TE) (D : Addr) : TC := fun σ H Q => te σ H fun y H1 => ∃ acc, H1 D = some (.lst acc) ∧ acc.length < sizeLine ∧ Q (upd H1 D (.lst (acc ++ [y])))
/-- a further clause -/
def tcIn (wi : TI) (g : TG) (vs : List Nat) (t : TC) : TC := fun σ H Q => wi σ H fun J H1 => ∃ W : Nat → Nat → Hp → Prop, (∃ m, W 0 m H1) ∧ ∀ i m H, W i m H →
  (J.stop i H ∧ Q H) ∨ (J.go i H ∧ ∃ Nx : Hp → Prop, (∀ H', Nx H' → ∃ m', m' < m ∧ W (i + 1) m' H') ∧ ∀ x H', J.yld i H x H' → g x (wipe σ vs) H' fun σ2 H2 => wipe σ2 vs = wipe σ vs ∧ t σ2 H2 Nx)
section
variable {X : Cx} {elt t i : Expr} {gs : List Comprehension} {sc : Scope} {pos : Pos} {te : TE} {j : Nat} {D : Addr} {inn : Sem Fin → Sem Fin} {vs ws : List Nat} {wi : TI} {g : TG} {tc : TC}
theorem pin_end (hx : X.xe = No) (he : PE X elt te) : PIn X (clEnd elt (.ref D) X.env) [] (tcEnd te D) := ⟨fun pins s σ H Q k F E I h kk => by
  have r := he.run pins s σ H _ I h
  rw [hx] at r
  exact wpAny_bind (wpAny_bind (thnF r fun z s1 ⟨y, H1, I1, r1, acc, h1, h2, q⟩ => wpAny_bind (app_ok I1 h1 h2 r1 fun s2 I2 => wpAny_pure (kk _ _ _ I2 ⟨rfl, fun _ _ e => e⟩ q))))⟩
theorem pin_next (hx : X.xe = No) (hc : X.calm = true) (hg : gs[j]? = some (cl t i)) (he : ∀ it, compTurn (lcx elt gs sc pos) j it (.ref D) X.env = clTurn (lcx elt gs sc pos) j t i inn it (.ref D) X.env) (hs : ∀ x, foldedSetIterable i X.env x = pure x) (hi : PI X t i wi) (pg : PG X t g) (hv : ∀ k ∈ ws, k ∈ vs) (hin : PIn X inn ws tc) :
    PIn X (clNext (lcx elt gs sc pos) j i (.ref D) X.env) vs (tcIn wi g vs tc) := ⟨fun pins s σ H Q kf F E I h kk => by
  have r := hi.run pins s σ H _ I h
  rw [hx] at r
  refine wpAny_bind (thnF r fun xv s1 h1 => wpAny_bind (wpAny_standAt (wpAny_bind (wpAny_of_eq (hs xv) (wpAny_bind (wpAny_holding (thnF h1 fun itv s2 h2 => wpAny_bind (wpAny_runOwn ?_))))))))
  rw [Around.mark_none]
  obtain ⟨it, fp, tn, J, H2, e, I2, T, st2, f2, W, ⟨m0, w0⟩, turn⟩ := h2
  subst e
  have ok : ∀ {H' : Hp}, (∀ b ∈ fp, H' b = none) → ∀ b ∈ fp, FpOk X pins H' b := fun hn b hb => ⟨hn b hb, (f2 b hb).2⟩
  have loop : codeAny (model X.prog X.w) X.A (.compLoop (lcx elt gs sc pos) j (.ref it) (.ref D) X.env) (fun r s' => match r with
      | .ok _ => ∃ τ H2, Inv X pins τ H2 s' ∧ Kp vs σ τ ∧ Q H2
      | .error _ => False) s2 := by
    refine clLoop (he _) (fun m s' => ∃ k H', Inv X pins (wipe σ vs) H' s' ∧ tn k s'.heap ∧ (∀ b ∈ fp, H' b = none) ∧ W k m H') ?_ m0 ⟨0, H2, I2.weak (wipe_length _ _) (fun k v e => (wipe_some e).1), st2, fun b hb => (f2 b hb).1, w0⟩
    rintro m s3 ⟨k, H3, I3, st3, n3, w3⟩
    rcases turn k m H3 w3 with ⟨stop, q⟩ | ⟨gon, Nx, hNx, step⟩
    · refine thnF (T.done X rfl rfl rfl hc k pins s3 _ H3 No I3 (ok n3) st3 stop) fun r s4 ⟨hr, I4⟩ => ?_
      subst hr
      exact ⟨_, H3, I4, ⟨(wipe_length _ _).symm, fun _ _ e => e⟩, q⟩
    · refine thnF (T.item X rfl rfl rfl hc k pins s3 _ H3 No I3 (ok n3) st3 gon) fun r s4 ⟨u, hr, h4⟩ => ?_
      subst hr
      refine thnF h4 fun _ s5 ⟨x, H5, I5, r5, y5, st5, n5⟩ => ?_
      have I5' := I5.pinned (ok n5) (T.obj _ _ st5)
      have ra := pg.run _ s5 _ H5 x u _ I5' r5 (step x H5 y5)
      rw [hx] at ra
      refine thnF ra fun _ s6 ⟨σ6, H6, I6, k6, q6⟩ => fun kf F E kk => hin.run _ s6 σ6 H6 _ kf F E I6 q6 fun τ H7 s7 I7 k7 nx => kk _ ?_
      obtain ⟨m', hm, w7⟩ := hNx H7 nx
      have at5 : ∀ b ∈ fp, ∀ o, s5.heap.get? b = some o → s7.heap.get? b = some o ∧ H7 b = none := fun b hb o e =>
        have z := I7.pin (b, o) (List.mem_append_right _ (List.mem_append_right _ (mem_pinsAt hb e)))
        ⟨z.1, z.2.1⟩
      have hl : (wipe σ vs).length = τ.length := by rw [← k6, wipe_length, k7.len]
      refine ⟨m', hm, k + 1, H7, I7.unpinned.weak hl (fun a v e => ?_), T.keep _ _ _ st5 fun b hb o e => (at5 b hb o e).1, fun b hb => ?_, w7⟩
      · rw [← k6] at e
        obtain ⟨e1, e2⟩ := wipe_some e
        refine k7.kn a v ?_
        rw [wipe_out fun z => e2 (hv a z)]
        exact e1
      · obtain ⟨o, e, _⟩ := T.obj _ _ st5 b hb
        exact (at5 b hb o e).2
  refine codeAny_mono (clStart hg loop (T.self X.A 0 _ _ _ st2 loop)) fun r s' hr => ?_
  cases r with
  | ok f =>
    obtain ⟨τ, H7, I7, k7, q7⟩ := hr
    exact kk τ H7 _ I7 k7 q7
  | error e => exact hr.elim⟩
end
end AL
/-! B2 -/
/-! list comprehensions of several clauses: the block -/
namespace AL
open PySem PySem.Spec PyProof.Rows L2
def tLcN (wi : TI) (g : TG) (tc : Addr → TC) (vs : List Nat) : TE := fun σ H Q => wi σ H fun J H1 => ∀ D, H1 D = none → ∃ W : Nat → Nat → Hp → Prop, (∃ m, W 0 m (upd H1 D (.lst []))) ∧ ∀ i m H, W i m H →
  (J.stop i H ∧ Q (.ref D) H) ∨ (J.go i H ∧ ∃ Nx : Hp → Prop, (∀ H', Nx H' → ∃ m', m' < m ∧ W (i + 1) m' H') ∧ ∀ x H', J.yld i H x H' → g x (wipe σ vs) H' fun σ2 H2 => wipe σ2 vs = wipe σ vs ∧ tc D σ2 H2 Nx)
variable {X : Cx}
theorem pe_lcN {elt tg iter : Expr} {rest : List Comprehension} {scope : Scope} {own : List (Str × Nat)} {ws : List Nat} {pos : Pos} {wi : TI} {g : TG} {tc : Addr → TC} (hc : X.calm = true) (hN : X.N.Nodup) (hi : PI X tg iter wi) (ok : BlkOk X.N X.env.scope scope own) (hv : ∀ k ∈ ws, k ∈ own.map (·.2))
    (hg : ∀ s H C cs fp, PG (X.blk s H scope (compEnvC scope cs C X.env) fp) tg g)
    (hin : ∀ s H C cs fp D, ∃ inn : Sem Fin → Sem Fin, (∀ it, compTurn (lcx elt (cl tg iter :: rest) scope pos) 0 it (.ref D) (compEnvC scope cs C X.env) = clTurn (lcx elt (cl tg iter :: rest) scope pos) 0 tg iter inn it (.ref D) (compEnvC scope cs C X.env)) ∧ PIn (X.blk s H scope (compEnvC scope cs C X.env) fp) inn ws (tc D))
    (hs : ∀ x, foldedSetIterable iter X.env x = pure x := by intro _; rfl) : PE X (.ListComp elt (cl tg iter :: rest) scope pos) (tLcN wi g tc (own.map (·.2))) := by
  refine ⟨fun pins s σ H Q I h => ?_⟩
  rw [eval_ListComp]
  refine wpAny_comprehension_free rfl hs (closure_ok fun y hy e => ?_) ok.kind (fun y hy e => by rw [ok.uniq y hy, e]) (thn (hi.run pins s σ H _ I h) fun xv s1 h1 => thn h1 fun itv s2 h2 => ?_)
  · rcases ok.free y hy e with k | k
    · exact I.ok.has _ (.inl k)
    · exact I.ok.has _ (.inr k)
  obtain ⟨it, fp, tn, J, H2, e, I2, T, st2, f2, q⟩ := h2
  subst e
  refine wpAny_newObj_type (newEnv_comp ?_) (by show 0 ≤ sizeLine; decide)
  obtain ⟨D, hD⟩ : ∃ D, s2.heap.objs.size = D := ⟨_, rfl⟩
  rw [hD]
  have hDn : H2 D = none := I2.hok.fresh (Nat.le_of_eq hD)
  obtain ⟨W, ⟨m0, w0⟩, turn⟩ := q D hDn
  obtain ⟨s3, hs3⟩ : ∃ s3 : Shared, ({ s2 with heap := s2.heap.push { cls := .type "list", data := .seq ([] : List Value).toArray } } : Shared) = s3 := ⟨_, rfl⟩
  have hp3 : s3.heap = s2.heap.push { cls := .type "list", data := .seq ([] : List Value).toArray } := by rw [← hs3]
  have kp3 : ∀ b o, s2.heap.get? b = some o → s3.heap.get? b = some o := fun b o e => by
    rw [hp3]
    exact Heap.get?_push_of_some _ e
  have I3 : Inv X pins σ (upd H2 D (.lst [])) s3 := by
    rw [← hs3]
    refine I2.laid (t' := s2.toks) (fun b o e => Heap.get?_push_of_some _ e) (Nat.le_of_eq hD) ⟨Nat.zero_le _, [], 0, .nil, ?_⟩
    rw [← hD]
    exact Heap.get?_push_size _ rfl
  have f3 : ∀ b ∈ fp, FpOk X pins (upd H2 D (.lst [])) b ∧ b < s3.heap.objs.size := fun b hb => by
    obtain ⟨o, e, _⟩ := T.obj _ _ st2 b hb
    have lt := Heap.lt_size e
    refine ⟨⟨?_, (f2 b hb).2⟩, Heap.lt_size (kp3 b o e)⟩
    rw [upd_ne (by rw [← hD]; exact Nat.ne_of_lt lt)]
    exact (f2 b hb).1
  have I4 := block_start I3 ok hN f3
  obtain ⟨cs, hcs⟩ : ∃ cs, cellsFrom (s3.heap.objs.size + 1) scope.names (cloFrom X.env.cells scope.names []) = cs := ⟨_, rfl⟩
  obtain ⟨H3, hH3⟩ : ∃ H3, upd H2 D (.lst []) = H3 := ⟨_, rfl⟩
  rw [hs3]
  rw [hcs] at I4 ⊢
  rw [hH3] at I3 I4 f3 w0
  obtain ⟨inn, ht, hi2⟩ := hin s3 H3 s3.heap.objs.size cs fp D
  have pg := hg s3 H3 s3.heap.objs.size cs fp
  have cL : (compEnvC scope cs s3.heap.objs.size X.env).locals = s3.heap.objs.size := rfl
  obtain ⟨ce, hce⟩ : ∃ ce, compEnvC scope cs s3.heap.objs.size X.env = ce := ⟨_, rfl⟩
  rw [hce] at I4 ht hi2 pg cL
  have B : ∀ {s4 : Shared}, Inv (X.blk s3 H3 scope ce fp) [] (wipe σ (own.map (·.2))) H3 s4 → tn 0 s4.heap → codeAny (model X.prog X.w) X.A (.compStart (lcx elt (cl tg iter :: rest) scope pos) 0 (.ref it) (.ref D) ce) (compPost (model X.prog X.w) X.A X.xe none (fun v s' => EP X pins σ Q v s') (.ref D) s3.heap.objs.size) s4 := fun {s4} I4 st4 => by
    have okB : ∀ {τ : L2.St} {H' : Hp} {s' : Shared}, Inv (X.blk s3 H3 scope ce fp) [] τ H' s' → (∀ b ∈ fp, H' b = none) → ∀ b ∈ fp, FpOk (X.blk s3 H3 scope ce fp) [] H' b := fun {τ H' s'} J hn b hb =>
      ⟨hn b hb, (J.ok.exf b hb).1, J.ok.exfs b hb, .inl hb, fun x c e => (J.ok.exf b hb).2 x c e, fun p hp => nomatch (show p ∈ ([] : List (Addr × Obj)) from hp)⟩
    have loop : codeAny (model X.prog X.w) X.A (.compLoop (lcx elt (cl tg iter :: rest) scope pos) 0 (.ref it) (.ref D) ce) (compPost (model X.prog X.w) X.A X.xe none (fun v s' => EP X pins σ Q v s') (.ref D) s3.heap.objs.size) s4 := by
      refine clLoop (ht _) (fun m s' => ∃ k H', Inv (X.blk s3 H3 scope ce fp) [] (wipe σ (own.map (·.2))) H' s' ∧ tn k s'.heap ∧ (∀ b ∈ fp, H' b = none) ∧ W k m H') ?_ m0 ⟨0, H3, I4, st4, fun b hb => (f3 b hb).1.1, w0⟩
      rintro m s5 ⟨k, H5, I5, st5, n5, w5⟩
      rcases turn k m H5 w5 with ⟨stop, qq⟩ | ⟨gon, Nx, hNx, step⟩
      · refine thnF (T.done (X.blk s3 H3 scope ce fp) rfl rfl rfl hc k [] s5 _ H5 No I5 (okB I5 n5) st5 stop) fun r s6 ⟨hr, I6⟩ => ?_
        subst hr
        have I7 : Inv X pins σ H5 s6 := I3.call' (ch := fp) I6.os I6.base I6.hok I6.bare fun b hb => ⟨(f3 b hb).1.2.2.2.1, (f3 b hb).1.2.1, (f3 b hb).1.2.2.2.2.1, (f3 b hb).1.2.2.2.2.2⟩
        have nC : H5 s3.heap.objs.size = none := by
          have z : H5 ce.locals = none := I6.free
          rw [cL] at z
          exact z
        obtain ⟨mm, hn, _⟩ := I6.loc
        have hn : s6.heap.Ns ce.locals mm := hn
        rw [cL] at hn
        refine ⟨mm, hn, fun h2 sb => ?_⟩
        obtain ⟨e0, e1, e2, e3, e4, e5⟩ := I3.fpOk (Nat.le_refl _) nC
        exact ⟨.ref D, H5, I7.turned (t' := s6.toks) (fun b o hb e => (sb.2 b hb).trans e) e0 e1 e3 e4 e5, rfl, qq⟩
      · refine thnF (T.item (X.blk s3 H3 scope ce fp) rfl rfl rfl hc k [] s5 _ H5 No I5 (okB I5 n5) st5 gon) fun r s6 ⟨u, hr, h6⟩ => ?_
        subst hr
        refine thnF h6 fun _ s7 ⟨x, H7, I7, r7, y7, st7, n7⟩ => ?_
        have I7' := I7.pinned (okB I7 n7) (T.obj _ _ st7)
        refine thnF (pg.run _ s7 _ H7 x u _ I7' r7 (step x H7 y7)) fun _ s8 ⟨σ8, H8, I8, k8, q8⟩ => fun kf F E kk => hi2.run _ s8 σ8 H8 _ kf F E I8 q8 fun τ H9 s9 I9 k9 nx => kk _ ?_
        obtain ⟨m', hm, w9⟩ := hNx H9 nx
        have at7 : ∀ b ∈ fp, ∀ o, s7.heap.get? b = some o → s9.heap.get? b = some o ∧ H9 b = none := fun b hb o e =>
          have z := I9.pin (b, o) (List.mem_append_right _ (List.mem_append_right _ (mem_pinsAt hb e)))
          ⟨z.1, z.2.1⟩
        have hl : (wipe σ (own.map (·.2))).length = τ.length := by rw [← k8, wipe_length, k9.len]
        refine ⟨m', hm, k + 1, H9, (I9.unpinned (pins := [])).weak hl (fun a v e => ?_), T.keep _ _ _ st7 fun b hb o e => (at7 b hb o e).1, fun b hb => ?_, w9⟩
        · rw [← k8] at e
          obtain ⟨e1, e2⟩ := wipe_some e
          refine k9.kn a v ?_
          rw [wipe_out fun z => e2 (hv a z)]
          exact e1
        · obtain ⟨o, e, _⟩ := T.obj _ _ st7 b hb
          exact (at7 b hb o e).2
    exact codeAny_compStart_list loop (T.self X.A 0 _ _ _ st4 loop)
  show codeAny _ _ (.compStart (lcx elt (cl tg iter :: rest) scope pos) 0 (.ref it) (.ref D) (compEnvC scope cs s3.heap.objs.size X.env)) (compPost (model X.prog X.w) X.A X.xe none (fun v s' => EP X pins σ Q v s') (.ref D) s3.heap.objs.size) _
  rw [hce]
  refine B I4 ?_
  exact T.keep _ _ _ st2 fun b _ o e => pushCells_keeps _ _ _ _ (Heap.get?_push_of_some _ (kp3 b o e))
/-- three clauses -/
theorem pe_lc3 {elt t0 i0 t1 i1 t2 i2 : Expr} {scope : Scope} {own : List (Str × Nat)} {v1 v2 : List Nat} {pos : Pos} {w0 w1 w2 : TI} {g0 g1 g2 : TG} {te : TE} (hc : X.calm = true) (hN : X.N.Nodup) (hi : PI X t0 i0 w0) (ok : BlkOk X.N X.env.scope scope own) (hv1 : ∀ k ∈ v1, k ∈ own.map (·.2)) (hv2 : ∀ k ∈ v2, k ∈ v1)
    (hg0 : ∀ s H C cs fp, PG (X.blk s H scope (compEnvC scope cs C X.env) fp) t0 g0) (hi1 : ∀ s H C cs fp, PI (X.blk s H scope (compEnvC scope cs C X.env) fp) t1 i1 w1)
    (hg1 : ∀ s H C cs fp, PG (X.blk s H scope (compEnvC scope cs C X.env) fp) t1 g1) (hi2 : ∀ s H C cs fp, PI (X.blk s H scope (compEnvC scope cs C X.env) fp) t2 i2 w2)
    (hg2 : ∀ s H C cs fp, PG (X.blk s H scope (compEnvC scope cs C X.env) fp) t2 g2) (he : ∀ s H C cs fp, PE (X.blk s H scope (compEnvC scope cs C X.env) fp) elt te)
    (hs : ∀ x, foldedSetIterable i0 X.env x = pure x := by intro _; rfl) (hs1 : ∀ env x, foldedSetIterable i1 env x = pure x := by intro _ _; rfl) (hs2 : ∀ env x, foldedSetIterable i2 env x = pure x := by intro _ _; rfl) :
    PE X (.ListComp elt [⟨t0, i0, [], 0⟩, ⟨t1, i1, [], 0⟩, ⟨t2, i2, [], 0⟩] scope pos) (tLcN w0 g0 (fun D => tcIn w1 g1 v1 (tcIn w2 g2 v2 (tcEnd te D))) (own.map (·.2))) :=
  pe_lcN hc hN hi ok hv1 hg0 (fun s H C cs fp D => ⟨_, fun it => turn3_0 .., pin_next rfl hc rfl (fun it => turn3_1 ..) (hs1 _) (hi1 s H C cs fp) (hg1 s H C cs fp) hv2 (pin_next rfl hc rfl (fun it => turn3_2 ..) (hs2 _) (hi2 s H C cs fp) (hg2 s H C cs fp) (fun k hk => absurd hk List.not_mem_nil) (pin_end rfl (he s H C cs fp)))⟩) hs
end AL
/-! B3 -/
/-! comprehensions of several clauses: what they ask of data -/
namespace AL
open PySem PySem.Spec PyProof.Rows L2
variable {Γ : Gam} {σ : L2.St} {ρ : Rho} {wi : TI} {g : TG} {te tl : TE} {vs : List Nat} {k : D → Prop} {tc : Addr → TC} {Iv Iv' : List D → Prop}
/-- J hands out xs, wherever ok holds -/
def Hands (J : It) (xs : List V) (ok : Hp → Prop) : Prop := ∀ i H, ok H → (∀ x, xs[i]? = some x → J.go i H) ∧ (∀ x H', J.yld i H x H' → H' = H ∧ xs[i]? = some x) ∧ (xs.length ≤ i → J.stop i H)
theorem hands_l {K : PySem.W.Frag} {a : Addr} {xs : List V} : Hands (Itl K a) xs fun H => SqL K H a xs := fun i H q => ⟨fun x e => ⟨xs, x, q, e⟩, fun x H' y => ⟨y.1, y.2 xs q⟩, fun l => ⟨xs, q, l⟩⟩
theorem hands_t {K : PySem.W.Frag} {a : Addr} {xs : List V} : Hands (Itt K a) xs fun H => SqT K H a xs := fun i H q => ⟨fun x e => ⟨xs, x, q, e⟩, fun x H' y => ⟨y.1, y.2 xs q⟩, fun l => ⟨xs, q, l⟩⟩
/-- a clause's rest: from lists that have Iv to such that have Iv' -/
def WC (Γ : Gam) (tc : Addr → TC) (ρ : Rho) (Iv Iv' : List D → Prop) : Prop := ∀ F1 H1 Dl F H σ (Q : Hp → Prop), XGood Γ F1 H1 → EnvI Γ.K F σ ρ → Lcw Γ F1 H1 Dl Iv F H → (∀ F2 H2, Same F F2 → Lcw Γ F1 H1 Dl Iv' F2 H2 → Q H2) → tc Dl σ H Q
theorem wc_end (h : ∀ acc, Iv acc → WE Γ te ρ fun e => acc.length < 100000 ∧ Iv' (acc ++ [e])) : WC Γ (tcEnd te) ρ Iv Iv' := fun F1 H1 Dl F H σ Q x e L c => by
  obtain ⟨xs0, acc0, g1, g2, g3, g4⟩ := L.l
  have L0 : Lcw Γ F1 H1 Dl (fun a => a = acc0) F H := ⟨L.w, L.s, ⟨xs0, acc0, g1, g2, g3, rfl⟩, L.n, L.z⟩
  refine h acc0 g4 F H σ _ ⟨L.w, e, x.next L.w L.s⟩ fun v d F2 H2 w2 s2 p2 q2 => ?_
  obtain ⟨xs, h1, h2, L'⟩ := (L0.same (Iv' := fun a => a = acc0) w2 s2 fun a z => z).app (Iv' := Iv') p2 (fun a z => by rw [z]; exact q2)
  exact ⟨xs, h1, h2, c F2 _ s2.fx L'⟩
/-- the loop of a clause -/
theorem wc_loop {J : It} {xs : List V} {ok : Hp → Prop} {F1 H1 F H : Hp} {Dl : Addr} {ds : List D} {Q : Hp → Prop} (hJ : Hands J xs ok) (x : XGood Γ F1 H1) (e : EnvI Γ.K F σ ρ) (Jv : Nat → List D → Prop) (L : Lcw Γ F1 H1 Dl (Jv 0) F H) (ha : DqAll Γ.K F xs ds) (hok : ∀ F2 H2, Same F F2 → Same F2 H2 → ok H2)
    (hs : ∀ i d, ds[i]? = some d → ∃ js, WG Γ.K g d js ∧ (js.all fun p => vs.contains p.1) = true ∧ WC Γ tc (putD (wipeR ρ vs) js) (Jv i) (Jv (i + 1)))
    (hd : ∀ F2 H2, Same F F2 → Lcw Γ F1 H1 Dl (Jv ds.length) F2 H2 → Q H2) :
    ∃ W : Nat → Nat → Hp → Prop, (∃ m, W 0 m H) ∧ ∀ i m H, W i m H → (J.stop i H ∧ Q H) ∨ (J.go i H ∧ ∃ Nx : Hp → Prop, (∀ H', Nx H' → ∃ m', m' < m ∧ W (i + 1) m' H') ∧ ∀ x H', J.yld i H x H' → g x (wipe σ vs) H' fun σ2 H2 => wipe σ2 vs = wipe σ vs ∧ tc Dl σ2 H2 Nx) := by
  have hl := ha.len
  refine ⟨fun i m H' => m = xs.length - i ∧ i ≤ xs.length ∧ ∃ F', Same F F' ∧ Lcw Γ F1 H1 Dl (Jv i) F' H', ⟨_, rfl, Nat.zero_le _, F, Same.refl F, L⟩, ?_⟩
  rintro i m H' ⟨rfl, hi, F', f, L'⟩
  obtain ⟨j1, j2, j3⟩ := hJ i H' (hok F' H' f L'.w.sub)
  by_cases lt : i < xs.length
  · refine .inr ⟨j1 _ (List.getElem?_eq_getElem lt), fun H2 => ∃ F2, Same F F2 ∧ Lcw Γ F1 H1 Dl (Jv (i + 1)) F2 H2, fun H2 ⟨F2, f2, L2⟩ => ⟨_, by omega, rfl, lt, F2, f2, L2⟩, fun y H2 hy => ?_⟩
    obtain ⟨e1, hy2⟩ := j2 y H2 hy
    subst e1
    obtain ⟨d, hd1, hd2⟩ := ha.getV hy2
    obtain ⟨js, hg, hj, hw⟩ := hs i d hd1
    refine hg F' H2 y _ _ L'.w.sub (hd2.mono f) fun us hu => ⟨?_, ?_⟩
    · rw [wipe_put (hu.dom hj), wipe_wipe]
    · exact hw F1 H1 Dl F' H2 _ _ x (((e.mono f).wipe vs).put hu) L' fun F3 H3 f3 L3 => ⟨F3, f.trans f3, L3⟩
  · have ei : i = xs.length := by omega
    subst ei
    rw [hl] at L'
    exact .inl ⟨j3 (Nat.le_refl _), hd F' H' f L'⟩
theorem wc_T (h : WE Γ tl ρ fun x => ∃ ds, x = .tuple ds ∧ ∃ Jv : Nat → List D → Prop, (∀ acc, Iv acc → Jv 0 acc) ∧ (∀ i d, ds[i]? = some d → ∃ js, WG Γ.K g d js ∧ (js.all fun p => vs.contains p.1) = true ∧ WC Γ tc (putD (wipeR ρ vs) js) (Jv i) (Jv (i + 1))) ∧ ∀ acc, Jv ds.length acc → Iv' acc) :
    WC Γ (fun D => tcIn (iTup Γ.K tl) g vs (tc D)) ρ Iv Iv' := fun F1 H1 Dl F H σ Q x e L c =>
  h F H σ _ ⟨L.w, e, x.next L.w L.s⟩ fun v d F2 H2 w2 s2 p2 ⟨ds, hx, Jv, h0, hs, hd⟩ => by
    subst hx
    cases p2 with
    | @tup a xs _ hq ha =>
      have sq : ∀ {F' H' : Hp}, Same F2 F' → Same F' H' → SqT Γ.K H' a xs := fun f1 f2 => sqT_mono (f1.trans f2) hq
      exact ⟨a, rfl, ⟨xs, sq (Same.refl F2) w2.sub⟩, wc_loop hands_t x (e.mono s2.fx) Jv (L.same w2 s2 h0) ha (fun F3 H3 f1 f2 => sq f1 f2) hs fun F3 H3 f3 L3 => c F3 H3 (s2.fx.trans f3) (L3.same L3.w .refl hd)⟩
theorem wc_L (h : WE Γ tl ρ fun x => ∃ ds, x = .list ds ∧ ∃ Jv : Nat → List D → Prop, (∀ acc, Iv acc → Jv 0 acc) ∧ (∀ i d, ds[i]? = some d → ∃ js, WG Γ.K g d js ∧ (js.all fun p => vs.contains p.1) = true ∧ WC Γ tc (putD (wipeR ρ vs) js) (Jv i) (Jv (i + 1))) ∧ ∀ acc, Jv ds.length acc → Iv' acc) :
    WC Γ (fun D => tcIn (iList Γ.K tl) g vs (tc D)) ρ Iv Iv' := fun F1 H1 Dl F H σ Q x e L c =>
  h F H σ _ ⟨L.w, e, x.next L.w L.s⟩ fun v d F2 H2 w2 s2 p2 ⟨ds, hx, Jv, h0, hs, hd⟩ => by
    subst hx
    cases p2 with
    | @lst a xs _ hq ha =>
      exact ⟨a, rfl, ⟨xs, SqL.of (w2.sub _ _ hq)⟩, wc_loop hands_l x (e.mono s2.fx) Jv (L.same w2 s2 h0) ha (fun F3 H3 f1 f2 => SqL.of (f2 _ _ (f1 _ _ hq))) hs fun F3 H3 f3 L3 => c F3 H3 (s2.fx.trans f3) (L3.same L3.w .refl hd)⟩
/-- the whole, over a list -/
theorem w_lcNL (h : WE Γ tl ρ fun x => ∃ ds, x = .list ds ∧ ∃ Jv : Nat → List D → Prop, Jv 0 [] ∧ (∀ i d, ds[i]? = some d → ∃ js, WG Γ.K g d js ∧ (js.all fun p => vs.contains p.1) = true ∧ WC Γ tc (putD (wipeR ρ vs) js) (Jv i) (Jv (i + 1))) ∧ ∀ acc, Jv ds.length acc → k (.list acc)) :
    WE Γ (tLcN (iList Γ.K tl) g tc vs) ρ k := fun F H σ Q i c =>
  h F H σ _ i fun v x F1 H1 w1 s1 p1 ⟨ds, hx, Jv, h0, hs, hd⟩ => by
    subst hx
    cases p1 with
    | @lst a xs _ hq ha =>
      refine ⟨a, rfl, ⟨xs, SqL.of (w1.sub _ _ hq)⟩, fun Dl hD => wc_loop hands_l (i.next w1 s1).x (i.next w1 s1).e Jv (Lcw.start w1 hD h0) ha (fun F3 H3 f1 f2 => SqL.of (f2 _ _ (f1 _ _ hq))) hs fun F2 H2 f2 L => ?_⟩
      obtain ⟨F3, acc, w3, s3, p3, q3⟩ := L.fin
      exact c _ _ F3 H2 w3 (s1.trans w1 s3) p3 (hd acc q3)
end AL
/-! T10 -/
namespace K88
open PySem PySem.Spec PyProof.Rows L2 AL
local macro_rules | `(tactic| walk_at "bd") => `(tactic| first
  | assumption
  | (apply Sz.n; assumption)
  | (apply Sz.d; assumption)
  | ((with_reducible apply lt_mul); (case h1 => walk_at "bd"); (case h2 => walk_at "bd"))
  | ((with_reducible apply lt_addx); (case h1 => walk_at "bd"); (case h2 => walk_at "bd"))
  | ((with_reducible apply lt_subx); (case h1 => walk_at "bd"); (case h2 => walk_at "bd"))
  | ((with_reducible apply lt_neg); (case h => walk_at "bd")))
local macro_rules | `(tactic| walk_at "nz") => `(tactic| first
  | assumption
  | exact dnz _
  | ((with_reducible apply inz); (case h1 => walk_at "nz"); (case h2 => walk_at "nz")))
local macro_rules | `(tactic| walk_at "w") => `(tactic| repeat (first
  | with_reducible apply w_int
  | ((with_reducible apply w_var); (case h => exact rfl))
  | with_reducible apply wl_cons
  | with_reducible apply wl_nil
  | ((with_reducible refine And.intro (Nat.le_of_ble_eq_true ?hlen) ?_); (case hlen => exact rfl))
  | with_reducible apply w_tup
  | with_reducible apply w_op
  | with_reducible apply s_seq
  | with_reducible apply wa_cons
  | with_reducible apply wa_nil
  | with_reducible apply ru_i
  | with_reducible apply w_un
  | with_reducible apply s_asg
  | with_reducible apply w_call0
  | with_reducible apply w_callD2
  | with_reducible apply w_callD1
  | ((with_reducible apply w_callX0); (case hz => exact rfl))
  | ((with_reducible apply w_callXS); (case hz => exact rfl))
  | with_reducible apply w_callZ
  | with_reducible apply b_addI
  | ((with_reducible apply rb_ixT); (case e => exact rfl))
  | ((with_reducible apply rb_ixL); (case e => exact rfl))
  | with_reducible apply w_str
  | with_reducible apply w_lst
  | with_reducible apply w_sl
  | with_reducible apply o_none
  | with_reducible apply o_some
  | with_reducible apply sG_T
  | with_reducible apply sG_L
  | ((with_reducible apply s_app); (case e => exact rfl))
  | with_reducible apply s_drop
  | with_reducible apply w_if
  | with_reducible apply p_if
  | with_reducible apply t_test
  | with_reducible apply b_eqI
  | with_reducible apply s_next
  | with_reducible apply p_ret
  | ((with_reducible apply b_mulI); (case hc => (apply mulx; (case h1 => walk_at "bd"); (case h2 => walk_at "bd"); (case h => omega))))
  | with_reducible apply b_sub
  | with_reducible apply s_raiseK
  | with_reducible apply w_isT
  | with_reducible apply w_isL
  | with_reducible apply w_isI
  | with_reducible apply w_isB
  | with_reducible apply w_isS
  | with_reducible apply w_isN
  | with_reducible apply w_notN
  | with_reducible apply w_or
  | with_reducible apply w_and
  | with_reducible apply w_not
  | with_reducible apply w_chain
  | with_reducible apply w_cb
  | with_reducible apply t_or
  | with_reducible apply t_and
  | with_reducible apply t_not
  | with_reducible apply t_yes
  | ((with_reducible apply b_addT); (case hz => exact Nat.le_of_ble_eq_true rfl))
  | ((with_reducible apply b_addL); (case hz => exact Nat.le_of_ble_eq_true rfl))
  | with_reducible apply s_break
  | with_reducible apply rb_b
  | with_reducible apply t_truthI
  | with_reducible apply b_neI
  | with_reducible apply b_eqS
  | with_reducible apply b_eqB
  | with_reducible apply b_neB
  | with_reducible apply w_bl
  | with_reducible apply w_non
  | with_reducible apply t_B
  | with_reducible apply m_lst
  | with_reducible apply m_cat
  | with_reducible apply m_list
  | with_reducible apply w_lcLU
  | with_reducible apply w_lcTU
  | with_reducible apply s_forTU
  | with_reducible apply s_forLU
  | (with_reducible apply lcU_nil)
  | (with_reducible apply unr_nil)
  | with_reducible apply unr_one
  | ((with_reducible show LcU _ _ _ _ _ _ _ _ _); (refine lcU_one rfl (Nat.lt_of_succ_le (Nat.le_of_ble_eq_true rfl)) ?_))
  | ((with_reducible show (_ = true → _) ∧ (_ = false → _)); (first | refine ybt rfl ?_ | refine ybf rfl ?_))
  | ((with_reducible show (_ = false → _) ∧ (_ = true → _)); (first | refine obt rfl ?_ | refine obf rfl ?_))
  | with_reducible apply yt
  | with_reducible apply yf
  | with_reducible apply fy
  | with_reducible apply ft
  | ((with_reducible apply f_frz); (case e => exact rfl))
  | with_reducible apply s_asgG
  | (refine Exists.intro _ (And.intro (g_lst (by repeat (first | exact gs_nil | apply gs_one)) rfl) ?_))
  | (refine Exists.intro _ (And.intro (g_tup (by repeat (first | exact gs_nil | apply gs_one)) rfl) ?_))
  | with_reducible apply c_lenL
  | with_reducible apply c_lenT
  | with_reducible apply c_listL
  | with_reducible apply c_listT
  | with_reducible apply c_tupL
  | with_reducible apply c_abs
  | with_reducible apply c_int
  | with_reducible apply c_min
  | with_reducible apply rc_gcd
  | with_reducible apply rb_b
  | (refine And.intro (Nat.lt_of_succ_le (Nat.le_of_ble_eq_true rfl)) ?_)
  | with_reducible refine Exists.intro _ (And.intro rfl ?_)
  | refine And.intro (Nat.le_of_ble_eq_true rfl) ?_
  ))
variable {P : Program} {w : World} {K : PySem.W.Frag} {mg : Str → Option Value} {base : Heap}
variable {cV cS cM cL : Addr}
def pnum (p : Pt) : List Rat := [p.x, p.y]
def snum (s : Sg) : List Rat := [s.p.x, s.p.y, s.q.x, s.q.y]
def c_nums : Con := fun as k => ∃ l : List Sg, as = [.i (.list (l.map sgD))] ∧ l.length ≤ 1000 ∧ k (.list ((l.flatMap snum).map Fq))
theorem snum_len : ∀ l : List Sg, (l.flatMap snum).length = 4 * l.length
  | [] => rfl
  | s :: r => by
    rw [List.flatMap_cons, List.length_append, snum_len r, List.length_cons]
    show 4 + _ = _
    omega
abbrev n_numbers_of : List Str := ["drawing", "segment", "p", "number"]
abbrev s_numbers_of : Stmt := top 44
theorem sc_numbers_of : FnScope ["drawing", "segment", "p", "number"] ["drawing"] (defScope s_numbers_of) := ⟨rfl, rfl, rfl, by decide +kernel, rfl, by decide +kernel, by decide +kernel⟩
theorem h_numbers_of (B : Bl mg) (d : DefAt K mg "numbers_of" s_numbers_of []) : Has P w K mg base CX0 "numbers_of" 1 [] (spOf K none (c_nums)) := by
  refine d.pure sc_numbers_of (fun _ _ _ _ _ _ us hl => match us, hl with | [_], _ => rfl) 3 rfl (fun as k ⟨_, e, _⟩ => by rw [e]; rfl) fun f cdv A outer s H E hr => ⟨_, (pss_one (ps_ret (pe_lc3 (own := [("segment", 1), ("p", 2), ("number", 3)]) (v1 := [2, 3]) (v2 := [3]) rfl sc_numbers_of.nd (kiList (K := K) (pv 0)) (blkOk_by (own := [("segment", 1), ("p", 2), ("number", 3)]) (N := n_numbers_of) (sc := defScope s_numbers_of) (by decide +kernel)) (by decide) (by decide) (fun _ _ _ _ _ => (pg_name (i := 1) sc_numbers_of.nd rfl (Or.inl rfl))) (fun _ _ _ _ _ => (kiTup (K := K) (pv 1))) (fun _ _ _ _ _ => (pg_name (i := 2) sc_numbers_of.nd rfl (Or.inl rfl))) (fun _ _ _ _ _ => (kiTup (K := K) (pv 2))) (fun _ _ _ _ _ => (pg_name (i := 3) sc_numbers_of.nd rfl (Or.inl rfl))) (fun _ _ _ _ _ => (pv 3))))), fun as k hc => ?_⟩
  try dsimp only [cxOf]
  clear hr E H s outer A cdv f d B
  obtain ⟨l, rfl, hl, q⟩ := hc
  simp only [st0, List.map_cons, List.map_nil, List.replicate, List.cons_append, List.nil_append]
  refine p_ret (w_lcNL ?_)
  walk_at "w"
  refine ⟨fun i acc => acc = ((l.take i).flatMap snum).map Fq, rfl, fun i d hd => ?_, fun acc ha => ?_⟩
  · obtain ⟨s, hs, rfl⟩ := map_get hd
    have hi : (l.take i).length ≤ 1000 := by rw [List.length_take]; omega
    refine ⟨_, g_name, rfl, wc_T ?_⟩
    walk_at "w"
    refine ⟨fun j acc => acc = ((l.take i).flatMap snum ++ ([s.p, s.q].take j).flatMap pnum).map Fq, fun acc ha => ?_, fun j d hd => ?_, fun acc ha => ?_⟩
    · show _ = _
      rw [ha]
      simp
    · obtain ⟨p, hp, rfl⟩ := map_get (l := [s.p, s.q]) (f := ptD) hd
      have hj : (([s.p, s.q].take j).flatMap pnum).length ≤ 4 := by
        match j with
        | 0 => exact Nat.zero_le _
        | 1 => show 2 ≤ 4; decide
        | n + 2 =>
          rw [List.take_of_length_le (show [s.p, s.q].length ≤ n + 2 by show 2 ≤ n + 2; omega)]
          show 4 ≤ 4
          decide
      refine ⟨_, g_name, rfl, wc_T ?_⟩
      walk_at "w"
      refine ⟨fun m acc => acc = ((l.take i).flatMap snum ++ ([s.p, s.q].take j).flatMap pnum ++ (pnum p).take m).map Fq, fun acc ha => ?_, fun m d hd => ?_, fun acc ha => ?_⟩
      · show _ = _
        rw [ha]
        simp
      · obtain ⟨x, hx, rfl⟩ := map_get (l := [p.x, p.y]) (f := Fq) hd
        refine ⟨_, g_name, rfl, wc_end fun acc ha => ?_⟩
        walk_at "w"
        subst ha
        refine ⟨?_, ?_⟩
        · rw [List.length_map, List.length_append, List.length_append, snum_len]
          have : ((pnum p).take m).length ≤ 2 := by
            rw [List.length_take]
            exact Nat.min_le_right _ _
          omega
        · show _ = _
          rw [show (pnum p).take (m + 1) = (pnum p).take m ++ [x] from take_one hx, ← List.append_assoc]
          simp
      · show _ = _
        rw [ha, take_one hp, List.flatMap_append, ← List.append_assoc]
        have e : List.take [Fq p.x, Fq p.y].length (pnum p) = pnum p := rfl
        rw [e]
        simp
    · show _ = _
      rw [ha, take_one hs, List.flatMap_append]
      have e : List.flatMap pnum (List.take [ptD s.p, ptD s.q].length [s.p, s.q]) = snum s := rfl
      rw [e]
      simp
  · subst ha
    have e : (l.map sgD).length = l.length := List.length_map ..
    rw [e, List.take_length]
    exact q
theorem all_id' {α : Type} {l : List α} {g : α → Bool} : (l.map g).all id = l.all g := by
  rw [List.all_map]
  rfl
def longD (l : List Sg) : Bool := ((l.flatMap snum).map (wFig 150)).all id
inductive ChkD (cV cS cM cL : Addr) (nm : Str) : D → Option AExc → Prop
  | no {d : D} (h : isL d = false) : ChkD cV cS cM cL nm d (some (BV cV nm))
  | bad (ds : List D) (i : Nat) (x : D) (hl : ds.length ≤ 1000) (h1 : ∀ j y, j < i → ds[j]? = some y → isSg y = true) (h2 : ds[i]? = some x) (h3 : isSg x = false) : ChkD cV cS cM cL nm (.list ds) (some (BS cS (i : Int)))
  | long (l : List Sg) (hl : l.length ≤ 1000) (h : longD l = false) : ChkD cV cS cM cL nm (.list (l.map sgD)) (some (TL cL))
  | many (l : List Sg) (hl : l.length ≤ 1000) (h : longD l = true) (h2 : 200 < l.length) : ChkD cV cS cM cL nm (.list (l.map sgD)) (some (TM cM))
  | ok (l : List Sg) (h : longD l = true) (h2 : l.length ≤ 40) : ChkD cV cS cM cL nm (.list (l.map sgD)) none
theorem atI_get {ds : List D} {i : Nat} {d : D} (h : ds[i]? = some d) : atI ds (i : Int) = some d := by
  have hi := (List.getElem?_eq_some_iff.mp h).1
  have e : ixN ds.length (i : Int) = some i := by
    unfold ixN
    rw [if_pos (by omega), if_pos (by omega)]
    rfl
  unfold atI
  rw [e]
  exact h
def wFigD (n : Nat) : D → Bool
  | .tuple [.int a, .int b] => decide (a.natAbs < 10 ^ n) && decide (b.toNat < 10 ^ n)
  | _ => false
theorem wFigD_Fq (n : Nat) (x : Rat) : wFigD n (Fq x) = wFig n x := rfl
theorem isSg_sgD (s : Sg) : isSg (sgD s) = true := by
  show (isPt (ptD s.p) && isPt (ptD s.q)) = true
  rw [isPt_ptD, isPt_ptD]
  rfl
def c_chk_d (cV cS cM cL : Addr) : ConX := fun as k ke => ∃ (d : D) (nm : Str) (o : Option AExc), as = [.i d, .i (.str nm)] ∧ ChkD cV cS cM cL nm d o ∧ go o (k .none) ke
abbrev n_check_drawing : List Str := ["drawing", "name", "index", "numbers", "number"]
abbrev s_check_drawing : Stmt := top 45
theorem sc_check_drawing : FnScope ["drawing", "name", "index", "numbers", "number"] ["drawing", "name"] (defScope s_check_drawing) := ⟨rfl, rfl, rfl, by decide +kernel, rfl, by decide +kernel, by decide +kernel⟩
theorem k_check_drawing (B : Bl mg) (e_BadValue : ExK P w K mg base "BadValue" cV "name") (e_BadSegment : ExK P w K mg base "BadSegment" cS "index") (e_TooLong : ExK P w K mg base "TooLong" cL "word") (e_TooMany : ExK P w K mg base "TooMany" cM "word") (h_within_figures : Has P w K mg base CX0 "within_figures" 2 [] (spOf K none (c_within))) (h_numbers_of : Has P w K mg base CX0 "numbers_of" 1 [] (spOf K none (c_nums))) (h_is_segment : Has P w K mg base CX0 "is_segment" 4 [] (spOf K none (c_is_seg))) (g_mf : GInt mg "MOST_FIGURES" 150) (g_ms : GInt mg "MOST_SEGMENTS" 200) (g_ff : GInt mg "FEW_FIGURES" 9) (g_fs : GInt mg "FEW_SEGMENTS" 40) {f : Addr} {fd : FuncData} (D : FunD K "check_drawing" "check_drawing" (defArgs s_check_drawing) (defBody s_check_drawing) (defScope s_check_drawing) [.str "drawing"] [] f fd) : FnOk P w K mg base (L2.CX P w) 5 f fd ["drawing", "name"] (spX K (c_chk_d cV cS cM cL)) := by
  refine fnok_raises D sc_check_drawing 3 rfl (fun as k ke ⟨_, _, _, e, _⟩ => by rw [e]; rfl) fun f cdv A outer s H E hr => ⟨_, (pss_cons (ps_if (pt_not (pt_val (pe_callB (kIsi (K := K)) (by rfl) B.isinstance (by decide +kernel) (pa_cons (pv 0) (pa_cons (pe_bltn (v := .ty "list") (by rfl) B.list (by decide +kernel) rfl) pa_nil))))) (pss_one (ps_raiseK e_BadValue rfl (hr.mono (by decide)) (takes_of rfl rfl rfl rfl) (pa_cons (pv 1) pa_nil))) pss_nil)
      (pss_cons (ps_for (passes_of rfl) rfl (pi_range1 (by rfl) B.range (pa_cons (pe_callB (kLen (K := K)) (by rfl) B.len (by decide +kernel) (pa_cons (pv 0) pa_nil)) pa_nil)) (pg_name (i := 2) sc_check_drawing.nd rfl (Or.inl rfl)) (pss_one (ps_if (pt_not (pt_val (pe_has h_is_segment (hr.mono (by decide)) pass0 (pa_cons (pe_ix (kIx (K := K)) (pv 0) (pv 2) (fun _ _ => rfl)) pa_nil)))) (pss_one (ps_raiseK e_BadSegment rfl (hr.mono (by decide)) (takes_of rfl rfl rfl rfl) (pa_cons (pv 2) pa_nil))) pss_nil)))
      (pss_cons (ps_set (i := 3) sc_check_drawing.nd rfl (Or.inl rfl) (pe_has h_numbers_of (hr.mono (by decide)) pass0 (pa_cons (pv 0) pa_nil)))
      (pss_cons (ps_if (pt_not (pt_val (pe_callB (kAll (K := K) rfl) (by rfl) B.all (by decide +kernel) (pa_cons (pe_lc (own := [("number", 4)]) (g := gName 4) (tt := tYes) rfl sc_check_drawing.nd (kiList (K := K) (pv 3)) (blkOk_by (own := [("number", 4)]) (N := n_check_drawing) (sc := defScope s_check_drawing) (by decide +kernel)) (fun _ _ _ _ _ => (pg_name (i := 4) sc_check_drawing.nd rfl (Or.inl rfl))) (fun _ _ _ _ _ => pts_nil) (fun _ _ _ _ _ => (pe_has h_within_figures (hr.mono (by decide)) pass0 (pa_cons (pv 4) (pa_cons (pe_gint g_mf) pa_nil))))) pa_nil)))) (pss_one (ps_raiseK e_TooLong rfl (hr.mono (by decide)) (takes_of rfl rfl rfl rfl) (pa_cons pe_str pa_nil))) pss_nil)
      (pss_cons (ps_if (pt_cmpR op_gt (pe_callB (kLen (K := K)) (by rfl) B.len (by decide +kernel) (pa_cons (pv 0) pa_nil)) (pe_gint g_ms) (nomark _)) (pss_one (ps_raiseK e_TooMany rfl (hr.mono (by decide)) (takes_of rfl rfl rfl rfl) (pa_cons pe_str pa_nil))) pss_nil)
      (pss_one (ps_if (PW.pt (pw_and (pt_cmpR op_gt (pe_callB (kLen (K := K)) (by rfl) B.len (by decide +kernel) (pa_cons (pv 0) pa_nil)) (pe_gint g_fs) (nomark _)) (pw_and1 (pt_not (pt_val (pe_callB (kAll (K := K) rfl) (by rfl) B.all (by decide +kernel) (pa_cons (pe_lc (own := [("number", 4)]) (g := gName 4) (tt := tYes) rfl sc_check_drawing.nd (kiList (K := K) (pv 3)) (blkOk_by (own := [("number", 4)]) (N := n_check_drawing) (sc := defScope s_check_drawing) (by decide +kernel)) (fun _ _ _ _ _ => (pg_name (i := 4) sc_check_drawing.nd rfl (Or.inl rfl))) (fun _ _ _ _ _ => pts_nil) (fun _ _ _ _ _ => (pe_has h_within_figures (hr.mono (by decide)) pass0 (pa_cons (pv 4) (pa_cons (pe_gint g_ff) pa_nil))))) pa_nil))))))) (pss_one (ps_raiseK e_TooMany rfl (hr.mono (by decide)) (takes_of rfl rfl rfl rfl) (pa_cons pe_str pa_nil))) pss_nil))))))), fun as k ke hc => ?_⟩
  clear hr H s outer A cdv f B D
  obtain ⟨d, nm, o, rfl, h, q⟩ := hc
  simp only [st0, List.map_cons, List.map_nil, List.replicate, List.cons_append, List.nil_append]
  cases h with
  | no h =>
    walk_at "w"
    rw [h]
    walk_at "w"
    exact ⟨_, _, rfl, .str _, q⟩
  | bad ds i x hl h1 h2 h3 =>
    walk_at "w"
    refine s_forR ?_
    walk_at "w"
    refine ⟨by omega, by omega, fun j ρ' => ∃ x, ρ' = [some (.i (.list ds)), some (.i (.str nm)), x, none, none] ∧ j ≤ i, ⟨_, rfl, Nat.zero_le _⟩, fun j ρ' hj ⟨x, hρ, hji⟩ => ?_, fun ρ' ⟨x, hρ, hji⟩ => ?_⟩
    · subst hρ
      have hj2 : j < ds.length := by omega
      walk_at "w"
      refine rb_ixL (atI_get (List.getElem?_eq_getElem hj2)) ?_
      walk_at "w"
      refine ⟨_, rfl, ?_⟩
      by_cases e : j = i
      · subst e
        have e2 : ds[j] = _ := (List.getElem?_eq_some_iff.mp h2).2
        rw [e2, h3]
        walk_at "w"
        exact ⟨_, _, rfl, .int _, q⟩
      · rw [h1 j _ (by omega) (List.getElem?_eq_getElem hj2)]
        walk_at "w"
        omega
    · have := (List.getElem?_eq_some_iff.mp h2).1
      omega
  | long l hl h =>
    have hz : (l.map sgD).length ≤ 1000 := by rw [List.length_map]; exact hl
    walk_at "w"
    refine s_forR ?_
    walk_at "w"
    refine ⟨by have := hz; omega, by have := hz; omega, fun i ρ' => ∃ x, ρ' = [some (.i (.list (l.map sgD))), some (.i (.str nm)), x, none, none], ⟨_, rfl⟩, fun i ρ' hi ⟨x, hρ⟩ => ?_, fun ρ' ⟨x, hρ⟩ => ?_⟩
    · subst hρ
      have hi2 : i < (l.map sgD).length := by omega
      walk_at "w"
      refine rb_ixL (atI_get (List.getElem?_eq_getElem hi2)) ?_
      walk_at "w"
      refine ⟨_, rfl, ?_⟩
      rw [List.getElem_map, isSg_sgD]
      walk_at "w"
      exact ⟨_, rfl⟩
    subst hρ
    walk_at "w"
    refine ⟨l, rfl, hl, ?_⟩
    walk_at "w"
    refine lcU_map (fun d => .bool (wFigD 150 d)) rfl (fun d hd => ?_) (by rw [List.length_map, snum_len]; omega) ?_
    · obtain ⟨x, _, rfl⟩ := List.mem_map.mp hd
      walk_at "w"
      refine ⟨_, 150, rfl, by decide, by decide, ?_⟩
      rw [wFigD_Fq]
    walk_at "w"
    refine rc_all (bs := (l.flatMap snum).map (wFig 150)) (by rw [List.map_map, List.map_map]; exact List.map_congr_left fun x _ => congrArg PyData.bool (wFigD_Fq 150 x)) ?_
    rw [show ((l.flatMap snum).map (wFig 150)).all id = _ from h]
    walk_at "w"
    exact ⟨_, _, rfl, .str _, q⟩
  | many l hl h h2 =>
    have hz : (l.map sgD).length ≤ 1000 := by rw [List.length_map]; exact hl
    walk_at "w"
    refine s_forR ?_
    walk_at "w"
    refine ⟨by have := hz; omega, by have := hz; omega, fun i ρ' => ∃ x, ρ' = [some (.i (.list (l.map sgD))), some (.i (.str nm)), x, none, none], ⟨_, rfl⟩, fun i ρ' hi ⟨x, hρ⟩ => ?_, fun ρ' ⟨x, hρ⟩ => ?_⟩
    · subst hρ
      have hi2 : i < (l.map sgD).length := by omega
      walk_at "w"
      refine rb_ixL (atI_get (List.getElem?_eq_getElem hi2)) ?_
      walk_at "w"
      refine ⟨_, rfl, ?_⟩
      rw [List.getElem_map, isSg_sgD]
      walk_at "w"
      exact ⟨_, rfl⟩
    subst hρ
    walk_at "w"
    refine ⟨l, rfl, hl, ?_⟩
    walk_at "w"
    refine lcU_map (fun d => .bool (wFigD 150 d)) rfl (fun d hd => ?_) (by rw [List.length_map, snum_len]; omega) ?_
    · obtain ⟨x, _, rfl⟩ := List.mem_map.mp hd
      walk_at "w"
      refine ⟨_, 150, rfl, by decide, by decide, ?_⟩
      rw [wFigD_Fq]
    walk_at "w"
    refine rc_all (bs := (l.flatMap snum).map (wFig 150)) (by rw [List.map_map, List.map_map]; exact List.map_congr_left fun x _ => congrArg PyData.bool (wFigD_Fq 150 x)) ?_
    rw [show ((l.flatMap snum).map (wFig 150)).all id = _ from h]
    walk_at "w"
    refine yn (fun h3 => ?_) (fun h3 => False.elim (h3 (by rw [List.length_map]; omega)))
    walk_at "w"
    exact ⟨_, _, rfl, .str _, q⟩
  | ok l h h2 =>
    have hl : l.length ≤ 1000 := by omega
    have hz : (l.map sgD).length ≤ 1000 := by rw [List.length_map]; exact hl
    walk_at "w"
    refine s_forR ?_
    walk_at "w"
    refine ⟨by have := hz; omega, by have := hz; omega, fun i ρ' => ∃ x, ρ' = [some (.i (.list (l.map sgD))), some (.i (.str nm)), x, none, none], ⟨_, rfl⟩, fun i ρ' hi ⟨x, hρ⟩ => ?_, fun ρ' ⟨x, hρ⟩ => ?_⟩
    · subst hρ
      have hi2 : i < (l.map sgD).length := by omega
      walk_at "w"
      refine rb_ixL (atI_get (List.getElem?_eq_getElem hi2)) ?_
      walk_at "w"
      refine ⟨_, rfl, ?_⟩
      rw [List.getElem_map, isSg_sgD]
      walk_at "w"
      exact ⟨_, rfl⟩
    subst hρ
    walk_at "w"
    refine ⟨l, rfl, hl, ?_⟩
    walk_at "w"
    refine lcU_map (fun d => .bool (wFigD 150 d)) rfl (fun d hd => ?_) (by rw [List.length_map, snum_len]; omega) ?_
    · obtain ⟨x, _, rfl⟩ := List.mem_map.mp hd
      walk_at "w"
      refine ⟨_, 150, rfl, by decide, by decide, ?_⟩
      rw [wFigD_Fq]
    walk_at "w"
    refine rc_all (bs := (l.flatMap snum).map (wFig 150)) (by rw [List.map_map, List.map_map]; exact List.map_congr_left fun x _ => congrArg PyData.bool (wFigD_Fq 150 x)) ?_
    rw [show ((l.flatMap snum).map (wFig 150)).all id = _ from h]
    walk_at "w"
    refine yn (fun h3 => False.elim (by rw [List.length_map] at h3; omega)) (fun h3 => ?_)
    walk_at "w"
    refine yn (fun h4 => False.elim (by rw [List.length_map] at h4; omega)) (fun h4 => ?_)
    walk_at "w"
    exact q
theorem h_check_drawing_1 (B : Bl mg) (e_BadValue : ExK P w K mg base "BadValue" cV "name") (e_BadSegment : ExK P w K mg base "BadSegment" cS "index") (e_TooLong : ExK P w K mg base "TooLong" cL "word") (e_TooMany : ExK P w K mg base "TooMany" cM "word") (h_within_figures : Has P w K mg base CX0 "within_figures" 2 [] (spOf K none (c_within))) (h_numbers_of : Has P w K mg base CX0 "numbers_of" 1 [] (spOf K none (c_nums))) (h_is_segment : Has P w K mg base CX0 "is_segment" 4 [] (spOf K none (c_is_seg))) (g_mf : GInt mg "MOST_FIGURES" 150) (g_ms : GInt mg "MOST_SEGMENTS" 200) (g_ff : GInt mg "FEW_FIGURES" 9) (g_fs : GInt mg "FEW_SEGMENTS" 40) (d : DefAt K mg "check_drawing" s_check_drawing [.str "drawing"]) : Has P w K mg base (L2.CX P w) "check_drawing" 5 [.str "drawing"] (spX K (c_chk_d cV cS cM cL)) :=
  has_dfl d 1 0 (by simp) rfl (fun T kV doc pm an cdv ct us its l1 l2 => match us, its, l1, l2 with | [_], [_], _, _ => ⟨_, rfl, rfl⟩) fun f fd D => k_check_drawing B e_BadValue e_BadSegment e_TooLong e_TooMany h_within_figures h_numbers_of h_is_segment g_mf g_ms g_ff g_fs D
theorem longD_sz {l : List Sg} (h : longD l = true) : ∀ s ∈ l, SSz 499 s := fun s hs => by
  unfold longD at h
  rw [all_id', List.all_eq_true] at h
  have q : ∀ x ∈ snum s, Sz 499 x := fun x hx => Sz_wFig (h x (List.mem_flatMap.mpr ⟨s, hs, hx⟩)) ten150
  exact ⟨⟨q _ (by simp [snum]), q _ (by simp [snum])⟩, ⟨q _ (by simp [snum]), q _ (by simp [snum])⟩⟩
def c_pd (cV cS cM cL : Addr) : ConX := fun as k ke => ∃ d e, as = [.i d, .i e] ∧ ((∃ ex, ChkT cV cL "transform" d (some ex) ∧ ke ex) ∨
  (∃ t ex, d = tfD t ∧ OkT t ∧ ChkD cV cS cM cL "drawing" e (some ex) ∧ ke ex) ∨ ∃ t l, d = tfD t ∧ OkT t ∧ e = .list (l.map sgD) ∧ longD l = true ∧ l.length ≤ 40 ∧ k (.list ((l.map (Sg.by t)).map sgD)))
abbrev n_placed_drawing : List Str := ["transform", "drawing"]
abbrev s_placed_drawing : Stmt := top 64
theorem sc_placed_drawing : FnScope ["transform", "drawing"] ["transform", "drawing"] (defScope s_placed_drawing) := ⟨rfl, rfl, rfl, by decide +kernel, rfl, by decide +kernel, by decide +kernel⟩
theorem k_placed_drawing (B : Bl mg) (h_placed_rows : Has P w K mg base CX0 "placed_rows" 4 [] (spOf K none (c_rows))) (h_check_drawing_1 : Has P w K mg base (L2.CX P w) "check_drawing" 5 [.str "drawing"] (spX K (c_chk_d cV cS cM cL))) (h_check_transform_1 : Has P w K mg base (L2.CX P w) "check_transform" 5 [.str "transform"] (spX K (c_chk_t cV cL))) {f : Addr} {fd : FuncData} (D : FunD K "placed_drawing" "placed_drawing" (defArgs s_placed_drawing) (defBody s_placed_drawing) (defScope s_placed_drawing) [] [] f fd) : FnOk P w K mg base (L2.CX P w) 6 f fd ["transform", "drawing"] (spX K (c_pd cV cS cM cL)) := by
  refine fnok_raises D sc_placed_drawing 0 rfl (fun as k ke ⟨_, _, e, _⟩ => by rw [e]; rfl) fun f cdv A outer s H E hr => ⟨_, (pss_cons (ps_expr (pe_has h_check_transform_1 (hr.mono (by decide)) passX (pa_cons (pv 0) pa_nil)))
      (pss_cons (ps_expr (pe_has h_check_drawing_1 (hr.mono (by decide)) passX (pa_cons (pv 1) pa_nil)))
      (pss_one (ps_ret (pe_has h_placed_rows (hr.mono (by decide)) pass0 (pa_cons (pv 0) (pa_cons (pv 1) pa_nil))))))), fun as k ke hc => ?_⟩
  clear hr H s outer A cdv f B D
  obtain ⟨d, e, rfl, h⟩ := hc
  simp only [st0, List.map_cons, List.map_nil, List.replicate, List.cons_append, List.nil_append]
  walk_at "w"
  rcases h with ⟨ex, h, q⟩ | ⟨t, ex, rfl, h, h2, q⟩ | ⟨t, l, rfl, h, rfl, h2, h3, q⟩
  · exact ⟨_, _, some ex, rfl, h, q⟩
  · refine ⟨_, _, none, rfl, h.chk _, ?_⟩
    show WS _ _ _ _ _ _ _
    walk_at "w"
    exact ⟨_, _, some ex, rfl, h2, q⟩
  · refine ⟨_, _, none, rfl, h.chk _, ?_⟩
    show WS _ _ _ _ _ _ _
    walk_at "w"
    refine ⟨_, _, none, rfl, .ok l h2 h3, ?_⟩
    show WS _ _ _ _ _ _ _
    walk_at "w"
    exact ⟨t, l, _, _, rfl, figT_sz h.f, longD_sz h2, by decide, by omega, q⟩
theorem h_placed_drawing (B : Bl mg) (h_placed_rows : Has P w K mg base CX0 "placed_rows" 4 [] (spOf K none (c_rows))) (h_check_drawing_1 : Has P w K mg base (L2.CX P w) "check_drawing" 5 [.str "drawing"] (spX K (c_chk_d cV cS cM cL))) (h_check_transform_1 : Has P w K mg base (L2.CX P w) "check_transform" 5 [.str "transform"] (spX K (c_chk_t cV cL))) (d : DefAt K mg "placed_drawing" s_placed_drawing []) : Has P w K mg base (L2.CX P w) "placed_drawing" 6 [] (spX K (c_pd cV cS cM cL)) :=
  d.has (fun _ _ _ _ _ _ us hl => match us, hl with | [_, _], _ => rfl) fun f fd D => k_placed_drawing B h_placed_rows h_check_drawing_1 h_check_transform_1 D
end K88
/-! M3 -/
/-! the law's own gcd: its turns suffice -/
namespace K88
open PySem
/-- behind i turns from x0, y0 -/
structure Eu (x0 y0 i x y : Nat) : Prop where
  g : Nat.gcd x y = Nat.gcd x0 y0
  s : i = 0 → x = x0 ∧ y = y0
  d : 1 ≤ i → y < x ∧ x * y * 2 ^ (i - 1) ≤ y0 * y0
theorem eu_start (x0 y0 : Nat) : Eu x0 y0 0 x0 y0 := ⟨rfl, fun _ => ⟨rfl, rfl⟩, fun h => absurd h (by decide)⟩
theorem half_mod {x y : Nat} (h : y ≤ x) (h0 : 0 < y) : 2 * (x % y) ≤ x := by
  have h1 := Nat.mod_lt x h0
  have h2 := Nat.div_add_mod x y
  have h3 : 1 ≤ x / y := (Nat.one_le_div_iff h0).mpr h
  have h4 : y * 1 ≤ y * (x / y) := Nat.mul_le_mul_left y h3
  omega
theorem eu_turn {x0 y0 i x y : Nat} (h : Eu x0 y0 i x y) (hy : 0 < y) : Eu x0 y0 (i + 1) y (x % y) := by
  refine ⟨?_, fun e => absurd e (by omega), fun _ => ⟨Nat.mod_lt _ hy, ?_⟩⟩
  · rw [← h.g, Nat.gcd_comm y, ← Nat.gcd_rec, Nat.gcd_comm]
  · rw [Nat.add_sub_cancel]
    by_cases hi : i = 0
    · subst hi
      obtain ⟨rfl, rfl⟩ := h.s rfl
      rw [Nat.pow_zero, Nat.mul_one]
      exact Nat.mul_le_mul_left _ (Nat.le_of_lt (Nat.mod_lt _ hy))
    · obtain ⟨h1, h2⟩ := h.d (by omega)
      have h3 := half_mod (Nat.le_of_lt h1) hy
      have e : 2 ^ i = 2 * 2 ^ (i - 1) := by
        rw [← Nat.pow_succ', Nat.succ_eq_add_one, Nat.sub_add_cancel (by omega)]
      rw [e]
      calc y * (x % y) * (2 * 2 ^ (i - 1)) = (2 * (x % y)) * (y * 2 ^ (i - 1)) := by
            ac_rfl
        _ ≤ x * (y * 2 ^ (i - 1)) := Nat.mul_le_mul_right _ h3
        _ = x * y * 2 ^ (i - 1) := (Nat.mul_assoc _ _ _).symm
        _ ≤ y0 * y0 := h2
theorem eu_end {x0 y0 x y b : Nat} (h : Eu x0 y0 (3 * b + 3) x y) (hb : y0 < 2 ^ b) : y = 0 := by
  obtain ⟨h1, h2⟩ := h.d (by omega)
  rcases Nat.eq_zero_or_pos y with h0 | h0
  · exact h0
  · exfalso
    have h3 : 1 * 1 ≤ x * y := Nat.mul_le_mul (by omega) h0
    have h4 : y0 * y0 ≤ 2 ^ b * 2 ^ b := Nat.mul_le_mul (Nat.le_of_lt hb) (Nat.le_of_lt hb)
    have h5 : 2 ^ b * 2 ^ b = 2 ^ (b + b) := (Nat.pow_add _ _ _).symm
    have h6 : 2 ^ (b + b) < 2 ^ (3 * b + 3 - 1) := Nat.pow_lt_pow_right (by decide) (by omega)
    have h7 : 1 * 2 ^ (3 * b + 3 - 1) ≤ x * y * 2 ^ (3 * b + 3 - 1) := Nat.mul_le_mul_right _ h3
    omega
theorem intBits_lt (n : Int) : n.natAbs < 2 ^ Builtin.Int.intBits n := by
  unfold Builtin.Int.intBits
  by_cases h : n = 0
  · subst h
    decide
  · rw [if_neg (by simpa using h)]
    exact Nat.lt_log2_self
theorem intBits_le {n : Int} {b : Nat} (h : n.natAbs < 2 ^ b) : Builtin.Int.intBits n ≤ b := by
  unfold Builtin.Int.intBits
  by_cases h0 : n = 0
  · subst h0
    exact Nat.zero_le _
  · rw [if_neg (by simpa using h0)]
    have := (Nat.log2_lt (by omega)).mpr h
    omega
end K88
/-! T11 -/
namespace K88
open PySem PySem.Spec PyProof.Rows L2 AL
local macro_rules | `(tactic| walk_at "bd") => `(tactic| first
  | assumption
  | (apply Sz.n; assumption)
  | (apply Sz.d; assumption)
  | ((with_reducible apply lt_mul); (case h1 => walk_at "bd"); (case h2 => walk_at "bd"))
  | ((with_reducible apply lt_addx); (case h1 => walk_at "bd"); (case h2 => walk_at "bd"))
  | ((with_reducible apply lt_subx); (case h1 => walk_at "bd"); (case h2 => walk_at "bd"))
  | ((with_reducible apply lt_neg); (case h => walk_at "bd")))
local macro_rules | `(tactic| walk_at "nz") => `(tactic| first
  | assumption
  | exact dnz _
  | ((with_reducible apply inz); (case h1 => walk_at "nz"); (case h2 => walk_at "nz")))
local macro_rules | `(tactic| walk_at "w") => `(tactic| repeat (first
  | with_reducible apply w_int
  | ((with_reducible apply w_var); (case h => exact rfl))
  | with_reducible apply wl_cons
  | with_reducible apply wl_nil
  | ((with_reducible refine And.intro (Nat.le_of_ble_eq_true ?hlen) ?_); (case hlen => exact rfl))
  | with_reducible apply w_tup
  | with_reducible apply w_op
  | with_reducible apply s_seq
  | with_reducible apply wa_cons
  | with_reducible apply wa_nil
  | with_reducible apply ru_i
  | with_reducible apply w_un
  | with_reducible apply s_asg
  | with_reducible apply w_call0
  | with_reducible apply w_callD2
  | with_reducible apply w_callD1
  | ((with_reducible apply w_callX0); (case hz => exact rfl))
  | ((with_reducible apply w_callXS); (case hz => exact rfl))
  | with_reducible apply w_callZ
  | with_reducible apply b_addI
  | ((with_reducible apply rb_ixT); (case e => exact rfl))
  | ((with_reducible apply rb_ixL); (case e => exact rfl))
  | with_reducible apply w_str
  | with_reducible apply w_lst
  | with_reducible apply w_sl
  | with_reducible apply o_none
  | with_reducible apply o_some
  | with_reducible apply sG_T
  | with_reducible apply sG_L
  | ((with_reducible apply s_app); (case e => exact rfl))
  | with_reducible apply s_drop
  | with_reducible apply w_if
  | with_reducible apply p_if
  | with_reducible apply t_test
  | with_reducible apply b_eqI
  | with_reducible apply s_next
  | with_reducible apply p_ret
  | ((with_reducible apply b_mulI); (case hc => (apply mulx; (case h1 => walk_at "bd"); (case h2 => walk_at "bd"); (case h => omega))))
  | with_reducible apply b_sub
  | with_reducible apply s_raiseK
  | with_reducible apply w_isT
  | with_reducible apply w_isL
  | with_reducible apply w_isI
  | with_reducible apply w_isB
  | with_reducible apply w_isS
  | with_reducible apply w_isN
  | with_reducible apply w_notN
  | with_reducible apply w_or
  | with_reducible apply w_and
  | with_reducible apply w_not
  | with_reducible apply w_chain
  | with_reducible apply w_cb
  | with_reducible apply t_or
  | with_reducible apply t_and
  | with_reducible apply t_not
  | with_reducible apply t_yes
  | ((with_reducible apply b_addT); (case hz => exact Nat.le_of_ble_eq_true rfl))
  | ((with_reducible apply b_addL); (case hz => exact Nat.le_of_ble_eq_true rfl))
  | with_reducible apply s_break
  | with_reducible apply rb_b
  | with_reducible apply t_truthI
  | with_reducible apply b_neI
  | with_reducible apply b_eqS
  | with_reducible apply b_eqB
  | with_reducible apply b_neB
  | with_reducible apply w_bl
  | with_reducible apply w_non
  | with_reducible apply t_B
  | with_reducible apply m_lst
  | with_reducible apply m_cat
  | with_reducible apply m_list
  | with_reducible apply w_lcLU
  | with_reducible apply w_lcTU
  | with_reducible apply s_forTU
  | with_reducible apply s_forLU
  | (with_reducible apply lcU_nil)
  | (with_reducible apply unr_nil)
  | with_reducible apply unr_one
  | ((with_reducible show LcU _ _ _ _ _ _ _ _ _); (refine lcU_one rfl (Nat.lt_of_succ_le (Nat.le_of_ble_eq_true rfl)) ?_))
  | ((with_reducible show (_ = true → _) ∧ (_ = false → _)); (first | refine ybt rfl ?_ | refine ybf rfl ?_))
  | ((with_reducible show (_ = false → _) ∧ (_ = true → _)); (first | refine obt rfl ?_ | refine obf rfl ?_))
  | with_reducible apply yt
  | with_reducible apply yf
  | with_reducible apply fy
  | with_reducible apply ft
  | ((with_reducible apply f_frz); (case e => exact rfl))
  | with_reducible apply s_asgG
  | (refine Exists.intro _ (And.intro (g_lst (by repeat (first | exact gs_nil | apply gs_one)) rfl) ?_))
  | (refine Exists.intro _ (And.intro (g_tup (by repeat (first | exact gs_nil | apply gs_one)) rfl) ?_))
  | with_reducible apply c_lenL
  | with_reducible apply c_lenT
  | with_reducible apply c_listL
  | with_reducible apply c_listT
  | with_reducible apply c_tupL
  | with_reducible apply c_abs
  | with_reducible apply c_int
  | with_reducible apply c_min
  | with_reducible apply rc_gcd
  | with_reducible apply rb_b
  | (refine And.intro (Nat.lt_of_succ_le (Nat.le_of_ble_eq_true rfl)) ?_)
  | with_reducible refine Exists.intro _ (And.intro rfl ?_)
  | refine And.intro (Nat.le_of_ble_eq_true rfl) ?_
  ))
variable {P : Program} {w : World} {K : PySem.W.Frag} {mg : Str → Option Value} {base : Heap}
def c_lgcd : Con := fun as k => ∃ n d : Int, as = [.i (.int n), .i (.int d)] ∧ d ≠ 0 ∧ d.natAbs < 2 ^ 9000 ∧ k (.int ((Nat.gcd n.natAbs d.natAbs : Nat) : Int))
theorem abs_is (i : Int) : (if i < 0 then -i else i) = ((i.natAbs : Nat) : Int) := by
  split <;> omega
abbrev n__law_gcd : List Str := ["a", "b", "step", "rest"]
abbrev s__law_gcd : Stmt := top 82
theorem sc__law_gcd : FnScope ["a", "b", "step", "rest"] ["a", "b"] (defScope s__law_gcd) := ⟨rfl, rfl, rfl, by decide +kernel, rfl, by decide +kernel, by decide +kernel⟩
theorem h__law_gcd (B : Bl mg) (d : DefAt K mg "_law_gcd" s__law_gcd []) : Has P w K mg base CX0 "_law_gcd" 1 [] (spOf K none (c_lgcd)) := by
  refine d.pure sc__law_gcd (fun _ _ _ _ _ _ us hl => match us, hl with | [_, _], _ => rfl) 2 rfl (fun as k ⟨_, _, e, _⟩ => by rw [e]; rfl) fun f cdv A outer s H E hr => ⟨_, (pss_cons (ps_set (i := 0) sc__law_gcd.nd rfl (Or.inl rfl) (pe_callB call_absG (by rfl) B.abs (by decide +kernel) (pa_cons (pv 0) pa_nil)))
      (pss_cons (ps_set (i := 1) sc__law_gcd.nd rfl (Or.inl rfl) (pe_callB call_absG (by rfl) B.abs (by decide +kernel) (pa_cons (pv 1) pa_nil)))
      (pss_cons (ps_for PassesOwn.never rfl (pi_range1 (by rfl) B.range (pa_cons (pe_op (kAdd (K := K)) (pe_op op_mulG pe_int (pe_bits (pv 1))) pe_int) pa_nil)) (pg_name (i := 2) sc__law_gcd.nd rfl (Or.inl rfl)) (pss_cons (ps_if (pt_cmpR (kEq (K := K) hr.units) (pv 1) pe_int (nomark _)) (pss_one ps_break) pss_nil)
      (pss_cons (ps_set (i := 3) sc__law_gcd.nd rfl (Or.inl rfl) (pe_op op_mod (pe_callTy call_intG (by rfl) B.int (by decide +kernel) (pa_cons (pv 0) pa_nil)) (pv 1)))
      (pss_cons (ps_set (i := 0) sc__law_gcd.nd rfl (Or.inl rfl) (pv 1))
      (pss_one (ps_set (i := 1) sc__law_gcd.nd rfl (Or.inl rfl) (pv 3)))))))
      (pss_one (ps_ret (pv 0)))))), fun as k hc => ?_⟩
  try dsimp only [cxOf]
  clear hr E H s outer A cdv f d B
  obtain ⟨n, d, rfl, hd, hb, q⟩ := hc
  simp only [st0, List.map_cons, List.map_nil, List.replicate, List.cons_append, List.nil_append]
  walk_at "w"
  rw [abs_is, abs_is]
  refine s_forR ?_
  walk_at "w"
  refine w_bits ?_
  walk_at "w"
  obtain ⟨B, hB⟩ : ∃ B, Builtin.Int.intBits ((d.natAbs : Nat) : Int) = B := ⟨_, rfl⟩
  have hB1 : B ≤ 9000 := by
    rw [← hB]
    exact intBits_le (by rw [Int.natAbs_natCast]; exact hb)
  have hB2 : d.natAbs < 2 ^ B := by
    have := intBits_lt ((d.natAbs : Nat) : Int)
    rw [Int.natAbs_natCast, hB] at this
    exact this
  rw [hB]
  refine b_mulI (mulx (a := 2) (b := 14) (by decide) (by rw [Int.natAbs_natCast]; omega) (by decide)) ?_
  walk_at "w"
  refine ⟨by omega, by omega, fun i ρ' => ∃ (x y : Nat) (s r : Option AV), ρ' = [some (.i (.int (x : Int))), some (.i (.int (y : Int))), s, r] ∧ Eu n.natAbs d.natAbs i x y, ⟨_, _, _, _, rfl, eu_start _ _⟩, fun i ρ' hi ⟨x, y, s, r, hρ, h⟩ => ?_, fun ρ' ⟨x, y, s, r, hρ, h⟩ => ?_⟩
  · subst hρ
    walk_at "w"
    refine yn (fun h0 => ?_) (fun h0 => ?_)
    · have h1 : y = 0 := by omega
      subst h1
      walk_at "w"
      have e := h.g
      rw [Nat.gcd_zero_right] at e
      rw [e]
      exact q
    · walk_at "w"
      refine rb_c (show (0 : Int) < (y : Int) by omega) ?_
      walk_at "w"
      rw [← Int.natCast_emod]
      exact ⟨_, _, _, _, rfl, eu_turn h (by omega)⟩
  · subst hρ
    have e2 : (3 * (B : Int) + 3).toNat = 3 * B + 3 := by omega
    rw [e2] at h
    have h1 := eu_end h hB2
    subst h1
    walk_at "w"
    have e := h.g
    rw [Nat.gcd_zero_right] at e
    rw [e]
    exact q
abbrev n__law_frac : List Str := ["n", "d", "g"]
abbrev s__law_frac : Stmt := top 83
theorem sc__law_frac : FnScope ["n", "d", "g"] ["n", "d"] (defScope s__law_frac) := ⟨rfl, rfl, rfl, by decide +kernel, rfl, by decide +kernel, by decide +kernel⟩
theorem h__law_frac (B : Bl mg) (d : DefAt K mg "_law_frac" s__law_frac []) (h__law_gcd : Has P w K mg base CX0 "_law_gcd" 1 [] (spOf K none (c_lgcd))) : Has P w K mg base CX0 "_law_frac" 2 [] (spOf K none (c_reduced)) := by
  refine d.pure sc__law_frac (fun _ _ _ _ _ _ us hl => match us, hl with | [_, _], _ => rfl) 1 rfl (fun as k ⟨_, _, e, _⟩ => by rw [e]; rfl) fun f cdv A outer s H E hr => ⟨_, (pss_cons (ps_set (i := 2) sc__law_frac.nd rfl (Or.inl rfl) (pe_ifExp (pt_cmpR op_gt (pv 1) pe_int (nomark _)) (pe_has h__law_gcd (hr.mono (by decide)) pass0 (pa_cons (pv 0) (pa_cons (pv 1) pa_nil))) (pe_un un_neg (pe_has h__law_gcd (hr.mono (by decide)) pass0 (pa_cons (pv 0) (pa_cons (pv 1) pa_nil))))))
      (pss_one (ps_ret (pe_tup (pa_cons (pe_op op_fdivX (pv 0) (pv 2)) (pa_cons (pe_op op_fdivX (pv 1) (pv 2)) pa_nil)))))), fun as k hc => ?_⟩
  try dsimp only [cxOf]
  clear hr E H s outer A cdv f d B
  obtain ⟨n, d, rfl, hd, hb, q⟩ := hc
  simp only [st0, List.map_cons, List.map_nil, List.replicate, List.cons_append, List.nil_append]
  walk_at "w"
  have h1 := gcd_pos (n := n) hd
  have h2 := gcd_lt (n := n) hd hb
  obtain ⟨e1, e2⟩ := red_is (n := n) hd
  refine yn (fun h => ?_) (fun h => ?_)
  · rw [if_neg (show ¬ d < 0 by omega)] at e1 e2
    walk_at "w"
    refine ⟨_, _, rfl, hd, hb, ?_⟩
    walk_at "w"
    refine rb_c (divx (b := 9000) (by omega) (by omega) (by decide) (by decide)) ?_
    walk_at "w"
    refine rb_c (divx (b := 9000) (by omega) (by omega) (by decide) (by decide)) ?_
    walk_at "w"
    rw [e1, e2]
    exact q
  · rw [if_pos (show d < 0 by omega)] at e1 e2
    walk_at "w"
    refine ⟨_, _, rfl, hd, hb, ?_⟩
    walk_at "w"
    refine rb_c (divx (b := 9000) (by omega) (by omega) (by decide) (by decide)) ?_
    walk_at "w"
    refine rb_c (divx (b := 9000) (by omega) (by omega) (by decide) (by decide)) ?_
    walk_at "w"
    rw [e1, e2]
    exact q
abbrev n__law_add : List Str := ["a", "b"]
abbrev s__law_add : Stmt := top 84
theorem sc__law_add : FnScope ["a", "b"] ["a", "b"] (defScope s__law_add) := ⟨rfl, rfl, rfl, by decide +kernel, rfl, by decide +kernel, by decide +kernel⟩
theorem h__law_add (B : Bl mg) (d : DefAt K mg "_law_add" s__law_add []) (h__law_frac : Has P w K mg base CX0 "_law_frac" 2 [] (spOf K none (c_reduced))) : Has P w K mg base CX0 "_law_add" 3 [] (spOf K none (c_add)) := by
  refine d.pure sc__law_add (fun _ _ _ _ _ _ us hl => match us, hl with | [_, _], _ => rfl) 0 rfl (fun as k ⟨_, _, _, _, e, _⟩ => by rw [e]; rfl) fun f cdv A outer s H E hr => ⟨_, (pss_one (ps_ret (pe_has h__law_frac (hr.mono (by decide)) pass0 (pa_cons (pe_op (kAdd (K := K)) (pe_op op_mulG (pe_ix (kIx (K := K)) (pv 0) pe_int (fun _ _ => rfl)) (pe_ix (kIx (K := K)) (pv 1) pe_int (fun _ _ => rfl))) (pe_op op_mulG (pe_ix (kIx (K := K)) (pv 1) pe_int (fun _ _ => rfl)) (pe_ix (kIx (K := K)) (pv 0) pe_int (fun _ _ => rfl)))) (pa_cons (pe_op op_mulG (pe_ix (kIx (K := K)) (pv 0) pe_int (fun _ _ => rfl)) (pe_ix (kIx (K := K)) (pv 1) pe_int (fun _ _ => rfl))) pa_nil))))), fun as k hc => ?_⟩
  try dsimp only [cxOf]
  clear hr E H s outer A cdv f d B
  obtain ⟨x, y, a, b, rfl, hx, hy, hl, h0, q⟩ := hc
  simp only [st0, List.map_cons, List.map_nil, List.replicate, List.cons_append, List.nil_append]
  walk_at "w"
  refine ⟨_, _, rfl, (by walk_at "nz"), lt_ltx (by walk_at "bd") (by omega), ?_⟩
  rw [add_is]
  exact q
abbrev n__law_sub : List Str := ["a", "b"]
abbrev s__law_sub : Stmt := top 85
theorem sc__law_sub : FnScope ["a", "b"] ["a", "b"] (defScope s__law_sub) := ⟨rfl, rfl, rfl, by decide +kernel, rfl, by decide +kernel, by decide +kernel⟩
theorem h__law_sub (B : Bl mg) (d : DefAt K mg "_law_sub" s__law_sub []) (h__law_frac : Has P w K mg base CX0 "_law_frac" 2 [] (spOf K none (c_reduced))) : Has P w K mg base CX0 "_law_sub" 3 [] (spOf K none (c_sub)) := by
  refine d.pure sc__law_sub (fun _ _ _ _ _ _ us hl => match us, hl with | [_, _], _ => rfl) 0 rfl (fun as k ⟨_, _, _, _, e, _⟩ => by rw [e]; rfl) fun f cdv A outer s H E hr => ⟨_, (pss_one (ps_ret (pe_has h__law_frac (hr.mono (by decide)) pass0 (pa_cons (pe_op op_sub (pe_op op_mulG (pe_ix (kIx (K := K)) (pv 0) pe_int (fun _ _ => rfl)) (pe_ix (kIx (K := K)) (pv 1) pe_int (fun _ _ => rfl))) (pe_op op_mulG (pe_ix (kIx (K := K)) (pv 1) pe_int (fun _ _ => rfl)) (pe_ix (kIx (K := K)) (pv 0) pe_int (fun _ _ => rfl)))) (pa_cons (pe_op op_mulG (pe_ix (kIx (K := K)) (pv 0) pe_int (fun _ _ => rfl)) (pe_ix (kIx (K := K)) (pv 1) pe_int (fun _ _ => rfl))) pa_nil))))), fun as k hc => ?_⟩
  try dsimp only [cxOf]
  clear hr E H s outer A cdv f d B
  obtain ⟨x, y, a, b, rfl, hx, hy, hl, h0, q⟩ := hc
  simp only [st0, List.map_cons, List.map_nil, List.replicate, List.cons_append, List.nil_append]
  walk_at "w"
  refine ⟨_, _, rfl, (by walk_at "nz"), lt_ltx (by walk_at "bd") (by omega), ?_⟩
  rw [sub_is]
  exact q
abbrev n__law_mul : List Str := ["a", "b"]
abbrev s__law_mul : Stmt := top 86
theorem sc__law_mul : FnScope ["a", "b"] ["a", "b"] (defScope s__law_mul) := ⟨rfl, rfl, rfl, by decide +kernel, rfl, by decide +kernel, by decide +kernel⟩
theorem h__law_mul (B : Bl mg) (d : DefAt K mg "_law_mul" s__law_mul []) (h__law_frac : Has P w K mg base CX0 "_law_frac" 2 [] (spOf K none (c_reduced))) : Has P w K mg base CX0 "_law_mul" 3 [] (spOf K none (c_mul)) := by
  refine d.pure sc__law_mul (fun _ _ _ _ _ _ us hl => match us, hl with | [_, _], _ => rfl) 0 rfl (fun as k ⟨_, _, _, _, e, _⟩ => by rw [e]; rfl) fun f cdv A outer s H E hr => ⟨_, (pss_one (ps_ret (pe_has h__law_frac (hr.mono (by decide)) pass0 (pa_cons (pe_op op_mulG (pe_ix (kIx (K := K)) (pv 0) pe_int (fun _ _ => rfl)) (pe_ix (kIx (K := K)) (pv 1) pe_int (fun _ _ => rfl))) (pa_cons (pe_op op_mulG (pe_ix (kIx (K := K)) (pv 0) pe_int (fun _ _ => rfl)) (pe_ix (kIx (K := K)) (pv 1) pe_int (fun _ _ => rfl))) pa_nil))))), fun as k hc => ?_⟩
  try dsimp only [cxOf]
  clear hr E H s outer A cdv f d B
  obtain ⟨x, y, a, b, rfl, hx, hy, hl, h0, q⟩ := hc
  simp only [st0, List.map_cons, List.map_nil, List.replicate, List.cons_append, List.nil_append]
  walk_at "w"
  refine ⟨_, _, rfl, (by walk_at "nz"), lt_ltx (by walk_at "bd") (by omega), ?_⟩
  rw [mul_is]
  exact q
abbrev n__law_div : List Str := ["a", "b"]
abbrev s__law_div : Stmt := top 87
theorem sc__law_div : FnScope ["a", "b"] ["a", "b"] (defScope s__law_div) := ⟨rfl, rfl, rfl, by decide +kernel, rfl, by decide +kernel, by decide +kernel⟩
theorem h__law_div (B : Bl mg) (d : DefAt K mg "_law_div" s__law_div []) (h__law_frac : Has P w K mg base CX0 "_law_frac" 2 [] (spOf K none (c_reduced))) : Has P w K mg base CX0 "_law_div" 3 [] (spOf K none (c_div)) := by
  refine d.pure sc__law_div (fun _ _ _ _ _ _ us hl => match us, hl with | [_, _], _ => rfl) 0 rfl (fun as k ⟨_, _, _, _, e, _⟩ => by rw [e]; rfl) fun f cdv A outer s H E hr => ⟨_, (pss_one (ps_ret (pe_has h__law_frac (hr.mono (by decide)) pass0 (pa_cons (pe_op op_mulG (pe_ix (kIx (K := K)) (pv 0) pe_int (fun _ _ => rfl)) (pe_ix (kIx (K := K)) (pv 1) pe_int (fun _ _ => rfl))) (pa_cons (pe_op op_mulG (pe_ix (kIx (K := K)) (pv 0) pe_int (fun _ _ => rfl)) (pe_ix (kIx (K := K)) (pv 1) pe_int (fun _ _ => rfl))) pa_nil))))), fun as k hc => ?_⟩
  try dsimp only [cxOf]
  clear hr E H s outer A cdv f d B
  obtain ⟨x, y, a, b, rfl, hx, hy, hl, h0, q⟩ := hc
  simp only [st0, List.map_cons, List.map_nil, List.replicate, List.cons_append, List.nil_append]
  walk_at "w"
  refine ⟨_, _, rfl, (inz (dnz x) (fun e => h0 (Rat.num_eq_zero.mp e))), lt_ltx (by walk_at "bd") (by omega), ?_⟩
  rw [div_is x h0]
  exact q
abbrev n__law_minus : List Str := ["a"]
abbrev s__law_minus : Stmt := top 109
theorem sc__law_minus : FnScope ["a"] ["a"] (defScope s__law_minus) := ⟨rfl, rfl, rfl, by decide +kernel, rfl, by decide +kernel, by decide +kernel⟩
theorem h__law_minus (B : Bl mg) (d : DefAt K mg "_law_minus" s__law_minus []) : Has P w K mg base CX0 "_law_minus" 1 [] (spOf K none (c_neg)) := by
  refine d.pure sc__law_minus (fun _ _ _ _ _ _ us hl => match us, hl with | [_], _ => rfl) 0 rfl (fun as k ⟨_, e, _⟩ => by rw [e]; rfl) fun f cdv A outer s H E hr => ⟨_, (pss_one (ps_ret (pe_tup (pa_cons (pe_un un_neg (pe_ix (kIx (K := K)) (pv 0) pe_int (fun _ _ => rfl))) (pa_cons (pe_ix (kIx (K := K)) (pv 0) pe_int (fun _ _ => rfl)) pa_nil))))), fun as k hc => ?_⟩
  try dsimp only [cxOf]
  clear hr E H s outer A cdv f d B
  obtain ⟨x, rfl, q⟩ := hc
  simp only [st0, List.map_cons, List.map_nil, List.replicate, List.cons_append, List.nil_append]
  walk_at "w"
  have e : Fq (-x) = .tuple [.int (-x.num), .int x.den] := by rw [Fq, Rat.neg_num, Rat.neg_den]
  rw [e] at q
  exact q
def c_sum2 : Con := fun as k => ∃ (a x b y e : Rat) (n1 n2 n3 n4 n5 : Nat), as = [.i (Fq a), .i (Fq x), .i (Fq b), .i (Fq y), .i (Fq e)] ∧ Sz n1 a ∧ Sz n2 x ∧ Sz n3 b ∧ Sz n4 y ∧ Sz n5 e ∧ n1 + n2 + n3 + n4 + n5 + 2 ≤ 9000 ∧ k (Fq (a * x + b * y + e))
abbrev n__law_sum_of : List Str := ["a", "x", "b", "y", "e"]
abbrev s__law_sum_of : Stmt := top 104
theorem sc__law_sum_of : FnScope ["a", "x", "b", "y", "e"] ["a", "x", "b", "y", "e"] (defScope s__law_sum_of) := ⟨rfl, rfl, rfl, by decide +kernel, rfl, by decide +kernel, by decide +kernel⟩
theorem h__law_sum_of (B : Bl mg) (d : DefAt K mg "_law_sum_of" s__law_sum_of []) (h__law_add : Has P w K mg base CX0 "_law_add" 3 [] (spOf K none (c_add))) (h__law_mul : Has P w K mg base CX0 "_law_mul" 3 [] (spOf K none (c_mul))) : Has P w K mg base CX0 "_law_sum_of" 4 [] (spOf K none (c_sum2)) := by
  refine d.pure sc__law_sum_of (fun _ _ _ _ _ _ us hl => match us, hl with | [_, _, _, _, _], _ => rfl) 0 rfl (fun as k ⟨_, _, _, _, _, _, _, _, _, _, e, _⟩ => by rw [e]; rfl) fun f cdv A outer s H E hr => ⟨_, (pss_one (ps_ret (pe_has h__law_add (hr.mono (by decide)) pass0 (pa_cons (pe_has h__law_add (hr.mono (by decide)) pass0 (pa_cons (pe_has h__law_mul (hr.mono (by decide)) pass0 (pa_cons (pv 0) (pa_cons (pv 1) pa_nil))) (pa_cons (pe_has h__law_mul (hr.mono (by decide)) pass0 (pa_cons (pv 2) (pa_cons (pv 3) pa_nil))) pa_nil))) (pa_cons (pv 4) pa_nil))))), fun as k hc => ?_⟩
  try dsimp only [cxOf]
  clear hr E H s outer A cdv f d B
  obtain ⟨a, x, b, y, e, n1, n2, n3, n4, n5, rfl, h1, h2, h3, h4, h5, hl, q⟩ := hc
  simp only [st0, List.map_cons, List.map_nil, List.replicate, List.cons_append, List.nil_append]
  walk_at "w"
  refine ⟨_, _, _, _, rfl, h1, h2, by omega, trivial, ?_⟩
  walk_at "w"
  refine ⟨_, _, _, _, rfl, h3, h4, by omega, trivial, ?_⟩
  walk_at "w"
  refine ⟨_, _, _, _, rfl, (h1.mul h2), (h3.mul h4), by omega, trivial, ?_⟩
  walk_at "w"
  refine ⟨_, _, _, _, rfl, ((h1.mul h2).add (h3.mul h4)), h5, by omega, trivial, ?_⟩
  walk_at "w"
  exact q
/-- sizes: a of the rows, b of the step -/
structure TS (n m : Nat) (t : Tf) : Prop where
  a : Sz n t.a
  b : Sz n t.b
  c : Sz n t.c
  d : Sz n t.d
  e : Sz m t.e
  f : Sz m t.f
theorem TS.mono {a b c d : Nat} {t : Tf} (h : TS a b t) (l1 : a ≤ c) (l2 : b ≤ d) : TS c d t := ⟨h.a.mono l1, h.b.mono l1, h.c.mono l1, h.d.mono l1, h.e.mono l2, h.f.mono l2⟩
theorem TS.sz {a b n : Nat} {t : Tf} (h : TS a b t) (l1 : a ≤ n) (l2 : b ≤ n) : TSz n t := ⟨h.a.mono l1, h.b.mono l1, h.c.mono l1, h.d.mono l1, h.e.mono l2, h.f.mono l2⟩
theorem TS.det {a b : Nat} {t : Tf} (h : TS a b t) : Sz (4 * a + 1) t.det := ((h.a.mul h.d).sub (h.b.mul h.c)).mono (by omega)
theorem TS.on {a b m : Nat} {t : Tf} {p : Pt} (h : TS a b t) (g : PSz m p) : PSz (2 * a + 2 * m + b + 2) (t.on p) := ⟨(((h.a.mul g.1).add (h.b.mul g.2)).add h.e).mono (by omega), (((h.c.mul g.1).add (h.d.mul g.2)).add h.f).mono (by omega)⟩
theorem TS.chain {a b c d : Nat} {t s : Tf} (h : TS a b t) (g : TS c d s) : TS (2 * a + 2 * c + 1) (2 * c + 2 * b + d + 2) (t.chain s) :=
  ⟨((g.a.mul h.a).add (g.b.mul h.c)).mono (by omega), ((g.a.mul h.b).add (g.b.mul h.d)).mono (by omega), ((g.c.mul h.a).add (g.d.mul h.c)).mono (by omega), ((g.c.mul h.b).add (g.d.mul h.d)).mono (by omega),
   (((g.a.mul h.e).add (g.b.mul h.f)).add g.e).mono (by omega), (((g.c.mul h.e).add (g.d.mul h.f)).add g.f).mono (by omega)⟩
theorem TS.inv {a b : Nat} {t : Tf} (h : TS a b t) (hd : t.det ≠ 0) : TS (5 * a + 1) (10 * a + 2 * b + 3) t.inv :=
  have w := h.det
  ⟨(h.d.div w hd).mono (by omega), (h.b.div w hd).neg.mono (by omega), (h.c.div w hd).neg.mono (by omega), (h.a.div w hd).mono (by omega),
   (((h.d.div w hd).mul h.e).add ((h.b.div w hd).neg.mul h.f)).neg.mono (by omega), (((h.c.div w hd).neg.mul h.e).add ((h.a.div w hd).mul h.f)).neg.mono (by omega)⟩
def c_image : Con := fun as k => ∃ (t : Tf) (p : Pt) (a b m : Nat), as = [.i (tfD t), .i (ptD p)] ∧ TS a b t ∧ PSz m p ∧ 2 * a + 2 * m + b + 2 ≤ 9000 ∧ k (ptD (t.on p))
abbrev n__law_image : List Str := ["t", "p"]
abbrev s__law_image : Stmt := top 105
theorem sc__law_image : FnScope ["t", "p"] ["t", "p"] (defScope s__law_image) := ⟨rfl, rfl, rfl, by decide +kernel, rfl, by decide +kernel, by decide +kernel⟩
theorem h__law_image (B : Bl mg) (d : DefAt K mg "_law_image" s__law_image []) (h__law_sum_of : Has P w K mg base CX0 "_law_sum_of" 4 [] (spOf K none (c_sum2))) : Has P w K mg base CX0 "_law_image" 5 [] (spOf K none (c_image)) := by
  refine d.pure sc__law_image (fun _ _ _ _ _ _ us hl => match us, hl with | [_, _], _ => rfl) 0 rfl (fun as k ⟨_, _, _, _, _, e, _⟩ => by rw [e]; rfl) fun f cdv A outer s H E hr => ⟨_, (pss_one (ps_ret (pe_tup (pa_cons (pe_has h__law_sum_of (hr.mono (by decide)) pass0 (pa_cons (pe_ix (kIx (K := K)) (pv 0) pe_int (fun _ _ => rfl)) (pa_cons (pe_ix (kIx (K := K)) (pv 1) pe_int (fun _ _ => rfl)) (pa_cons (pe_ix (kIx (K := K)) (pv 0) pe_int (fun _ _ => rfl)) (pa_cons (pe_ix (kIx (K := K)) (pv 1) pe_int (fun _ _ => rfl)) (pa_cons (pe_ix (kIx (K := K)) (pv 0) pe_int (fun _ _ => rfl)) pa_nil)))))) (pa_cons (pe_has h__law_sum_of (hr.mono (by decide)) pass0 (pa_cons (pe_ix (kIx (K := K)) (pv 0) pe_int (fun _ _ => rfl)) (pa_cons (pe_ix (kIx (K := K)) (pv 1) pe_int (fun _ _ => rfl)) (pa_cons (pe_ix (kIx (K := K)) (pv 0) pe_int (fun _ _ => rfl)) (pa_cons (pe_ix (kIx (K := K)) (pv 1) pe_int (fun _ _ => rfl)) (pa_cons (pe_ix (kIx (K := K)) (pv 0) pe_int (fun _ _ => rfl)) pa_nil)))))) pa_nil))))), fun as k hc => ?_⟩
  try dsimp only [cxOf]
  clear hr E H s outer A cdv f d B
  obtain ⟨t, p, a, b, m, rfl, ht, hp, hl, q⟩ := hc
  simp only [st0, List.map_cons, List.map_nil, List.replicate, List.cons_append, List.nil_append]
  walk_at "w"
  refine ⟨_, _, _, _, _, _, _, _, _, _, rfl, ht.a, hp.1, ht.b, hp.2, ht.e, by omega, ?_⟩
  walk_at "w"
  refine ⟨_, _, _, _, _, _, _, _, _, _, rfl, ht.c, hp.1, ht.d, hp.2, ht.f, by omega, ?_⟩
  walk_at "w"
  exact q
def c_lplaced : Con := fun as k => ∃ (t : Tf) (l : List Sg) (a b m : Nat), as = [.i (tfD t), .i (.list (l.map sgD))] ∧ TS a b t ∧ (∀ s ∈ l, SSz m s) ∧ 2 * a + 2 * m + b + 2 ≤ 9000 ∧ l.length ≤ 1000 ∧ k (.list ((l.map (Sg.by t)).map sgD))
abbrev n__law_placed : List Str := ["t", "drawing", "s"]
abbrev s__law_placed : Stmt := top 106
theorem sc__law_placed : FnScope ["t", "drawing", "s"] ["t", "drawing"] (defScope s__law_placed) := ⟨rfl, rfl, rfl, by decide +kernel, rfl, by decide +kernel, by decide +kernel⟩
theorem h__law_placed (B : Bl mg) (d : DefAt K mg "_law_placed" s__law_placed []) (h__law_image : Has P w K mg base CX0 "_law_image" 5 [] (spOf K none (c_image))) : Has P w K mg base CX0 "_law_placed" 6 [] (spOf K none (c_lplaced)) := by
  refine d.pure sc__law_placed (fun _ _ _ _ _ _ us hl => match us, hl with | [_, _], _ => rfl) 1 rfl (fun as k ⟨_, _, _, _, _, e, _⟩ => by rw [e]; rfl) fun f cdv A outer s H E hr => ⟨_, (pss_one (ps_ret (pe_lc (own := [("s", 2)]) (g := gName 2) (tt := tYes) rfl sc__law_placed.nd (kiList (K := K) (pv 1)) (blkOk_by (own := [("s", 2)]) (N := n__law_placed) (sc := defScope s__law_placed) (by decide +kernel)) (fun _ _ _ _ _ => (pg_name (i := 2) sc__law_placed.nd rfl (Or.inl rfl))) (fun _ _ _ _ _ => pts_nil) (fun _ _ _ _ _ => (pe_tup (pa_cons (pe_has h__law_image (hr.mono (by decide)) pass0 (pa_cons (pv 0) (pa_cons (pe_ix (kIx (K := K)) (pv 2) pe_int (fun _ _ => rfl)) pa_nil))) (pa_cons (pe_has h__law_image (hr.mono (by decide)) pass0 (pa_cons (pv 0) (pa_cons (pe_ix (kIx (K := K)) (pv 2) pe_int (fun _ _ => rfl)) pa_nil))) pa_nil))))))), fun as k hc => ?_⟩
  try dsimp only [cxOf]
  clear hr E H s outer A cdv f d B
  obtain ⟨t, l, a, b, m, rfl, ht, hl, hn, hz, kk⟩ := hc
  simp only [st0, List.map_cons, List.map_nil, List.replicate, List.cons_append, List.nil_append]
  refine p_ret (w_lcL ?_)
  walk_at "w"
  refine ⟨fun i acc => acc = ((l.take i).map (Sg.by t)).map sgD, rfl, fun i d hd acc ha => ?_, fun acc ha => ?_⟩
  · obtain ⟨s, h1, rfl⟩ := map_get hd
    have hm : s ∈ l := List.mem_of_getElem? h1
    refine ⟨_, g_name, rfl, t_yes ⟨fun _ => ?_, fun e => by cases e⟩⟩
    walk_at "w"
    refine ⟨_, _, _, _, _, rfl, ht, (hl s hm).1, hn, ?_⟩
    walk_at "w"
    refine ⟨_, _, _, _, _, rfl, ht, (hl s hm).2, hn, ?_⟩
    walk_at "w"
    subst ha
    refine ⟨?_, ?_⟩
    · rw [List.length_map, List.length_map, List.length_take]
      omega
    · show _ = _
      rw [take_one h1, List.map_append, List.map_append]
      rfl
  · subst ha
    have e : (l.map sgD).length = l.length := List.length_map ..
    rw [e, List.take_length]
    exact kk
def c_ldet : Con := fun as k => ∃ (t : Tf) (a b : Nat), as = [.i (tfD t)] ∧ TS a b t ∧ 4 * a + 1 ≤ 9000 ∧ k (Fq t.det)
abbrev n__law_det : List Str := ["t"]
abbrev s__law_det : Stmt := top 107
theorem sc__law_det : FnScope ["t"] ["t"] (defScope s__law_det) := ⟨rfl, rfl, rfl, by decide +kernel, rfl, by decide +kernel, by decide +kernel⟩
theorem h__law_det (B : Bl mg) (d : DefAt K mg "_law_det" s__law_det []) (h__law_sub : Has P w K mg base CX0 "_law_sub" 3 [] (spOf K none (c_sub))) (h__law_mul : Has P w K mg base CX0 "_law_mul" 3 [] (spOf K none (c_mul))) : Has P w K mg base CX0 "_law_det" 4 [] (spOf K none (c_ldet)) := by
  refine d.pure sc__law_det (fun _ _ _ _ _ _ us hl => match us, hl with | [_], _ => rfl) 0 rfl (fun as k ⟨_, _, _, e, _⟩ => by rw [e]; rfl) fun f cdv A outer s H E hr => ⟨_, (pss_one (ps_ret (pe_has h__law_sub (hr.mono (by decide)) pass0 (pa_cons (pe_has h__law_mul (hr.mono (by decide)) pass0 (pa_cons (pe_ix (kIx (K := K)) (pv 0) pe_int (fun _ _ => rfl)) (pa_cons (pe_ix (kIx (K := K)) (pv 0) pe_int (fun _ _ => rfl)) pa_nil))) (pa_cons (pe_has h__law_mul (hr.mono (by decide)) pass0 (pa_cons (pe_ix (kIx (K := K)) (pv 0) pe_int (fun _ _ => rfl)) (pa_cons (pe_ix (kIx (K := K)) (pv 0) pe_int (fun _ _ => rfl)) pa_nil))) pa_nil))))), fun as k hc => ?_⟩
  try dsimp only [cxOf]
  clear hr E H s outer A cdv f d B
  obtain ⟨t, a, b, rfl, ht, hl, q⟩ := hc
  simp only [st0, List.map_cons, List.map_nil, List.replicate, List.cons_append, List.nil_append]
  walk_at "w"
  refine ⟨_, _, _, _, rfl, ht.a, ht.d, by omega, trivial, ?_⟩
  walk_at "w"
  refine ⟨_, _, _, _, rfl, ht.b, ht.c, by omega, trivial, ?_⟩
  walk_at "w"
  refine ⟨_, _, _, _, rfl, (ht.a.mul ht.d), (ht.b.mul ht.c), by omega, trivial, ?_⟩
  walk_at "w"
  exact q
def c_lchain : Con := fun as k => ∃ (t s : Tf) (a b c d : Nat), as = [.i (tfD t), .i (tfD s)] ∧ TS a b t ∧ TS c d s ∧ 2 * a + 2 * c + 3 ≤ 9000 ∧ 2 * c + 2 * b + d + 2 ≤ 9000 ∧ k (tfD (t.chain s))
abbrev n__law_chain : List Str := ["one", "two", "zero", "first", "second"]
abbrev s__law_chain : Stmt := top 108
theorem sc__law_chain : FnScope ["one", "two", "zero", "first", "second"] ["one", "two"] (defScope s__law_chain) := ⟨rfl, rfl, rfl, by decide +kernel, rfl, by decide +kernel, by decide +kernel⟩
theorem h__law_chain (B : Bl mg) (d : DefAt K mg "_law_chain" s__law_chain []) (h__law_image : Has P w K mg base CX0 "_law_image" 5 [] (spOf K none (c_image))) (h__law_sum_of : Has P w K mg base CX0 "_law_sum_of" 4 [] (spOf K none (c_sum2))) : Has P w K mg base CX0 "_law_chain" 6 [] (spOf K none (c_lchain)) := by
  refine d.pure sc__law_chain (fun _ _ _ _ _ _ us hl => match us, hl with | [_, _], _ => rfl) 3 rfl (fun as k ⟨_, _, _, _, _, _, e, _⟩ => by rw [e]; rfl) fun f cdv A outer s H E hr => ⟨_, (pss_cons (ps_set (i := 2) sc__law_chain.nd rfl (Or.inl rfl) (pe_tup (pa_cons pe_int (pa_cons pe_int pa_nil))))
      (pss_cons (ps_set (i := 3) sc__law_chain.nd rfl (Or.inl rfl) (pe_tup (pa_cons (pe_has h__law_sum_of (hr.mono (by decide)) pass0 (pa_cons (pe_ix (kIx (K := K)) (pv 1) pe_int (fun _ _ => rfl)) (pa_cons (pe_ix (kIx (K := K)) (pv 0) pe_int (fun _ _ => rfl)) (pa_cons (pe_ix (kIx (K := K)) (pv 1) pe_int (fun _ _ => rfl)) (pa_cons (pe_ix (kIx (K := K)) (pv 0) pe_int (fun _ _ => rfl)) (pa_cons (pv 2) pa_nil)))))) (pa_cons (pe_has h__law_sum_of (hr.mono (by decide)) pass0 (pa_cons (pe_ix (kIx (K := K)) (pv 1) pe_int (fun _ _ => rfl)) (pa_cons (pe_ix (kIx (K := K)) (pv 0) pe_int (fun _ _ => rfl)) (pa_cons (pe_ix (kIx (K := K)) (pv 1) pe_int (fun _ _ => rfl)) (pa_cons (pe_ix (kIx (K := K)) (pv 0) pe_int (fun _ _ => rfl)) (pa_cons (pv 2) pa_nil)))))) pa_nil))))
      (pss_cons (ps_set (i := 4) sc__law_chain.nd rfl (Or.inl rfl) (pe_tup (pa_cons (pe_has h__law_sum_of (hr.mono (by decide)) pass0 (pa_cons (pe_ix (kIx (K := K)) (pv 1) pe_int (fun _ _ => rfl)) (pa_cons (pe_ix (kIx (K := K)) (pv 0) pe_int (fun _ _ => rfl)) (pa_cons (pe_ix (kIx (K := K)) (pv 1) pe_int (fun _ _ => rfl)) (pa_cons (pe_ix (kIx (K := K)) (pv 0) pe_int (fun _ _ => rfl)) (pa_cons (pv 2) pa_nil)))))) (pa_cons (pe_has h__law_sum_of (hr.mono (by decide)) pass0 (pa_cons (pe_ix (kIx (K := K)) (pv 1) pe_int (fun _ _ => rfl)) (pa_cons (pe_ix (kIx (K := K)) (pv 0) pe_int (fun _ _ => rfl)) (pa_cons (pe_ix (kIx (K := K)) (pv 1) pe_int (fun _ _ => rfl)) (pa_cons (pe_ix (kIx (K := K)) (pv 0) pe_int (fun _ _ => rfl)) (pa_cons (pv 2) pa_nil)))))) pa_nil))))
      (pss_one (ps_ret (pe_op (kAdd (K := K)) (pe_op (kAdd (K := K)) (pv 3) (pv 4)) (pe_has h__law_image (hr.mono (by decide)) pass0 (pa_cons (pv 1) (pa_cons (pe_tup (pa_cons (pe_ix (kIx (K := K)) (pv 0) pe_int (fun _ _ => rfl)) (pa_cons (pe_ix (kIx (K := K)) (pv 0) pe_int (fun _ _ => rfl)) pa_nil))) pa_nil))))))))), fun as k hc => ?_⟩
  try dsimp only [cxOf]
  clear hr E H s outer A cdv f d B
  obtain ⟨t, s, a, b, c, d, rfl, ht, hs, hl, hl2, q⟩ := hc
  simp only [st0, List.map_cons, List.map_nil, List.replicate, List.cons_append, List.nil_append]
  walk_at "w"
  refine ⟨_, _, _, _, 0, _, _, _, _, _, rfl, hs.a, ht.a, hs.b, ht.c, sz0, by omega, ?_⟩
  walk_at "w"
  refine ⟨_, _, _, _, 0, _, _, _, _, _, rfl, hs.a, ht.b, hs.b, ht.d, sz0, by omega, ?_⟩
  walk_at "w"
  refine ⟨_, _, _, _, 0, _, _, _, _, _, rfl, hs.c, ht.a, hs.d, ht.c, sz0, by omega, ?_⟩
  walk_at "w"
  refine ⟨_, _, _, _, 0, _, _, _, _, _, rfl, hs.c, ht.b, hs.d, ht.d, sz0, by omega, ?_⟩
  walk_at "w"
  refine ⟨s, ⟨t.e, t.f⟩, _, _, _, rfl, hs, ⟨ht.e, ht.f⟩, by omega, ?_⟩
  walk_at "w"
  simp only [Rat.add_zero]
  exact q
def c_lback : Con := fun as k => ∃ (t : Tf) (a b : Nat), as = [.i (tfD t)] ∧ TS a b t ∧ t.det ≠ 0 ∧ 10 * a + 2 * b + 8 ≤ 9000 ∧ k (tfD t.inv)
abbrev n__law_back : List Str := ["t", "whole", "rows", "away"]
abbrev s__law_back : Stmt := top 110
theorem sc__law_back : FnScope ["t", "whole", "rows", "away"] ["t"] (defScope s__law_back) := ⟨rfl, rfl, rfl, by decide +kernel, rfl, by decide +kernel, by decide +kernel⟩
theorem h__law_back (B : Bl mg) (d : DefAt K mg "_law_back" s__law_back []) (h__law_minus : Has P w K mg base CX0 "_law_minus" 1 [] (spOf K none (c_neg))) (h__law_image : Has P w K mg base CX0 "_law_image" 5 [] (spOf K none (c_image))) (h__law_div : Has P w K mg base CX0 "_law_div" 3 [] (spOf K none (c_div))) (h__law_det : Has P w K mg base CX0 "_law_det" 4 [] (spOf K none (c_ldet))) : Has P w K mg base CX0 "_law_back" 6 [] (spOf K none (c_lback)) := by
  refine d.pure sc__law_back (fun _ _ _ _ _ _ us hl => match us, hl with | [_], _ => rfl) 3 rfl (fun as k ⟨_, _, _, e, _⟩ => by rw [e]; rfl) fun f cdv A outer s H E hr => ⟨_, (pss_cons (ps_set (i := 1) sc__law_back.nd rfl (Or.inl rfl) (pe_has h__law_det (hr.mono (by decide)) pass0 (pa_cons (pv 0) pa_nil)))
      (pss_cons (ps_set (i := 2) sc__law_back.nd rfl (Or.inl rfl) (pe_tup (pa_cons (pe_has h__law_div (hr.mono (by decide)) pass0 (pa_cons (pe_ix (kIx (K := K)) (pv 0) pe_int (fun _ _ => rfl)) (pa_cons (pv 1) pa_nil))) (pa_cons (pe_has h__law_minus (hr.mono (by decide)) pass0 (pa_cons (pe_has h__law_div (hr.mono (by decide)) pass0 (pa_cons (pe_ix (kIx (K := K)) (pv 0) pe_int (fun _ _ => rfl)) (pa_cons (pv 1) pa_nil))) pa_nil)) (pa_cons (pe_has h__law_minus (hr.mono (by decide)) pass0 (pa_cons (pe_has h__law_div (hr.mono (by decide)) pass0 (pa_cons (pe_ix (kIx (K := K)) (pv 0) pe_int (fun _ _ => rfl)) (pa_cons (pv 1) pa_nil))) pa_nil)) (pa_cons (pe_has h__law_div (hr.mono (by decide)) pass0 (pa_cons (pe_ix (kIx (K := K)) (pv 0) pe_int (fun _ _ => rfl)) (pa_cons (pv 1) pa_nil))) pa_nil))))))
      (pss_cons (ps_set (i := 3) sc__law_back.nd rfl (Or.inl rfl) (pe_has h__law_image (hr.mono (by decide)) pass0 (pa_cons (pe_op (kAdd (K := K)) (pv 2) (pe_tup (pa_cons (pe_tup (pa_cons pe_int (pa_cons pe_int pa_nil))) (pa_cons (pe_tup (pa_cons pe_int (pa_cons pe_int pa_nil))) pa_nil)))) (pa_cons (pe_tup (pa_cons (pe_ix (kIx (K := K)) (pv 0) pe_int (fun _ _ => rfl)) (pa_cons (pe_ix (kIx (K := K)) (pv 0) pe_int (fun _ _ => rfl)) pa_nil))) pa_nil))))
      (pss_one (ps_ret (pe_op (kAdd (K := K)) (pv 2) (pe_tup (pa_cons (pe_has h__law_minus (hr.mono (by decide)) pass0 (pa_cons (pe_ix (kIx (K := K)) (pv 3) pe_int (fun _ _ => rfl)) pa_nil)) (pa_cons (pe_has h__law_minus (hr.mono (by decide)) pass0 (pa_cons (pe_ix (kIx (K := K)) (pv 3) pe_int (fun _ _ => rfl)) pa_nil)) pa_nil))))))))), fun as k hc => ?_⟩
  try dsimp only [cxOf]
  clear hr E H s outer A cdv f d B
  obtain ⟨t, a, b, rfl, ht, hd, hl, q⟩ := hc
  have hw := ht.det
  simp only [st0, List.map_cons, List.map_nil, List.replicate, List.cons_append, List.nil_append]
  walk_at "w"
  refine ⟨_, _, _, rfl, ht, by omega, ?_⟩
  walk_at "w"
  refine ⟨_, _, _, _, rfl, ht.d, hw, by omega, hd, ?_⟩
  walk_at "w"
  refine ⟨_, _, _, _, rfl, ht.b, hw, by omega, hd, ?_⟩
  walk_at "w"
  refine ⟨_, rfl, ?_⟩
  walk_at "w"
  refine ⟨_, _, _, _, rfl, ht.c, hw, by omega, hd, ?_⟩
  walk_at "w"
  refine ⟨_, rfl, ?_⟩
  walk_at "w"
  refine ⟨_, _, _, _, rfl, ht.a, hw, by omega, hd, ?_⟩
  walk_at "w"
  refine ⟨⟨t.d / t.det, -(t.b / t.det), -(t.c / t.det), t.a / t.det, 0, 0⟩, ⟨t.e, t.f⟩, 5 * a + 1, 1, b, rfl, ⟨(ht.d.div hw hd).mono (by omega), (ht.b.div hw hd).neg.mono (by omega), (ht.c.div hw hd).neg.mono (by omega), (ht.a.div hw hd).mono (by omega), sz0, sz0⟩, ⟨ht.e, ht.f⟩, by omega, ?_⟩
  walk_at "w"
  refine ⟨_, rfl, ?_⟩
  walk_at "w"
  refine ⟨_, rfl, ?_⟩
  walk_at "w"
  simp only [Tf.on, Rat.add_zero]
  exact q
def c_lunit : Con := fun as k => as = [] ∧ k (tfD .unit)
abbrev n__law_unit : List Str := []
abbrev s__law_unit : Stmt := top 115
theorem sc__law_unit : FnScope [] [] (defScope s__law_unit) := ⟨rfl, rfl, rfl, by decide +kernel, rfl, by decide +kernel, by decide +kernel⟩
theorem h__law_unit (B : Bl mg) (d : DefAt K mg "_law_unit" s__law_unit []) : Has P w K mg base CX0 "_law_unit" 1 [] (spOf K none (c_lunit)) := by
  refine d.pure sc__law_unit (fun _ _ _ _ _ _ us hl => match us, hl with | [], _ => rfl) 0 rfl (fun as k ⟨e, _⟩ => by rw [e]; rfl) fun f cdv A outer s H E hr => ⟨_, (pss_one (ps_ret (pe_tup (pa_cons (pe_tup (pa_cons pe_int (pa_cons pe_int pa_nil))) (pa_cons (pe_tup (pa_cons pe_int (pa_cons pe_int pa_nil))) (pa_cons (pe_tup (pa_cons pe_int (pa_cons pe_int pa_nil))) (pa_cons (pe_tup (pa_cons pe_int (pa_cons pe_int pa_nil))) (pa_cons (pe_tup (pa_cons pe_int (pa_cons pe_int pa_nil))) (pa_cons (pe_tup (pa_cons pe_int (pa_cons pe_int pa_nil))) pa_nil))))))))), fun as k hc => ?_⟩
  try dsimp only [cxOf]
  clear hr E H s outer A cdv f d B
  obtain ⟨rfl, q⟩ := hc
  simp only [st0, List.map_cons, List.map_nil, List.replicate, List.cons_append, List.nil_append]
  walk_at "w"
  exact q
theorem unit_chain (t : Tf) : Tf.unit.chain t = t := by
  obtain ⟨a, b, c, d, e, f⟩ := t
  simp only [Tf.chain, Tf.unit, Rat.mul_one, Rat.mul_zero, Rat.add_zero, Rat.zero_add]
theorem pw_one (t : Tf) : pw t 1 = t := unit_chain t
def c_lorder : Con := fun as k => ∃ (t : Tf) (c d : Nat), as = [.i (tfD t)] ∧ TS c d t ∧ (∀ i, i < 12 → ∃ a b, TS a b (pw t (i + 1)) ∧ 2 * a + 2 * c + 3 ≤ 9000 ∧ 2 * c + 2 * b + d + 2 ≤ 9000) ∧ k (ordF t 0 12)
abbrev n__law_order : List Str := ["t", "power", "k"]
abbrev s__law_order : Stmt := top 117
theorem sc__law_order : FnScope ["t", "power", "k"] ["t"] (defScope s__law_order) := ⟨rfl, rfl, rfl, by decide +kernel, rfl, by decide +kernel, by decide +kernel⟩
theorem h__law_order (B : Bl mg) (d : DefAt K mg "_law_order" s__law_order []) (h__law_chain : Has P w K mg base CX0 "_law_chain" 6 [] (spOf K none (c_lchain))) (h__law_unit : Has P w K mg base CX0 "_law_unit" 1 [] (spOf K none (c_lunit))) : Has P w K mg base CX0 "_law_order" 7 [] (spOf K none (c_lorder)) := by
  refine d.pure sc__law_order (fun _ _ _ _ _ _ us hl => match us, hl with | [_], _ => rfl) 2 rfl (fun as k ⟨_, _, _, e, _⟩ => by rw [e]; rfl) fun f cdv A outer s H E hr => ⟨_, (pss_cons (ps_set (i := 1) sc__law_order.nd rfl (Or.inl rfl) (pv 0))
      (pss_cons (ps_for PassesOwn.never rfl (pi_range2 (by rfl) B.range (pa_cons pe_int (pa_cons pe_int pa_nil))) (pg_name (i := 2) sc__law_order.nd rfl (Or.inl rfl)) (pss_cons (ps_if (pt_cmpR (kEq (K := K) hr.units) (pv 1) (pe_has0 h__law_unit (hr.mono (by decide)) pass0) (nomark _)) (pss_one (ps_ret (pv 2))) pss_nil)
      (pss_one (ps_set (i := 1) sc__law_order.nd rfl (Or.inl rfl) (pe_has h__law_chain (hr.mono (by decide)) pass0 (pa_cons (pv 1) (pa_cons (pv 0) pa_nil)))))))
      (pss_one (ps_ret pe_non)))), fun as k hc => ?_⟩
  try dsimp only [cxOf]
  clear hr E H s outer A cdv f d B
  obtain ⟨t, c, d, rfl, ht, hp, q⟩ := hc
  simp only [st0, List.map_cons, List.map_nil, List.replicate, List.cons_append, List.nil_append]
  walk_at "w"
  refine s_forR2 ?_
  walk_at "w"
  refine ⟨_, _, rfl, by decide, fun i ρ => ∃ x, ρ = [some (.i (tfD t)), some (.i (tfD (pw t (i + 1)))), x] ∧ i ≤ 12 ∧ k (ordF t i (12 - i)), ⟨_, by rw [pw_one]; rfl, by decide, q⟩, fun i ρ' hi ⟨x, hρ, h6, q⟩ => ?_, fun ρ' ⟨x, hρ, _, q⟩ => ?_⟩
  · subst hρ
    have hi6 : i < 12 := by omega
    obtain ⟨a, b, hn, hz, hz2⟩ := hp i hi6
    walk_at "w"
    refine ⟨rfl, ?_⟩
    refine b_eqT rfl rfl ?_
    rw [eqv_tf]
    walk_at "w"
    have e : 12 - i = (12 - (i + 1)) + 1 := by omega
    rw [e] at q
    have q' : k (if pw t (i + 1) = .unit then .int ((i + 1 : Nat) : Int) else ordF t (i + 1) (12 - (i + 1))) := q
    refine yn (fun h1 => ?_) (fun h1 => ?_)
    · walk_at "w"
      rw [if_pos h1] at q'
      have e2 : (1 : Int) + (i : Int) = ((i + 1 : Nat) : Int) := by omega
      rw [e2]
      exact q'
    · walk_at "w"
      rw [if_neg h1] at q'
      refine ⟨_, _, _, _, _, _, rfl, hn, ht, hz, hz2, ?_⟩
      walk_at "w"
      exact ⟨by omega, q'⟩
  · subst hρ
    walk_at "w"
    exact q
def c_lscale : Con := fun as k => ∃ (t : Tf) (a b : Nat), as = [.i (tfD t)] ∧ TS a b t ∧ 4 * a + 1 ≤ 9000 ∧ k (optD t.scale)
abbrev n__law_scale : List Str := ["t", "rows", "skew"]
abbrev s__law_scale : Stmt := top 119
theorem sc__law_scale : FnScope ["t", "rows", "skew"] ["t"] (defScope s__law_scale) := ⟨rfl, rfl, rfl, by decide +kernel, rfl, by decide +kernel, by decide +kernel⟩
theorem h__law_scale (B : Bl mg) (d : DefAt K mg "_law_scale" s__law_scale []) (h__law_add : Has P w K mg base CX0 "_law_add" 3 [] (spOf K none (c_add))) (h__law_mul : Has P w K mg base CX0 "_law_mul" 3 [] (spOf K none (c_mul))) : Has P w K mg base CX0 "_law_scale" 4 [] (spOf K none (c_lscale)) := by
  refine d.pure sc__law_scale (fun _ _ _ _ _ _ us hl => match us, hl with | [_], _ => rfl) 2 rfl (fun as k ⟨_, _, _, e, _⟩ => by rw [e]; rfl) fun f cdv A outer s H E hr => ⟨_, (pss_cons (ps_set (i := 1) sc__law_scale.nd rfl (Or.inl rfl) (pe_lst (pa_cons (pe_has h__law_add (hr.mono (by decide)) pass0 (pa_cons (pe_has h__law_mul (hr.mono (by decide)) pass0 (pa_cons (pe_ix (kIx (K := K)) (pv 0) pe_int (fun _ _ => rfl)) (pa_cons (pe_ix (kIx (K := K)) (pv 0) pe_int (fun _ _ => rfl)) pa_nil))) (pa_cons (pe_has h__law_mul (hr.mono (by decide)) pass0 (pa_cons (pe_ix (kIx (K := K)) (pv 0) pe_int (fun _ _ => rfl)) (pa_cons (pe_ix (kIx (K := K)) (pv 0) pe_int (fun _ _ => rfl)) pa_nil))) pa_nil))) (pa_cons (pe_has h__law_add (hr.mono (by decide)) pass0 (pa_cons (pe_has h__law_mul (hr.mono (by decide)) pass0 (pa_cons (pe_ix (kIx (K := K)) (pv 0) pe_int (fun _ _ => rfl)) (pa_cons (pe_ix (kIx (K := K)) (pv 0) pe_int (fun _ _ => rfl)) pa_nil))) (pa_cons (pe_has h__law_mul (hr.mono (by decide)) pass0 (pa_cons (pe_ix (kIx (K := K)) (pv 0) pe_int (fun _ _ => rfl)) (pa_cons (pe_ix (kIx (K := K)) (pv 0) pe_int (fun _ _ => rfl)) pa_nil))) pa_nil))) pa_nil))))
      (pss_cons (ps_set (i := 2) sc__law_scale.nd rfl (Or.inl rfl) (pe_has h__law_add (hr.mono (by decide)) pass0 (pa_cons (pe_has h__law_mul (hr.mono (by decide)) pass0 (pa_cons (pe_ix (kIx (K := K)) (pv 0) pe_int (fun _ _ => rfl)) (pa_cons (pe_ix (kIx (K := K)) (pv 0) pe_int (fun _ _ => rfl)) pa_nil))) (pa_cons (pe_has h__law_mul (hr.mono (by decide)) pass0 (pa_cons (pe_ix (kIx (K := K)) (pv 0) pe_int (fun _ _ => rfl)) (pa_cons (pe_ix (kIx (K := K)) (pv 0) pe_int (fun _ _ => rfl)) pa_nil))) pa_nil))))
      (pss_one (ps_ret (pe_ifExp (PW.pt (pw_and (pt_cmpR (kEq (K := K) hr.units) (pe_ix (kIx (K := K)) (pv 1) pe_int (fun _ _ => rfl)) (pe_ix (kIx (K := K)) (pv 1) pe_int (fun _ _ => rfl)) (nomark _)) (pw_and1 (pt_cmpR (kEq (K := K) hr.units) (pv 2) (pe_tup (pa_cons pe_int (pa_cons pe_int pa_nil))) (nomark _))))) (pe_ix (kIx (K := K)) (pv 1) pe_int (fun _ _ => rfl)) pe_non))))), fun as k hc => ?_⟩
  try dsimp only [cxOf]
  clear hr E H s outer A cdv f d B
  obtain ⟨t, a, b, rfl, ht, hl, q⟩ := hc
  simp only [st0, List.map_cons, List.map_nil, List.replicate, List.cons_append, List.nil_append]
  walk_at "w"
  refine ⟨_, _, _, _, rfl, ht.a, ht.a, by omega, trivial, ?_⟩
  walk_at "w"
  refine ⟨_, _, _, _, rfl, ht.c, ht.c, by omega, trivial, ?_⟩
  walk_at "w"
  refine ⟨_, _, _, _, rfl, (ht.a.mul ht.a), (ht.c.mul ht.c), by omega, trivial, ?_⟩
  walk_at "w"
  refine ⟨_, _, _, _, rfl, ht.b, ht.b, by omega, trivial, ?_⟩
  walk_at "w"
  refine ⟨_, _, _, _, rfl, ht.d, ht.d, by omega, trivial, ?_⟩
  walk_at "w"
  refine ⟨_, _, _, _, rfl, (ht.b.mul ht.b), (ht.d.mul ht.d), by omega, trivial, ?_⟩
  walk_at "w"
  refine ⟨_, _, _, _, rfl, ht.a, ht.b, by omega, trivial, ?_⟩
  walk_at "w"
  refine ⟨_, _, _, _, rfl, ht.c, ht.d, by omega, trivial, ?_⟩
  walk_at "w"
  refine ⟨_, _, _, _, rfl, (ht.a.mul ht.b), (ht.c.mul ht.d), by omega, trivial, ?_⟩
  walk_at "w"
  refine b_eqF ?_
  walk_at "w"
  unfold Tf.scale at q
  refine yn (fun h1 => ?_) (fun h1 => ?_)
  · walk_at "w"
    refine b_eqF (y := 0) ?_
    walk_at "w"
    refine yn (fun h2 => ?_) (fun h2 => ?_)
    · rw [if_pos ⟨h1, h2⟩] at q
      walk_at "w"
      exact q
    · rw [if_neg (fun z => h2 z.2)] at q
      walk_at "w"
      exact q
  · rw [if_neg (fun z => h1 z.1)] at q
    walk_at "w"
    exact q
def Pt.along (p q : Pt) (f : Rat) : Pt := ⟨p.x + f * (q.x - p.x), p.y + f * (q.y - p.y)⟩
def c_along : Con := fun as k => ∃ (p q : Pt) (f : Rat) (n m j : Nat), as = [.i (ptD p), .i (ptD q), .i (Fq f)] ∧ PSz n p ∧ PSz m q ∧ Sz j f ∧ 2 * n + m + j + 2 ≤ 9000 ∧ k (ptD (p.along q f))
abbrev n__law_along : List Str := ["p", "q", "f"]
abbrev s__law_along : Stmt := top 88
theorem sc__law_along : FnScope ["p", "q", "f"] ["p", "q", "f"] (defScope s__law_along) := ⟨rfl, rfl, rfl, by decide +kernel, rfl, by decide +kernel, by decide +kernel⟩
theorem h__law_along (B : Bl mg) (d : DefAt K mg "_law_along" s__law_along []) (h__law_add : Has P w K mg base CX0 "_law_add" 3 [] (spOf K none (c_add))) (h__law_mul : Has P w K mg base CX0 "_law_mul" 3 [] (spOf K none (c_mul))) (h__law_sub : Has P w K mg base CX0 "_law_sub" 3 [] (spOf K none (c_sub))) : Has P w K mg base CX0 "_law_along" 4 [] (spOf K none (c_along)) := by
  refine d.pure sc__law_along (fun _ _ _ _ _ _ us hl => match us, hl with | [_, _, _], _ => rfl) 0 rfl (fun as k ⟨_, _, _, _, _, _, e, _⟩ => by rw [e]; rfl) fun f cdv A outer s H E hr => ⟨_, (pss_one (ps_ret (pe_tup (pa_cons (pe_has h__law_add (hr.mono (by decide)) pass0 (pa_cons (pe_ix (kIx (K := K)) (pv 0) pe_int (fun _ _ => rfl)) (pa_cons (pe_has h__law_mul (hr.mono (by decide)) pass0 (pa_cons (pv 2) (pa_cons (pe_has h__law_sub (hr.mono (by decide)) pass0 (pa_cons (pe_ix (kIx (K := K)) (pv 1) pe_int (fun _ _ => rfl)) (pa_cons (pe_ix (kIx (K := K)) (pv 0) pe_int (fun _ _ => rfl)) pa_nil))) pa_nil))) pa_nil))) (pa_cons (pe_has h__law_add (hr.mono (by decide)) pass0 (pa_cons (pe_ix (kIx (K := K)) (pv 0) pe_int (fun _ _ => rfl)) (pa_cons (pe_has h__law_mul (hr.mono (by decide)) pass0 (pa_cons (pv 2) (pa_cons (pe_has h__law_sub (hr.mono (by decide)) pass0 (pa_cons (pe_ix (kIx (K := K)) (pv 1) pe_int (fun _ _ => rfl)) (pa_cons (pe_ix (kIx (K := K)) (pv 0) pe_int (fun _ _ => rfl)) pa_nil))) pa_nil))) pa_nil))) pa_nil))))), fun as k hc => ?_⟩
  try dsimp only [cxOf]
  clear hr E H s outer A cdv f d B
  obtain ⟨p, q, f, n, m, j, rfl, hp, hq, hf, hl, kk⟩ := hc
  simp only [st0, List.map_cons, List.map_nil, List.replicate, List.cons_append, List.nil_append]
  walk_at "w"
  refine ⟨_, _, _, _, rfl, hq.1, hp.1, by omega, trivial, ?_⟩
  walk_at "w"
  refine ⟨_, _, _, _, rfl, hf, (hq.1.sub hp.1), by omega, trivial, ?_⟩
  walk_at "w"
  refine ⟨_, _, _, _, rfl, hp.1, (hf.mul (hq.1.sub hp.1)), by omega, trivial, ?_⟩
  walk_at "w"
  refine ⟨_, _, _, _, rfl, hq.2, hp.2, by omega, trivial, ?_⟩
  walk_at "w"
  refine ⟨_, _, _, _, rfl, hf, (hq.2.sub hp.2), by omega, trivial, ?_⟩
  walk_at "w"
  refine ⟨_, _, _, _, rfl, hp.2, (hf.mul (hq.2.sub hp.2)), by omega, trivial, ?_⟩
  walk_at "w"
  exact kk
end K88
/-! B4 -/
/-! readings by hand: one step each -/
namespace AL
open PySem PySem.Spec PyProof.Rows L2
section
variable {X : Cx}
def rMulA : R2 := fun x y H Q => rI CMul (fun i j => .int (i * j)) x y H Q ∨ rI CMulX (fun i j => .int (i * j)) x y H Q
theorem op_mulA : OpR X (binaryOp .Mult) rMulA := OpR.or op_mul op_mulX
end
namespace Raw
variable {K : PySem.W.Frag} {σ : L2.St} {H : Hp} {D : Ends} {Q : VK} {t u : TS} {te ta tb : TE} {tt : TT} {r : R2} {j : Nat} {v : V} {ts : TA} {i k : Int}
theorem seq (h : t { D with nx := u D } σ H) : tSeq t u D σ H := h
theorem asg (h : te σ H fun v H' => D.nx (σ.set j (some v)) H') : tAsg te (gName j) D σ H := h
theorem drop (h : te σ H fun v H' => D.nx σ H') : tDrop te D σ H := h
theorem ifs (h : tt σ H fun b H' => (b = true → t D σ H') ∧ (b = false → u D σ H')) : tIfS tt t u D σ H := by
  have m : ∀ {b H'}, ((b = true → t D σ H') ∧ (b = false → u D σ H')) → if b = true then t D σ H' else u D σ H' := fun {b H'} q => by
    cases b with
    | true => exact q.1 rfl
    | false => exact q.2 rfl
  have e : (fun b H' => (b = true → t D σ H') ∧ (b = false → u D σ H')) = fun b H' => if b = true then t D σ H' else u D σ H' := by
    funext b H'
    cases b with
    | true => exact propext ⟨fun q => m q, fun q => ⟨fun _ => q, (fun z => nomatch z)⟩⟩
    | false => exact propext ⟨fun q => m q, fun q => ⟨(fun z => nomatch z), fun _ => q⟩⟩
  rw [e] at h
  exact h
theorem next (h : D.nx σ H) : tNext D σ H := h
theorem op (h : ta σ H fun x H1 => tb σ H1 fun y H2 => r x y H2 Q) : tOp r ta tb σ H Q := h
theorem var (e : σ[j]? = some (some v)) (h : Q v H) : tVar j σ H Q := ⟨v, e, h⟩
theorem con (h : Q v H) : tC v σ H Q := h
theorem test {k : Bool → Hp → Prop} (h : te σ H fun x H' => ∃ b, x = .bl b ∧ k b H') : tTest te σ H k := h
theorem cb {r : List V → Hp → VK → Prop} (h : ts σ H fun vs H' => r vs H' Q) : tCB r ts σ H Q := h
theorem cons {q : List V → Hp → Prop} (h : te σ H fun v H' => ts σ H' fun vs H2 => q (v :: vs) H2) : tCons te ts σ H q := h
theorem nil {q : List V → Hp → Prop} (h : q [] H) : tNil σ H q := h
theorem ret (h : te σ H D.rt) : tRet te D σ H := h
theorem add (h : Q (.int (i + k)) H) : rAddG K (.int i) (.int k) H Q := .inl ⟨i, k, rfl, rfl, h⟩
theorem mulN (b : -(2 ^ 64) < k ∧ k < 2 ^ 64) (h : Q (.int (i * k)) H) : rMulA (.int i) (.int k) H Q := .inl ⟨i, k, rfl, rfl, .inr b, h⟩
theorem mulX (b : CMulX i k) (h : Q (.int (i * k)) H) : rMulA (.int i) (.int k) H Q := .inr ⟨i, k, rfl, rfl, b, h⟩
theorem rel {C : Int → Int → Prop} {g : Int → Int → V} (b : C i k) (h : Q (g i k) H) : rI C g (.int i) (.int k) H Q := ⟨i, k, rfl, rfl, b, h⟩
theorem rel0 {g : Int → Int → V} (h : Q (g i k) H) : rI0 g (.int i) (.int k) H Q := ⟨i, k, rfl, rfl, h⟩
theorem eqI (h : Q (.bl (decide (i = k))) H) : rEqG K (.int i) (.int k) H Q := .inl ⟨rfl, by rw [dec_int, Bool.beq_eq_decide_eq]; exact h⟩
theorem ix {a : Addr} {xs : List V} (e : H a = some (.lst xs)) (g : atI xs i = some v) (h : Q v H) : rIx K (.ref a) (.int i) H Q := .inl ⟨a, xs, i, v, rfl, rfl, SqL.of e, g, h⟩
theorem abs (h : Q (.int (if i < 0 then -i else i)) H) : rAbs [.int i] H Q := ⟨i, rfl, h⟩
theorem int (h : Q (.int i) H) : rInt [.int i] H Q := .inl ⟨i, rfl, h⟩
theorem len {a : Addr} {xs : List V} (e : H a = some (.lst xs)) (h : Q (.int xs.length) H) : rLenG K [.ref a] H Q := ⟨a, xs, rfl, .inl (SqL.of e), h⟩
theorem setl {tk : TE} (h : te σ H fun v H' => ta σ H' fun o H2 => tk σ H2 fun i H3 => rSetL o i v H3 fun H4 => D.nx σ H4) : tAsg te (gSub ta tk rSetL) D σ H := h
theorem set1 {a : Addr} {xs : List V} {p : Nat} {k : Hp → Prop} (e : H a = some (.lst xs)) (g : ixN xs.length i = some p) (h : k (upd H a (.lst (xs.set p v)))) : rSetL (.ref a) (.int i) v H k := ⟨a, xs, i, p, rfl, rfl, e, g, h⟩
end Raw
end AL
/-! T12 -/
namespace K88
open PySem PySem.Spec PyProof.Rows L2 AL
local macro_rules | `(tactic| walk_at "bd") => `(tactic| first
  | assumption
  | (apply Sz.n; assumption)
  | (apply Sz.d; assumption)
  | ((with_reducible apply lt_mul); (case h1 => walk_at "bd"); (case h2 => walk_at "bd"))
  | ((with_reducible apply lt_addx); (case h1 => walk_at "bd"); (case h2 => walk_at "bd"))
  | ((with_reducible apply lt_subx); (case h1 => walk_at "bd"); (case h2 => walk_at "bd"))
  | ((with_reducible apply lt_neg); (case h => walk_at "bd")))
local macro_rules | `(tactic| walk_at "nz") => `(tactic| first
  | assumption
  | exact dnz _
  | ((with_reducible apply inz); (case h1 => walk_at "nz"); (case h2 => walk_at "nz")))
local macro_rules | `(tactic| walk_at "w") => `(tactic| repeat (first
  | with_reducible apply w_int
  | ((with_reducible apply w_var); (case h => exact rfl))
  | with_reducible apply wl_cons
  | with_reducible apply wl_nil
  | ((with_reducible refine And.intro (Nat.le_of_ble_eq_true ?hlen) ?_); (case hlen => exact rfl))
  | with_reducible apply w_tup
  | with_reducible apply w_op
  | with_reducible apply s_seq
  | with_reducible apply wa_cons
  | with_reducible apply wa_nil
  | with_reducible apply ru_i
  | with_reducible apply w_un
  | with_reducible apply s_asg
  | with_reducible apply w_call0
  | with_reducible apply w_callD2
  | with_reducible apply w_callD1
  | ((with_reducible apply w_callX0); (case hz => exact rfl))
  | ((with_reducible apply w_callXS); (case hz => exact rfl))
  | with_reducible apply w_callZ
  | with_reducible apply b_addI
  | ((with_reducible apply rb_ixT); (case e => exact rfl))
  | ((with_reducible apply rb_ixL); (case e => exact rfl))
  | with_reducible apply w_str
  | with_reducible apply w_lst
  | with_reducible apply w_sl
  | with_reducible apply o_none
  | with_reducible apply o_some
  | with_reducible apply sG_T
  | with_reducible apply sG_L
  | ((with_reducible apply s_app); (case e => exact rfl))
  | with_reducible apply s_drop
  | with_reducible apply w_if
  | with_reducible apply p_if
  | with_reducible apply t_test
  | with_reducible apply b_eqI
  | with_reducible apply s_next
  | with_reducible apply p_ret
  | ((with_reducible apply b_mulI); (case hc => (apply mulx; (case h1 => walk_at "bd"); (case h2 => walk_at "bd"); (case h => omega))))
  | with_reducible apply b_sub
  | with_reducible apply s_raiseK
  | with_reducible apply w_isT
  | with_reducible apply w_isL
  | with_reducible apply w_isI
  | with_reducible apply w_isB
  | with_reducible apply w_isS
  | with_reducible apply w_isN
  | with_reducible apply w_notN
  | with_reducible apply w_or
  | with_reducible apply w_and
  | with_reducible apply w_not
  | with_reducible apply w_chain
  | with_reducible apply w_cb
  | with_reducible apply t_or
  | with_reducible apply t_and
  | with_reducible apply t_not
  | with_reducible apply t_yes
  | ((with_reducible apply b_addT); (case hz => exact Nat.le_of_ble_eq_true rfl))
  | ((with_reducible apply b_addL); (case hz => exact Nat.le_of_ble_eq_true rfl))
  | with_reducible apply s_break
  | with_reducible apply rb_b
  | with_reducible apply t_truthI
  | with_reducible apply b_neI
  | with_reducible apply b_eqS
  | with_reducible apply b_eqB
  | with_reducible apply b_neB
  | with_reducible apply w_bl
  | with_reducible apply w_non
  | with_reducible apply t_B
  | with_reducible apply m_lst
  | with_reducible apply m_cat
  | with_reducible apply m_list
  | with_reducible apply w_lcLU
  | with_reducible apply w_lcTU
  | with_reducible apply s_forTU
  | with_reducible apply s_forLU
  | (with_reducible apply lcU_nil)
  | (with_reducible apply unr_nil)
  | with_reducible apply unr_one
  | ((with_reducible show LcU _ _ _ _ _ _ _ _ _); (refine lcU_one rfl (Nat.lt_of_succ_le (Nat.le_of_ble_eq_true rfl)) ?_))
  | ((with_reducible show (_ = true → _) ∧ (_ = false → _)); (first | refine ybt rfl ?_ | refine ybf rfl ?_))
  | ((with_reducible show (_ = false → _) ∧ (_ = true → _)); (first | refine obt rfl ?_ | refine obf rfl ?_))
  | with_reducible apply yt
  | with_reducible apply yf
  | with_reducible apply fy
  | with_reducible apply ft
  | ((with_reducible apply f_frz); (case e => exact rfl))
  | with_reducible apply s_asgG
  | (refine Exists.intro _ (And.intro (g_lst (by repeat (first | exact gs_nil | apply gs_one)) rfl) ?_))
  | (refine Exists.intro _ (And.intro (g_tup (by repeat (first | exact gs_nil | apply gs_one)) rfl) ?_))
  | with_reducible apply c_lenL
  | with_reducible apply c_lenT
  | with_reducible apply c_listL
  | with_reducible apply c_listT
  | with_reducible apply c_tupL
  | with_reducible apply c_abs
  | with_reducible apply c_int
  | with_reducible apply c_min
  | with_reducible apply rc_gcd
  | with_reducible apply rb_b
  | (refine And.intro (Nat.lt_of_succ_le (Nat.le_of_ble_eq_true rfl)) ?_)
  | with_reducible refine Exists.intro _ (And.intro rfl ?_)
  | refine And.intro (Nat.le_of_ble_eq_true rfl) ?_
  ))
local macro_rules | `(tactic| walk_at "r") => `(tactic| repeat (first
  | with_reducible apply Raw.seq
  | with_reducible apply Raw.asg
  | with_reducible apply Raw.drop
  | with_reducible apply Raw.setl
  | with_reducible apply Raw.ifs
  | with_reducible apply Raw.next
  | with_reducible apply Raw.op
  | ((with_reducible apply Raw.var); (case e => exact rfl))
  | with_reducible apply Raw.con
  | with_reducible apply Raw.test
  | with_reducible apply Raw.cb
  | with_reducible apply Raw.cons
  | with_reducible apply Raw.nil
  | with_reducible apply Raw.ret
  | with_reducible apply Raw.add
  | with_reducible apply Raw.eqI
  | with_reducible apply Raw.int
  | with_reducible apply Raw.abs
  | with_reducible apply Raw.rel0
  | refine Exists.intro _ (And.intro rfl ?_)
  ))
variable {P : Program} {w : World} {K : PySem.W.Frag} {mg : Str → Option Value} {base : Heap}
variable {S : Zs}
def c_next (s : Zs) : Con := fun as k => ∃ m : Int, as = [.o (.ref s.a), .i (.int m)] ∧ 1 ≤ m ∧ m.natAbs < 2 ^ 9000 ∧ ∀ r, 0 ≤ r → r < m → k (.int r)
theorem ns_at {ns : List Int} {k : Int} (h0 : 0 ≤ k) (h1 : k < ((ns.map V.int).length : Int)) : ∃ n, atI (ns.map V.int) k = some (.int n) := by
  have h2 : k.toNat < ns.length := by
    rw [List.length_map] at h1
    omega
  refine ⟨ns[k.toNat], ?_⟩
  unfold atI ixN
  rw [if_pos h0, if_pos h1]
  show (ns.map V.int)[k.toNat]? = _
  rw [List.getElem?_map, List.getElem?_eq_getElem h2]
  rfl
abbrev n__law_next : List Str := ["stream", "many", "k", "cell", "digit"]
abbrev s__law_next : Stmt := top 75
theorem sc__law_next : FnScope ["stream", "many", "k", "cell", "digit"] ["stream", "many"] (defScope s__law_next) := ⟨rfl, rfl, rfl, by decide +kernel, rfl, by decide +kernel, by decide +kernel⟩
theorem h__law_next (B : Bl mg) (d : DefAt K mg "_law_next" s__law_next []) : Has P w K mg base CX0 "_law_next" 1 [] (spOf K (some S) (c_next S)) := by
  refine d.has (fun _ _ _ _ _ _ us hl => match us, hl with | [_, _], _ => rfl) fun f fd D => D.ok sc__law_next ?_ fun cdv A outer s H vs Q E hr h => ⟨_, PSs.nox ((pss_cons (ps_if (pt_cmpR (kEq (K := K) hr.units) (pe_ix (kIx (K := K)) (pv 0) pe_int (fun _ _ => rfl)) pe_int (nomark _)) (pss_cons (ps_set (i := 2) sc__law_next.nd rfl (Or.inl rfl) (pe_ix (kIx (K := K)) (pv 0) pe_int (fun _ _ => rfl)))
      (pss_cons (ps_set (i := 3) sc__law_next.nd rfl (Or.inl rfl) (pe_op (kAdd (K := K)) pe_int (pv 2)))
      (pss_cons (ps_if (pt_cmpR op_lt (pv 2) (pe_callB (kLen (K := K)) (by rfl) B.len (by decide +kernel) (pa_cons (pe_ix (kIx (K := K)) (pv 0) pe_int (fun _ _ => rfl)) pa_nil)) (nomark _)) (pss_one (ps_set (i := 3) sc__law_next.nd rfl (Or.inl rfl) (pe_op op_mod (pe_callTy call_intG (by rfl) B.int (by decide +kernel) (pa_cons (pe_callB call_absG (by rfl) B.abs (by decide +kernel) (pa_cons (pe_ix (kIx (K := K)) (pe_ix (kIx (K := K)) (pv 0) pe_int (fun _ _ => rfl)) (pv 2) (fun _ _ => rfl)) pa_nil)) pa_nil)) (pe_op op_mulA (pe_op op_mulA (pe_op op_pow pe_int pe_int) (pe_op op_pow pe_int pe_int)) (pe_op op_pow pe_int pe_int))))) pss_nil)
      (pss_cons (ps_if (pt_cmpR op_lt (pv 3) (pe_op op_pow pe_int pe_int) (nomark _)) (pss_cons (ps_set (i := 3) sc__law_next.nd rfl (Or.inl rfl) (pe_op op_mod (pe_callTy call_intG (by rfl) B.int (by decide +kernel) (pa_cons (pe_op (kAdd (K := K)) (pe_op (kAdd (K := K)) (pe_op op_mulA (pv 3) pe_int) (pe_op op_mulA (pv 2) pe_int)) pe_int) pa_nil)) pe_int))
      (pss_one (ps_set (i := 3) sc__law_next.nd rfl (Or.inl rfl) (pe_op (kAdd (K := K)) (pe_op op_mulA (pe_op op_mod (pe_callTy call_intG (by rfl) B.int (by decide +kernel) (pa_cons (pe_op (kAdd (K := K)) (pe_op op_mulA (pv 3) pe_int) pe_int) pa_nil)) pe_int) pe_int) (pv 3))))) pss_nil)
      (pss_cons (ps_asg (pv 3) (pg_sub (pv 0) pe_int set_list))
      (pss_one (ps_asg (pe_op (kAdd (K := K)) (pv 2) pe_int) (pg_sub (pv 0) pe_int set_list)))))))) pss_nil)
      (pss_cons (ps_set (i := 4) sc__law_next.nd rfl (Or.inl rfl) (pe_op op_mod (pe_callTy call_intG (by rfl) B.int (by decide +kernel) (pa_cons (pe_ix (kIx (K := K)) (pv 0) pe_int (fun _ _ => rfl)) pa_nil)) (pv 1)))
      (pss_cons (ps_asg (pe_op op_fdivX (pe_ix (kIx (K := K)) (pv 0) pe_int (fun _ _ => rfl)) (pv 1)) (pg_sub (pv 0) pe_int set_list))
      (pss_one (ps_ret (pv 4))))))), ?_⟩
  · intro vs H Q E ⟨F, as, k, _, va, ⟨m, e, _⟩, _⟩
    rw [va.len, e]
    rfl
  · try dsimp only [cxOf]
    obtain ⟨F, as, k, w, va, ⟨m, e, h1, h2, q⟩, c⟩ := h
    subst e
    match vs, va with
    | [_, _], ⟨rfl, va, _⟩ =>
      cases va
      obtain ⟨z1, z2, c0, k0, z3, z4, z5⟩ := w.st S rfl
      clear va
      have z2' := w.sub _ _ z2
      refine Raw.seq ?_
      have fin : ∀ (x y : Option V) (c1 k1 : Int) (H2 : Hp), H2 S.a = some (.lst [.ref S.l, .int c1, .int k1]) → 0 ≤ c1 → 0 ≤ k1 → (∀ b, b ≠ S.a → H2 b = H b) →
          (tSeq (tAsg (tOp (rI (fun x j => 0 < j) fun i j => V.int (i % j)) (tCB rInt (tCons (tOp (rIx K) (tVar 0) (tC (V.int 1))) tNil)) (tVar 1)) (gName 4))
            (tSeq (tAsg (tOp (rI CDivX fun i j => V.int (i.fdiv j)) (tOp (rIx K) (tVar 0) (tC (V.int 1))) (tVar 1)) (gSub (tVar 0) (tC (V.int 1)) rSetL)) (tRet (tVar 4))))
            { nx := fun x H' => Q V.non H', rt := Q } [some (.ref S.a), some (.int m), x, y, none] H2 := fun x y c1 k1 H2 g1 g2 g3 g4 => by
        walk_at "r"
        refine Raw.ix g1 rfl ?_
        walk_at "r"
        refine Raw.rel (show (0 : Int) < m by omega) ?_
        walk_at "r"
        refine Raw.ix g1 rfl ?_
        walk_at "r"
        refine Raw.rel (divx (b := 9000) (by omega) h2 (by decide) (by decide)) ?_
        walk_at "r"
        refine Raw.set1 g1 rfl ?_
        walk_at "r"
        refine c _ _ F _ ⟨fun b o e => ?_, fun s e => ?_⟩ ⟨fun _ _ e => e, fun b o e n => ?_, fun _ _ _ e => e⟩ (.int _) (q _ (Int.emod_nonneg _ (by omega)) (Int.emod_lt_of_pos _ (by omega)))
        · have hb : b ≠ S.a := fun z => by rw [z, z1] at e; cases e
          rw [upd_ne hb, g4 b hb]
          exact w.sub b o e
        · cases e
          exact ⟨z1, z2, c1.fdiv m, k1, upd_same, Int.fdiv_nonneg g2 (by omega), g3⟩
        · have hb : b ≠ S.a := fun z => n S rfl z.symm
          rw [upd_ne hb, g4 b hb]
          exact e
      walk_at "r"
      refine Raw.ix z3 rfl ?_
      walk_at "r"
      refine yn (fun hc => ?_) (fun hc => ?_)
      · have mid : ∀ (cell : Int), 0 ≤ cell → (tSeq
                (tIfS (tTest (tOp (rI0 fun i j => V.bl (decide (i < j))) (tVar 3) (tOp (rI CPow fun i j => V.int (i ^ j.toNat)) (tC (V.int 10)) (tC (V.int 18)))))
                  (tSeq
                    (tAsg (tOp (rI (fun x j => 0 < j) fun i j => V.int (i % j)) (tCB rInt (tCons (tOp (rAddG K) (tOp (rAddG K) (tOp rMulA (tVar 3) (tC (V.int 48271))) (tOp rMulA (tVar 2) (tC (V.int 69621)))) (tC (V.int 11))) tNil)) (tC (V.int 2147483647))) (gName 3))
                    (tAsg (tOp (rAddG K) (tOp rMulA (tOp (rI (fun x j => 0 < j) fun i j => V.int (i % j)) (tCB rInt (tCons (tOp (rAddG K) (tOp rMulA (tVar 3) (tC (V.int 16807))) (tC (V.int 13))) tNil)) (tC (V.int 2147483647))) (tC (V.int 65537))) (tVar 3)) (gName 3)))
                  tNext)
                (tSeq (tAsg (tVar 3) (gSub (tVar 0) (tC (V.int 1)) rSetL)) (tAsg (tOp (rAddG K) (tVar 2) (tC (V.int 1))) (gSub (tVar 0) (tC (V.int 2)) rSetL))))
              { nx := fun σ' H' => (tSeq (tAsg (tOp (rI (fun x j => 0 < j) fun i j => V.int (i % j)) (tCB rInt (tCons (tOp (rIx K) (tVar 0) (tC (V.int 1))) tNil)) (tVar 1)) (gName 4))
            (tSeq (tAsg (tOp (rI CDivX fun i j => V.int (i.fdiv j)) (tOp (rIx K) (tVar 0) (tC (V.int 1))) (tVar 1)) (gSub (tVar 0) (tC (V.int 1)) rSetL)) (tRet (tVar 4)))) { nx := fun x H' => Q V.non H', rt := Q } σ' H', rt := Q } [some (.ref S.a), some (.int m), some (.int k0), some (.int cell), none] H := fun cell h0 => by
          refine Raw.seq ?_
          walk_at "r"
          refine Raw.rel ⟨by decide, by decide, by decide⟩ ?_
          walk_at "r"
          refine yn (fun h => ?_) (fun h => ?_)
          · walk_at "r"
            refine Raw.mulN (by decide) ?_
            walk_at "r"
            refine Raw.mulN (by decide) ?_
            walk_at "r"
            refine Raw.rel (by decide) ?_
            walk_at "r"
            refine Raw.mulN (by decide) ?_
            walk_at "r"
            refine Raw.rel (by decide) ?_
            walk_at "r"
            refine Raw.mulN (by decide) ?_
            walk_at "r"
            refine Raw.set1 z3 rfl ?_
            walk_at "r"
            refine Raw.set1 upd_same rfl ?_
            refine fin _ _ _ (k0 + 1) _ upd_same (by omega) (by omega) fun b hb => ?_
            rw [upd_ne hb, upd_ne hb]
          · walk_at "r"
            refine Raw.set1 z3 rfl ?_
            walk_at "r"
            refine Raw.set1 upd_same rfl ?_
            refine fin _ _ _ (k0 + 1) _ upd_same (by omega) (by omega) fun b hb => ?_
            rw [upd_ne hb, upd_ne hb]
        walk_at "r"
        refine Raw.ix z3 rfl ?_
        walk_at "r"
        refine Raw.ix z3 rfl ?_
        walk_at "r"
        refine Raw.len z2' ?_
        walk_at "r"
        refine yn (fun hk => ?_) (fun hk => ?_)
        · obtain ⟨n, hn⟩ := ns_at z5 hk
          walk_at "r"
          refine Raw.ix z3 rfl ?_
          walk_at "r"
          refine Raw.ix z2' hn ?_
          walk_at "r"
          refine Raw.rel ⟨by decide, by decide, by decide⟩ ?_
          walk_at "r"
          refine Raw.rel ⟨by decide, by decide, by decide⟩ ?_
          walk_at "r"
          refine Raw.mulX (mulx (a := 213) (b := 213) (by decide) (by decide) (by decide)) ?_
          walk_at "r"
          refine Raw.rel ⟨by decide, by decide, by decide⟩ ?_
          walk_at "r"
          refine Raw.mulX (mulx (a := 426) (b := 213) (by decide +kernel) (by decide) (by decide)) ?_
          walk_at "r"
          refine Raw.rel ?_ ?_
          · decide +kernel
          refine mid _ (Int.emod_nonneg _ ?_)
          decide +kernel
        · exact mid _ (by omega)
      · exact fin _ _ c0 k0 H z3 z4 z5 fun _ _ => rfl
end K88
/-! B5 -/
/-! found.append(left.pop(e)), both own lists -/
namespace AL
open PySem PySem.Spec PyProof.Rows L2
theorem DqAll.getN {K : PySem.W.Frag} {F : Hp} {ds : List D} {vs : List V} (h : DqAll K F vs ds) {i : Nat} (hi : i < ds.length) : ∃ v, vs[i]? = some v ∧ Dq K F v ds[i] := h.get (List.getElem?_eq_getElem hi)
theorem s_appPop {Γ : Gam} {ρ : Rho} {nx bk ct : Rho → Prop} {rt : D → Prop} {te : TE} {jf jl : Nat} {xs ys : List D} (e1 : ρ[jf]? = some (some (.m ys))) (e2 : ρ[jl]? = some (some (.m xs))) (ne : jl ≠ jf) (hy : ys.length < 100000)
    (h : WE Γ te (peek ρ) fun d => ∃ i : Nat, d = .int (i : Int) ∧ ∃ hi : i < xs.length, xs.length < 100000 ∧ nx ((ρ.set jl (some (.m (xs.eraseIdx i)))).set jf (some (.m (ys ++ [xs[i]]))))) :
    WS Γ (tDrop (tBM Γ.K "list" rAppend (tVar jf) (tCons (tBM Γ.K "list" rPopAt (tVar jl) (tCons te tNil)) tNil))) ρ nx rt bk ct := fun F0 H0 F H σ D k n b c r => by
  obtain ⟨pf, fs, a1, a2, a3, a4, a5, a6⟩ := k.o.own jf ys (gs_some.mpr e1)
  obtain ⟨pl, ls, b1, b2, b3, b4, b5, b6⟩ := k.o.own jl xs (gs_some.mpr e2)
  refine ⟨.ref pf, gs_some.mp a1, .inl ⟨rfl, fs, SqL.of a5⟩, .ref pl, gs_some.mp b1, .inl ⟨rfl, ls, SqL.of b5⟩, ?_⟩
  obtain ⟨F1, f, k1⟩ := k.peek
  refine h F1 H σ _ k1.i fun v d F2 H2 w s p ⟨i, ed, hi, hz, q⟩ => ?_
  subst ed
  cases p
  have k2 := k.retn f w s
  obtain ⟨pf', fs', c1, _, _, _, c5, c6⟩ := k2.o.own jf ys (gs_some.mpr e1)
  obtain ⟨pl', ls', d1, _, _, _, d5, d6⟩ := k2.o.own jl xs (gs_some.mpr e2)
  rw [a1] at c1
  rw [b1] at d1
  cases c1
  cases d1
  obtain ⟨y, y1, y2⟩ := DqAll.getN d6 hi
  have hl := d6.len
  have np : pf ≠ pl := fun z => by
    subst z
    exact ne (k.o.sep jl jf xs ys pf (gs_some.mpr e2) (gs_some.mpr e1) b1 a1)
  have k3 := k2.upM e2 (gs_some.mp b1) d5 (d6.erase i)
  refine ⟨pl, ls', (i : Int), i, y, rfl, rfl, d5, by omega, by omega, ?_, y1, ?_⟩
  · unfold seqIndex?
    simp
    omega
  · have e3 : (ρ.set jl (some (.m (xs.eraseIdx i))))[jf]? = some (some (.m ys)) := by
      rw [List.getElem?_set_ne ne]
      exact e1
    have c7 : upd H2 pl (.lst (ls'.eraseIdx i)) pf = some (.lst fs') := by rw [upd_ne np]; exact c5
    refine ⟨pf, fs', y, rfl, rfl, c7, ?_, ?_⟩
    · rw [c6.len]
      exact Nat.lt_of_lt_of_le hy (by decide)
    · exact n F _ σ _ (Same.refl F) (k3.upM e3 (gs_some.mp a1) c7 (c6.app (.cons y2 .nil))) q
end AL
/-! T13 -/
namespace K88
open PySem PySem.Spec PyProof.Rows L2 AL
local macro_rules | `(tactic| walk_at "bd") => `(tactic| first
  | assumption
  | (apply Sz.n; assumption)
  | (apply Sz.d; assumption)
  | ((with_reducible apply lt_mul); (case h1 => walk_at "bd"); (case h2 => walk_at "bd"))
  | ((with_reducible apply lt_addx); (case h1 => walk_at "bd"); (case h2 => walk_at "bd"))
  | ((with_reducible apply lt_subx); (case h1 => walk_at "bd"); (case h2 => walk_at "bd"))
  | ((with_reducible apply lt_neg); (case h => walk_at "bd")))
local macro_rules | `(tactic| walk_at "nz") => `(tactic| first
  | assumption
  | exact dnz _
  | ((with_reducible apply inz); (case h1 => walk_at "nz"); (case h2 => walk_at "nz")))
local macro_rules | `(tactic| walk_at "w") => `(tactic| repeat (first
  | with_reducible apply w_int
  | ((with_reducible apply w_var); (case h => exact rfl))
  | with_reducible apply wl_cons
  | with_reducible apply wl_nil
  | ((with_reducible refine And.intro (Nat.le_of_ble_eq_true ?hlen) ?_); (case hlen => exact rfl))
  | with_reducible apply w_tup
  | with_reducible apply w_op
  | with_reducible apply s_seq
  | ((with_reducible apply wa_consO); (case h => exact rfl))
  | with_reducible apply wa_cons
  | with_reducible apply wa_nil
  | with_reducible apply ru_i
  | with_reducible apply w_un
  | with_reducible apply s_asg
  | with_reducible apply w_call0
  | with_reducible apply w_callD2
  | with_reducible apply w_callD1
  | ((with_reducible apply w_callX0); (case hz => exact rfl))
  | ((with_reducible apply w_callXS); (case hz => exact rfl))
  | with_reducible apply w_callZ
  | with_reducible apply b_addI
  | ((with_reducible apply rb_ixT); (case e => exact rfl))
  | ((with_reducible apply rb_ixL); (case e => exact rfl))
  | with_reducible apply w_str
  | with_reducible apply w_lst
  | with_reducible apply w_sl
  | with_reducible apply o_none
  | with_reducible apply o_some
  | with_reducible apply sG_T
  | with_reducible apply sG_L
  | ((with_reducible apply s_app); (case e => exact rfl))
  | with_reducible apply s_drop
  | with_reducible apply w_if
  | with_reducible apply p_if
  | with_reducible apply t_test
  | with_reducible apply b_eqI
  | with_reducible apply s_next
  | with_reducible apply p_ret
  | ((with_reducible apply b_mulI); (case hc => (apply mulx; (case h1 => walk_at "bd"); (case h2 => walk_at "bd"); (case h => omega))))
  | with_reducible apply b_sub
  | with_reducible apply s_raiseK
  | with_reducible apply w_isT
  | with_reducible apply w_isL
  | with_reducible apply w_isI
  | with_reducible apply w_isB
  | with_reducible apply w_isS
  | with_reducible apply w_isN
  | with_reducible apply w_notN
  | with_reducible apply w_or
  | with_reducible apply w_and
  | with_reducible apply w_not
  | with_reducible apply w_chain
  | with_reducible apply w_cb
  | with_reducible apply t_or
  | with_reducible apply t_and
  | with_reducible apply t_not
  | with_reducible apply t_yes
  | ((with_reducible apply b_addT); (case hz => exact Nat.le_of_ble_eq_true rfl))
  | ((with_reducible apply b_addL); (case hz => exact Nat.le_of_ble_eq_true rfl))
  | with_reducible apply s_break
  | with_reducible apply rb_b
  | with_reducible apply t_truthI
  | with_reducible apply b_neI
  | with_reducible apply b_eqS
  | with_reducible apply b_eqB
  | with_reducible apply b_neB
  | with_reducible apply w_bl
  | with_reducible apply w_non
  | with_reducible apply t_B
  | with_reducible apply m_lst
  | with_reducible apply m_cat
  | with_reducible apply m_list
  | with_reducible apply w_lcLU
  | with_reducible apply w_lcTU
  | with_reducible apply s_forTU
  | with_reducible apply s_forLU
  | (with_reducible apply lcU_nil)
  | (with_reducible apply unr_nil)
  | with_reducible apply unr_one
  | ((with_reducible show LcU _ _ _ _ _ _ _ _ _); (refine lcU_one rfl (Nat.lt_of_succ_le (Nat.le_of_ble_eq_true rfl)) ?_))
  | ((with_reducible show (_ = true → _) ∧ (_ = false → _)); (first | refine ybt rfl ?_ | refine ybf rfl ?_))
  | ((with_reducible show (_ = false → _) ∧ (_ = true → _)); (first | refine obt rfl ?_ | refine obf rfl ?_))
  | with_reducible apply yt
  | with_reducible apply yf
  | with_reducible apply fy
  | with_reducible apply ft
  | ((with_reducible apply f_frz); (case e => exact rfl))
  | with_reducible apply s_asgG
  | (refine Exists.intro _ (And.intro (g_lst (by repeat (first | exact gs_nil | apply gs_one)) rfl) ?_))
  | (refine Exists.intro _ (And.intro (g_tup (by repeat (first | exact gs_nil | apply gs_one)) rfl) ?_))
  | with_reducible apply c_lenL
  | with_reducible apply c_lenT
  | with_reducible apply c_listL
  | with_reducible apply c_listT
  | with_reducible apply c_tupL
  | with_reducible apply c_abs
  | with_reducible apply c_int
  | with_reducible apply c_min
  | with_reducible apply rc_gcd
  | with_reducible apply rb_b
  | (refine And.intro (Nat.lt_of_succ_le (Nat.le_of_ble_eq_true rfl)) ?_)
  | with_reducible refine Exists.intro _ (And.intro rfl ?_)
  | refine And.intro (Nat.le_of_ble_eq_true rfl) ?_
  ))
local macro_rules | `(tactic| walk_at "r") => `(tactic| repeat (first
  | with_reducible apply Raw.seq
  | with_reducible apply Raw.asg
  | with_reducible apply Raw.drop
  | with_reducible apply Raw.setl
  | with_reducible apply Raw.ifs
  | with_reducible apply Raw.next
  | with_reducible apply Raw.op
  | ((with_reducible apply Raw.var); (case e => exact rfl))
  | with_reducible apply Raw.con
  | with_reducible apply Raw.test
  | with_reducible apply Raw.cb
  | with_reducible apply Raw.cons
  | with_reducible apply Raw.nil
  | with_reducible apply Raw.ret
  | with_reducible apply Raw.add
  | with_reducible apply Raw.eqI
  | with_reducible apply Raw.int
  | with_reducible apply Raw.abs
  | with_reducible apply Raw.rel0
  | refine Exists.intro _ (And.intro rfl ?_)
  ))
variable {P : Program} {w : World} {K : PySem.W.Frag} {mg : Str → Option Value} {base : Heap}
variable {S : Zs}
theorem lt_9000 {m : Int} (h0 : 0 ≤ m) (h : m ≤ 1000000) : m.natAbs < 2 ^ 9000 := Nat.lt_of_lt_of_le (show m.natAbs < 2 ^ 20 by omega) (Nat.pow_le_pow_right (by decide) (by decide))
def c_pick (s : Zs) : Con := fun as k => ∃ (r : D) (ds : List D), as = [.o (.ref s.a), .i r] ∧ (r = .tuple ds ∨ r = .list ds) ∧ 0 < ds.length ∧ ds.length ≤ 1000 ∧ ∀ d ∈ ds, k d
theorem at_in {ds : List D} {r : Int} (h0 : 0 ≤ r) (h1 : r < (ds.length : Int)) : ∃ d, atI ds r = some d ∧ d ∈ ds := by
  have h2 : r.toNat < ds.length := by omega
  have e := atI_get (List.getElem?_eq_getElem h2)
  rw [Int.toNat_of_nonneg h0] at e
  exact ⟨_, e, List.getElem_mem h2⟩
abbrev n__law_pick : List Str := ["stream", "rows"]
abbrev s__law_pick : Stmt := top 76
theorem sc__law_pick : FnScope ["stream", "rows"] ["stream", "rows"] (defScope s__law_pick) := ⟨rfl, rfl, rfl, by decide +kernel, rfl, by decide +kernel, by decide +kernel⟩
theorem h__law_pick (B : Bl mg) (d : DefAt K mg "_law_pick" s__law_pick []) (h__law_next : Has P w K mg base CX0 "_law_next" 1 [] (spOf K (some S) (c_next S))) : Has P w K mg base CX0 "_law_pick" 2 [] (spOf K (some S) (c_pick S)) := by
  refine d.pure sc__law_pick (fun _ _ _ _ _ _ us hl => match us, hl with | [_, _], _ => rfl) 0 rfl (fun as k ⟨_, _, e, _⟩ => by rw [e]; rfl) fun f cdv A outer s H E hr => ⟨_, (pss_one (ps_ret (pe_ix (kIx (K := K)) (pv 1) (pe_has h__law_next (hr.mono (by decide)) pass0 (pa_cons (pv 0) (pa_cons (pe_callB (kLen (K := K)) (by rfl) B.len (by decide +kernel) (pa_cons (pv 1) pa_nil)) pa_nil))) (fun _ _ => rfl)))), fun as k hc => ?_⟩
  try dsimp only [cxOf]
  clear hr E H s outer A cdv f d B
  obtain ⟨r, ds, rfl, hr, h1, h2, q⟩ := hc
  simp only [st0, List.map_cons, List.map_nil, List.replicate, List.cons_append, List.nil_append]
  rcases hr with rfl | rfl
  · walk_at "w"
    refine ⟨_, rfl, by omega, lt_9000 (by omega) (by omega), fun r h3 h4 => ?_⟩
    obtain ⟨d, e, hd⟩ := at_in h3 h4
    exact rb_ixT e (q d hd)
  · walk_at "w"
    refine ⟨_, rfl, by omega, lt_9000 (by omega) (by omega), fun r h3 h4 => ?_⟩
    obtain ⟨d, e, hd⟩ := at_in h3 h4
    exact rb_ixL e (q d hd)
def c_from (s : Zs) : Con := fun as k => ∃ a b : Int, as = [.o (.ref s.a), .i (.int a), .i (.int b)] ∧ a ≤ b ∧ b - a ≤ 1000 ∧ ∀ r, a ≤ r → r ≤ b → k (.int r)
abbrev n__law_from : List Str := ["stream", "low", "high"]
abbrev s__law_from : Stmt := top 77
theorem sc__law_from : FnScope ["stream", "low", "high"] ["stream", "low", "high"] (defScope s__law_from) := ⟨rfl, rfl, rfl, by decide +kernel, rfl, by decide +kernel, by decide +kernel⟩
theorem h__law_from (B : Bl mg) (d : DefAt K mg "_law_from" s__law_from []) (h__law_next : Has P w K mg base CX0 "_law_next" 1 [] (spOf K (some S) (c_next S))) : Has P w K mg base CX0 "_law_from" 2 [] (spOf K (some S) (c_from S)) := by
  refine d.pure sc__law_from (fun _ _ _ _ _ _ us hl => match us, hl with | [_, _, _], _ => rfl) 0 rfl (fun as k ⟨_, _, e, _⟩ => by rw [e]; rfl) fun f cdv A outer s H E hr => ⟨_, (pss_one (ps_ret (pe_op (kAdd (K := K)) (pv 1) (pe_has h__law_next (hr.mono (by decide)) pass0 (pa_cons (pv 0) (pa_cons (pe_op (kAdd (K := K)) (pe_op op_sub (pv 2) (pv 1)) pe_int) pa_nil)))))), fun as k hc => ?_⟩
  try dsimp only [cxOf]
  clear hr E H s outer A cdv f d B
  obtain ⟨a, b, rfl, h1, h2, q⟩ := hc
  simp only [st0, List.map_cons, List.map_nil, List.replicate, List.cons_append, List.nil_append]
  walk_at "w"
  refine ⟨_, rfl, by omega, lt_9000 (by omega) (by omega), fun r h3 h4 => ?_⟩
  walk_at "w"
  exact q _ (by omega) (by omega)
def c_shuf (s : Zs) : Con := fun as k => ∃ ds : List D, as = [.o (.ref s.a), .i (.list ds)] ∧ ds.length ≤ 1000 ∧ ∀ es : List D, es.Perm ds → k (.list es)
theorem ge_perm {α : Type} : ∀ {l : List α} {i : Nat} (h : i < l.length), (l[i] :: l.eraseIdx i).Perm l
  | a :: l, 0, _ => List.Perm.refl _
  | a :: l, i + 1, h => by
    have hi : i < l.length := Nat.lt_of_succ_lt_succ h
    have ih := ge_perm hi
    show (l[i] :: a :: l.eraseIdx i).Perm (a :: l)
    exact (List.Perm.swap a l[i] _).trans (ih.cons a)
theorem perm_turn {α : Type} {ds xs ys : List α} {i : Nat} (hi : i < xs.length) (h : (ys ++ xs).Perm ds) : (ys ++ [xs[i]] ++ xs.eraseIdx i).Perm ds := by
  refine List.Perm.trans ?_ h
  rw [List.append_assoc]
  refine List.Perm.append_left ys ?_
  exact ge_perm hi
abbrev n__law_shuffled : List Str := ["stream", "rows", "left", "found", "turn"]
abbrev s__law_shuffled : Stmt := top 78
theorem sc__law_shuffled : FnScope ["stream", "rows", "left", "found", "turn"] ["stream", "rows"] (defScope s__law_shuffled) := ⟨rfl, rfl, rfl, by decide +kernel, rfl, by decide +kernel, by decide +kernel⟩
theorem h__law_shuffled (B : Bl mg) (d : DefAt K mg "_law_shuffled" s__law_shuffled []) (h__law_next : Has P w K mg base CX0 "_law_next" 1 [] (spOf K (some S) (c_next S))) : Has P w K mg base CX0 "_law_shuffled" 2 [] (spOf K (some S) (c_shuf S)) := by
  refine d.pure sc__law_shuffled (fun _ _ _ _ _ _ us hl => match us, hl with | [_, _], _ => rfl) 3 rfl (fun as k ⟨_, e, _⟩ => by rw [e]; rfl) fun f cdv A outer s H E hr => ⟨_, (pss_cons (ps_setM (i := 2) sc__law_shuffled.nd rfl (Or.inl rfl) (pe_callTy (kList (K := K)) (by rfl) B.list (by decide +kernel) (pa_cons (pv 1) pa_nil)))
      (pss_cons (ps_setM (i := 3) sc__law_shuffled.nd rfl (Or.inl rfl) (pe_lst pa_nil))
      (pss_cons (ps_for PassesOwn.never rfl (pi_range1 (by rfl) B.range (pa_cons (pe_callB (kLen (K := K)) (by rfl) B.len (by decide +kernel) (pa_cons (pv 1) pa_nil)) pa_nil)) (pg_name (i := 4) sc__law_shuffled.nd rfl (Or.inl rfl)) (pss_one (ps_expr (kApp (K := K) (pv 3) (pa_cons (pe_bm PySem.F.plainAttrs_list PySem.F.slot_list_pop PySem.F.type_list_pop mt_popAt (pv 2) (pa_cons (pe_has h__law_next (hr.mono (by decide)) pass0 (pa_cons (pv 0) (pa_cons (pe_callB (kLen (K := K)) (by rfl) B.len (by decide +kernel) (pa_cons (pv 2) pa_nil)) pa_nil))) pa_nil)) pa_nil)))))
      (pss_one (ps_ret (pv 3)))))), fun as k hc => ?_⟩
  try dsimp only [cxOf]
  clear hr E H s outer A cdv f d B
  obtain ⟨ds, rfl, hl, q⟩ := hc
  simp only [st0, List.map_cons, List.map_nil, List.replicate, List.cons_append, List.nil_append]
  walk_at "w"
  refine ⟨_, .inl rfl, ?_⟩
  walk_at "w"
  refine s_forR ?_
  walk_at "w"
  refine ⟨by omega, by omega, fun i ρ' => ∃ xs ys t, ρ' = [some (.o (.ref S.a)), some (.i (.list ds)), some (.m xs), some (.m ys), t] ∧ (ys ++ xs).Perm ds ∧ xs.length + i = ds.length, ⟨_, _, _, rfl, List.Perm.refl _, rfl⟩, fun i ρ' hi ⟨xs, ys, t, hρ, hp, hs⟩ => ?_, fun ρ' ⟨xs, ys, t, hρ, hp, hs⟩ => ?_⟩
  · subst hρ
    have hy : ys.length ≤ ds.length := by
      have := hp.length_eq
      rw [List.length_append] at this
      omega
    refine s_appPop rfl rfl (by decide) (by omega) ?_
    walk_at "w"
    refine ⟨_, rfl, by omega, lt_9000 (by omega) (by omega), fun r h3 h4 => ?_⟩
    have hr : r.toNat < xs.length := by omega
    refine ⟨r.toNat, by rw [Int.toNat_of_nonneg h3], hr, by omega, _, _, _, rfl, perm_turn hr hp, ?_⟩
    rw [List.length_eraseIdx, if_pos hr]
    omega
  · subst hρ
    have hx : xs = [] := List.eq_nil_of_length_eq_zero (by omega)
    subst hx
    rw [List.append_nil] at hp
    walk_at "w"
    exact q _ hp
end K88
/-! T14 -/
namespace K88
open PySem PySem.Spec PyProof.Rows L2 AL
local macro_rules | `(tactic| walk_at "bd") => `(tactic| first
  | assumption
  | (apply Sz.n; assumption)
  | (apply Sz.d; assumption)
  | ((with_reducible apply lt_mul); (case h1 => walk_at "bd"); (case h2 => walk_at "bd"))
  | ((with_reducible apply lt_addx); (case h1 => walk_at "bd"); (case h2 => walk_at "bd"))
  | ((with_reducible apply lt_subx); (case h1 => walk_at "bd"); (case h2 => walk_at "bd"))
  | ((with_reducible apply lt_neg); (case h => walk_at "bd")))
local macro_rules | `(tactic| walk_at "nz") => `(tactic| first
  | assumption
  | exact dnz _
  | ((with_reducible apply inz); (case h1 => walk_at "nz"); (case h2 => walk_at "nz")))
local macro_rules | `(tactic| walk_at "w") => `(tactic| repeat (first
  | with_reducible apply w_int
  | ((with_reducible apply w_var); (case h => exact rfl))
  | with_reducible apply wl_cons
  | with_reducible apply wl_nil
  | ((with_reducible refine And.intro (Nat.le_of_ble_eq_true ?hlen) ?_); (case hlen => exact rfl))
  | with_reducible apply w_tup
  | with_reducible apply w_op
  | with_reducible apply s_seq
  | ((with_reducible apply wa_consO); (case h => exact rfl))
  | with_reducible apply wa_cons
  | with_reducible apply wa_nil
  | with_reducible apply ru_i
  | with_reducible apply w_un
  | with_reducible apply s_asg
  | with_reducible apply w_call0
  | with_reducible apply w_callD2
  | with_reducible apply w_callD1
  | ((with_reducible apply w_callX0); (case hz => exact rfl))
  | ((with_reducible apply w_callXS); (case hz => exact rfl))
  | with_reducible apply w_callZ
  | with_reducible apply b_addI
  | ((with_reducible apply rb_ixT); (case e => exact rfl))
  | ((with_reducible apply rb_ixL); (case e => exact rfl))
  | with_reducible apply w_str
  | with_reducible apply w_lst
  | with_reducible apply w_sl
  | with_reducible apply o_none
  | with_reducible apply o_some
  | with_reducible apply sG_T
  | with_reducible apply sG_L
  | ((with_reducible apply s_app); (case e => exact rfl))
  | with_reducible apply s_drop
  | with_reducible apply w_if
  | with_reducible apply p_if
  | with_reducible apply t_test
  | with_reducible apply b_eqI
  | with_reducible apply s_next
  | with_reducible apply p_ret
  | ((with_reducible apply b_mulI); (case hc => (apply mulx; (case h1 => walk_at "bd"); (case h2 => walk_at "bd"); (case h => omega))))
  | with_reducible apply b_sub
  | with_reducible apply s_raiseK
  | with_reducible apply w_isT
  | with_reducible apply w_isL
  | with_reducible apply w_isI
  | with_reducible apply w_isB
  | with_reducible apply w_isS
  | with_reducible apply w_isN
  | with_reducible apply w_notN
  | with_reducible apply w_or
  | with_reducible apply w_and
  | with_reducible apply w_not
  | with_reducible apply w_chain
  | with_reducible apply w_cb
  | with_reducible apply t_or
  | with_reducible apply t_and
  | with_reducible apply t_not
  | with_reducible apply t_yes
  | ((with_reducible apply b_addT); (case hz => exact Nat.le_of_ble_eq_true rfl))
  | ((with_reducible apply b_addL); (case hz => exact Nat.le_of_ble_eq_true rfl))
  | with_reducible apply s_break
  | with_reducible apply rb_b
  | with_reducible apply t_truthI
  | with_reducible apply b_neI
  | with_reducible apply b_eqS
  | with_reducible apply b_eqB
  | with_reducible apply b_neB
  | with_reducible apply w_bl
  | with_reducible apply w_non
  | with_reducible apply t_B
  | with_reducible apply m_lst
  | with_reducible apply m_cat
  | with_reducible apply m_list
  | with_reducible apply w_lcLU
  | with_reducible apply w_lcTU
  | with_reducible apply s_forTU
  | with_reducible apply s_forLU
  | (with_reducible apply lcU_nil)
  | (with_reducible apply unr_nil)
  | with_reducible apply unr_one
  | ((with_reducible show LcU _ _ _ _ _ _ _ _ _); (refine lcU_one rfl (Nat.lt_of_succ_le (Nat.le_of_ble_eq_true rfl)) ?_))
  | ((with_reducible show (_ = true → _) ∧ (_ = false → _)); (first | refine ybt rfl ?_ | refine ybf rfl ?_))
  | ((with_reducible show (_ = false → _) ∧ (_ = true → _)); (first | refine obt rfl ?_ | refine obf rfl ?_))
  | with_reducible apply yt
  | with_reducible apply yf
  | with_reducible apply fy
  | with_reducible apply ft
  | ((with_reducible apply f_frz); (case e => exact rfl))
  | with_reducible apply s_asgG
  | (refine Exists.intro _ (And.intro (g_lst (by repeat (first | exact gs_nil | apply gs_one)) rfl) ?_))
  | (refine Exists.intro _ (And.intro (g_tup (by repeat (first | exact gs_nil | apply gs_one)) rfl) ?_))
  | with_reducible apply c_lenL
  | with_reducible apply c_lenT
  | with_reducible apply c_listL
  | with_reducible apply c_listT
  | with_reducible apply c_tupL
  | with_reducible apply c_abs
  | with_reducible apply c_int
  | with_reducible apply c_min
  | with_reducible apply rc_gcd
  | with_reducible apply rb_b
  | (refine And.intro (Nat.lt_of_succ_le (Nat.le_of_ble_eq_true rfl)) ?_)
  | with_reducible refine Exists.intro _ (And.intro rfl ?_)
  | refine And.intro (Nat.le_of_ble_eq_true rfl) ?_
  ))
variable {P : Program} {w : World} {K : PySem.W.Frag} {mg : Str → Option Value} {base : Heap}
variable {S : Zs}
/-- small fractions that are not 0 -/
def okF (b : Nat) : D → Bool
  | .tuple [.int n, .int m] => isFr (.tuple [.int n, .int m]) && (decide (n.natAbs < 2 ^ b) && (decide (m.toNat < 2 ^ b) && decide (n ≠ 0)))
  | _ => false
theorem okF_of {b : Nat} {d : D} (h : okF b d = true) : ∃ q : Rat, d = Fq q ∧ Sz b q ∧ q ≠ 0 := by
  match d, h with
  | .tuple [.int n, .int m], h =>
    have h' : (isFr (.tuple [.int n, .int m]) && (decide (n.natAbs < 2 ^ b) && (decide (m.toNat < 2 ^ b) && decide (n ≠ 0)))) = true := h
    rw [Bool.and_eq_true, Bool.and_eq_true, Bool.and_eq_true] at h'
    obtain ⟨h1, h2, h3, h4⟩ := h'
    obtain ⟨q, e⟩ := Fq_of h1
    injection e with e
    injection e with e1 e2
    injection e1 with e1
    injection e2 with e2 e3
    injection e2 with e2
    have n1 : q.num.natAbs < 2 ^ b := by rw [← e1]; exact of_decide_eq_true h2
    have n2 : q.den < 2 ^ b := by
      have := of_decide_eq_true h3
      rw [e2] at this
      simpa using this
    refine ⟨q, by rw [e1, e2], ⟨n1, n2⟩, fun z => ?_⟩
    have h5 := of_decide_eq_true h4
    rw [e1, z] at h5
    exact h5 rfl
theorem okFs {b : Nat} {ds : List D} (h : ds.all (okF b) = true) {d : D} (hd : d ∈ ds) : ∃ q : Rat, d = Fq q ∧ Sz b q ∧ q ≠ 0 := okF_of (List.all_eq_true.mp h d hd)
def c_some (s : Zs) : Con := fun as k => as = [.o (.ref s.a)] ∧ ∀ q : Rat, q ≠ 0 → Sz 3 q → k (Fq q)
abbrev n__law_some : List Str := ["stream"]
abbrev s__law_some : Stmt := top 111
theorem sc__law_some : FnScope ["stream"] ["stream"] (defScope s__law_some) := ⟨rfl, rfl, rfl, by decide +kernel, rfl, by decide +kernel, by decide +kernel⟩
theorem h__law_some (B : Bl mg) (d : DefAt K mg "_law_some" s__law_some []) (h__law_pick : Has P w K mg base CX0 "_law_pick" 2 [] (spOf K (some S) (c_pick S))) : Has P w K mg base CX0 "_law_some" 3 [] (spOf K (some S) (c_some S)) := by
  refine d.pure sc__law_some (fun _ _ _ _ _ _ us hl => match us, hl with | [_], _ => rfl) 0 rfl (fun as k ⟨e, _⟩ => by rw [e]; rfl) fun f cdv A outer s H E hr => ⟨_, (pss_one (ps_ret (pe_has h__law_pick (hr.mono (by decide)) pass0 (pa_cons (pv 0) (pa_cons (pe_tup (pa_cons (pe_tup (pa_cons pe_int (pa_cons pe_int pa_nil))) (pa_cons (pe_tup (pa_cons pe_int (pa_cons pe_int pa_nil))) (pa_cons (pe_tup (pa_cons (pe_un un_neg pe_int) (pa_cons pe_int pa_nil))) (pa_cons (pe_tup (pa_cons pe_int (pa_cons pe_int pa_nil))) (pa_cons (pe_tup (pa_cons pe_int (pa_cons pe_int pa_nil))) (pa_cons (pe_tup (pa_cons (pe_un un_neg pe_int) (pa_cons pe_int pa_nil))) (pa_cons (pe_tup (pa_cons pe_int (pa_cons pe_int pa_nil))) (pa_cons (pe_tup (pa_cons (pe_un un_neg pe_int) (pa_cons pe_int pa_nil))) pa_nil))))))))) pa_nil))))), fun as k hc => ?_⟩
  try dsimp only [cxOf]
  clear hr E H s outer A cdv f d B
  obtain ⟨rfl, q⟩ := hc
  simp only [st0, List.map_cons, List.map_nil, List.replicate, List.cons_append, List.nil_append]
  walk_at "w"
  refine ⟨_, _, rfl, .inl rfl, by decide, by decide, fun d hd => ?_⟩
  obtain ⟨x, rfl, h1, h2⟩ := okFs (b := 3) (by decide) hd
  exact q x h2 h1
/-- whole numbers of a menu -/
def okI (lo hi : Int) : D → Bool
  | .int n => decide (lo ≤ n) && decide (n ≤ hi)
  | _ => false
theorem okIs {lo hi : Int} {ds : List D} (h : ds.all (okI lo hi) = true) {d : D} (hd : d ∈ ds) : ∃ n : Int, d = .int n ∧ lo ≤ n ∧ n ≤ hi := by
  have h1 := List.all_eq_true.mp h d hd
  match d, h1 with
  | .int n, h1 =>
    have h2 : (decide (lo ≤ n) && decide (n ≤ hi)) = true := h1
    rw [Bool.and_eq_true] at h2
    exact ⟨n, rfl, of_decide_eq_true h2.1, of_decide_eq_true h2.2⟩
theorem szd {n d : Int} {b : Nat} (hd : 1 ≤ d) (h1 : n.natAbs < 2 ^ b) (h2 : d.natAbs < 2 ^ b) : Sz b (Rat.divInt n d) := sz_div (by omega) h1 h2
def c_lpoint (s : Zs) : Con := fun as k => as = [.o (.ref s.a)] ∧ ∀ p : Pt, PSz 5 p → k (ptD p)
abbrev n__law_point : List Str := ["stream"]
abbrev s__law_point : Stmt := top 121
theorem sc__law_point : FnScope ["stream"] ["stream"] (defScope s__law_point) := ⟨rfl, rfl, rfl, by decide +kernel, rfl, by decide +kernel, by decide +kernel⟩
theorem h__law_point (B : Bl mg) (d : DefAt K mg "_law_point" s__law_point []) (h__law_frac : Has P w K mg base CX0 "_law_frac" 2 [] (spOf K none (c_reduced))) (h__law_pick : Has P w K mg base CX0 "_law_pick" 2 [] (spOf K (some S) (c_pick S))) (h__law_from : Has P w K mg base CX0 "_law_from" 2 [] (spOf K (some S) (c_from S))) : Has P w K mg base CX0 "_law_point" 3 [] (spOf K (some S) (c_lpoint S)) := by
  refine d.pure sc__law_point (fun _ _ _ _ _ _ us hl => match us, hl with | [_], _ => rfl) 0 rfl (fun as k ⟨e, _⟩ => by rw [e]; rfl) fun f cdv A outer s H E hr => ⟨_, (pss_one (ps_ret (pe_tup (pa_cons (pe_has h__law_frac (hr.mono (by decide)) pass0 (pa_cons (pe_has h__law_from (hr.mono (by decide)) pass0 (pa_cons (pv 0) (pa_cons (pe_un un_neg pe_int) (pa_cons pe_int pa_nil)))) (pa_cons (pe_has h__law_pick (hr.mono (by decide)) pass0 (pa_cons (pv 0) (pa_cons (pe_tup (pa_cons pe_int (pa_cons pe_int (pa_cons pe_int (pa_cons pe_int pa_nil))))) pa_nil))) pa_nil))) (pa_cons (pe_has h__law_frac (hr.mono (by decide)) pass0 (pa_cons (pe_has h__law_from (hr.mono (by decide)) pass0 (pa_cons (pv 0) (pa_cons (pe_un un_neg pe_int) (pa_cons pe_int pa_nil)))) (pa_cons (pe_has h__law_pick (hr.mono (by decide)) pass0 (pa_cons (pv 0) (pa_cons (pe_tup (pa_cons pe_int (pa_cons pe_int (pa_cons pe_int (pa_cons pe_int pa_nil))))) pa_nil))) pa_nil))) pa_nil))))), fun as k hc => ?_⟩
  try dsimp only [cxOf]
  clear hr E H s outer A cdv f d B
  obtain ⟨rfl, q⟩ := hc
  simp only [st0, List.map_cons, List.map_nil, List.replicate, List.cons_append, List.nil_append]
  walk_at "w"
  refine ⟨_, _, rfl, by decide, by decide, fun r r1 r2 => ?_⟩
  walk_at "w"
  refine ⟨_, _, rfl, .inl rfl, by decide, by decide, fun d hd => ?_⟩
  obtain ⟨m, rfl, m1, m2⟩ := okIs (lo := 1) (hi := 7) (by decide) hd
  walk_at "w"
  refine ⟨_, _, rfl, by omega, lt_ltx (show m.natAbs < 2 ^ 5 by omega) (by decide), ?_⟩
  walk_at "w"
  refine ⟨_, _, rfl, by decide, by decide, fun r r1 r2 => ?_⟩
  walk_at "w"
  refine ⟨_, _, rfl, .inl rfl, by decide, by decide, fun d hd => ?_⟩
  obtain ⟨m, rfl, m1, m2⟩ := okIs (lo := 1) (hi := 5) (by decide) hd
  walk_at "w"
  refine ⟨_, _, rfl, by omega, lt_ltx (show m.natAbs < 2 ^ 5 by omega) (by decide), ?_⟩
  walk_at "w"
  exact q ⟨_, _⟩ ⟨szd (by omega) (by omega) (by omega), szd (by omega) (by omega) (by omega)⟩
/-- rows of a law's draw: three whole numbers with a square sum -/
def okT : D → Bool
  | .tuple [.int a, .int b, .int c] => decide (1 ≤ c) && (decide (c ≤ 13) && (decide (a.natAbs ≤ 13) && (decide (b.natAbs ≤ 13) && decide (a * a + b * b = c * c))))
  | _ => false
structure T3 (a b c : Int) : Prop where
  c1 : 1 ≤ c
  c2 : c ≤ 13
  a2 : a.natAbs ≤ 13
  b2 : b.natAbs ≤ 13
  s : a * a + b * b = c * c
theorem okTs {ds : List D} (h : ds.all okT = true) {d : D} (hd : d ∈ ds) : ∃ a b c : Int, d = .tuple [.int a, .int b, .int c] ∧ T3 a b c := by
  have h1 := List.all_eq_true.mp h d hd
  match d, h1 with
  | .tuple [.int a, .int b, .int c], h1 =>
    have h2 : (decide (1 ≤ c) && (decide (c ≤ 13) && (decide (a.natAbs ≤ 13) && (decide (b.natAbs ≤ 13) && decide (a * a + b * b = c * c))))) = true := h1
    rw [Bool.and_eq_true, Bool.and_eq_true, Bool.and_eq_true, Bool.and_eq_true] at h2
    obtain ⟨g1, g2, g3, g4, g5⟩ := h2
    exact ⟨a, b, c, rfl, of_decide_eq_true g1, of_decide_eq_true g2, of_decide_eq_true g3, of_decide_eq_true g4, of_decide_eq_true g5⟩
theorem T3.one {a b c : Int} (h : T3 a b c) : Rat.divInt a c * Rat.divInt a c + Rat.divInt b c * Rat.divInt b c = 1 := by
  have hc : (c : Rat) ≠ 0 := fun e => by
    have : c = 0 := by exact_mod_cast e
    have := h.c1
    omega
  have hs : (a : Rat) * a + (b : Rat) * b = (c : Rat) * c := by
    rw [← Rat.intCast_mul, ← Rat.intCast_mul, ← Rat.intCast_mul, ← Rat.intCast_add, h.s]
  rw [Rat.divInt_eq_div, Rat.divInt_eq_div]
  grind
abbrev r4 (a b c d : Rat) : D := .tuple [Fq a, Fq b, Fq c, Fq d]
def c_rows4 (s : Zs) (n : Nat) : Con := fun as k => as = [.o (.ref s.a)] ∧ ∀ a b c d : Rat, Sz n a → Sz n b → Sz n c → Sz n d → a * d - b * c ≠ 0 → k (r4 a b c d)
theorem det_a {s x y : Rat} (h : x * x + y * y = 1) (h0 : s ≠ 0) : (s * x) * -(s * x) - (s * y) * (s * y) ≠ 0 := fun e => by
  have h1 : s * s = 0 := by grind
  have h2 : s * s ≠ 0 := mz h0 h0
  exact h2 h1
theorem det_b {s x y : Rat} (h : x * x + y * y = 1) (h0 : s ≠ 0) : (s * x) * (s * x) - -(s * y) * (s * y) ≠ 0 := fun e => by
  have h1 : s * s = 0 := by grind
  have h2 : s * s ≠ 0 := mz h0 h0
  exact h2 h1
abbrev n__law_alike_rows : List Str := ["stream", "told", "stretch", "u", "v"]
abbrev s__law_alike_rows : Stmt := top 112
theorem sc__law_alike_rows : FnScope ["stream", "told", "stretch", "u", "v"] ["stream"] (defScope s__law_alike_rows) := ⟨rfl, rfl, rfl, by decide +kernel, rfl, by decide +kernel, by decide +kernel⟩
theorem h__law_alike_rows (B : Bl mg) (d : DefAt K mg "_law_alike_rows" s__law_alike_rows []) (h__law_minus : Has P w K mg base CX0 "_law_minus" 1 [] (spOf K none (c_neg))) (h__law_next : Has P w K mg base CX0 "_law_next" 1 [] (spOf K (some S) (c_next S))) (h__law_mul : Has P w K mg base CX0 "_law_mul" 3 [] (spOf K none (c_mul))) (h__law_frac : Has P w K mg base CX0 "_law_frac" 2 [] (spOf K none (c_reduced))) (h__law_some : Has P w K mg base CX0 "_law_some" 3 [] (spOf K (some S) (c_some S))) (h__law_pick : Has P w K mg base CX0 "_law_pick" 2 [] (spOf K (some S) (c_pick S))) : Has P w K mg base CX0 "_law_alike_rows" 4 [] (spOf K (some S) (c_rows4 S 7)) := by
  refine d.pure sc__law_alike_rows (fun _ _ _ _ _ _ us hl => match us, hl with | [_], _ => rfl) 4 rfl (fun as k ⟨e, _⟩ => by rw [e]; rfl) fun f cdv A outer s H E hr => ⟨_, (pss_cons (ps_set (i := 1) sc__law_alike_rows.nd rfl (Or.inl rfl) (pe_has h__law_pick (hr.mono (by decide)) pass0 (pa_cons (pv 0) (pa_cons (pe_tup (pa_cons (pe_tup (pa_cons pe_int (pa_cons pe_int (pa_cons pe_int pa_nil)))) (pa_cons (pe_tup (pa_cons pe_int (pa_cons pe_int (pa_cons pe_int pa_nil)))) (pa_cons (pe_tup (pa_cons pe_int (pa_cons pe_int (pa_cons pe_int pa_nil)))) (pa_cons (pe_tup (pa_cons (pe_un un_neg pe_int) (pa_cons pe_int (pa_cons pe_int pa_nil)))) (pa_cons (pe_tup (pa_cons pe_int (pa_cons pe_int (pa_cons pe_int pa_nil)))) (pa_cons (pe_tup (pa_cons (pe_un un_neg pe_int) (pa_cons pe_int (pa_cons pe_int pa_nil)))) pa_nil))))))) pa_nil))))
      (pss_cons (ps_set (i := 2) sc__law_alike_rows.nd rfl (Or.inl rfl) (pe_has h__law_some (hr.mono (by decide)) pass0 (pa_cons (pv 0) pa_nil)))
      (pss_cons (ps_set (i := 3) sc__law_alike_rows.nd rfl (Or.inl rfl) (pe_has h__law_mul (hr.mono (by decide)) pass0 (pa_cons (pv 2) (pa_cons (pe_has h__law_frac (hr.mono (by decide)) pass0 (pa_cons (pe_ix (kIx (K := K)) (pv 1) pe_int (fun _ _ => rfl)) (pa_cons (pe_ix (kIx (K := K)) (pv 1) pe_int (fun _ _ => rfl)) pa_nil))) pa_nil))))
      (pss_cons (ps_set (i := 4) sc__law_alike_rows.nd rfl (Or.inl rfl) (pe_has h__law_mul (hr.mono (by decide)) pass0 (pa_cons (pv 2) (pa_cons (pe_has h__law_frac (hr.mono (by decide)) pass0 (pa_cons (pe_ix (kIx (K := K)) (pv 1) pe_int (fun _ _ => rfl)) (pa_cons (pe_ix (kIx (K := K)) (pv 1) pe_int (fun _ _ => rfl)) pa_nil))) pa_nil))))
      (pss_cons (ps_if (pt_cmpR (kEq (K := K) hr.units) (pe_has h__law_next (hr.mono (by decide)) pass0 (pa_cons (pv 0) (pa_cons pe_int pa_nil))) pe_int (nomark _)) (pss_one (ps_ret (pe_tup (pa_cons (pv 3) (pa_cons (pv 4) (pa_cons (pv 4) (pa_cons (pe_has h__law_minus (hr.mono (by decide)) pass0 (pa_cons (pv 3) pa_nil)) pa_nil))))))) pss_nil)
      (pss_one (ps_ret (pe_tup (pa_cons (pv 3) (pa_cons (pe_has h__law_minus (hr.mono (by decide)) pass0 (pa_cons (pv 4) pa_nil)) (pa_cons (pv 4) (pa_cons (pv 3) pa_nil)))))))))))), fun as k hc => ?_⟩
  try dsimp only [cxOf]
  clear hr E H s outer A cdv f d B
  obtain ⟨rfl, q⟩ := hc
  simp only [st0, List.map_cons, List.map_nil, List.replicate, List.cons_append, List.nil_append]
  walk_at "w"
  refine ⟨_, _, rfl, .inl rfl, by decide, by decide, fun d hd => ?_⟩
  obtain ⟨a, b, c, rfl, ht⟩ := okTs (by decide) hd
  have ha : Sz 4 (Rat.divInt a c) := szd ht.c1 (by have := ht.a2; omega) (by have := ht.c1; have := ht.c2; omega)
  have hb : Sz 4 (Rat.divInt b c) := szd ht.c1 (by have := ht.b2; omega) (by have := ht.c1; have := ht.c2; omega)
  walk_at "w"
  refine ⟨rfl, fun s hs0 hs => ?_⟩
  walk_at "w"
  refine ⟨_, _, rfl, by have := ht.c1; omega, lt_ltx (show c.natAbs < 2 ^ 4 by have := ht.c1; have := ht.c2; omega) (by decide), ?_⟩
  walk_at "w"
  refine ⟨_, _, _, _, rfl, hs, ha, by omega, trivial, ?_⟩
  walk_at "w"
  refine ⟨_, _, rfl, by have := ht.c1; omega, lt_ltx (show c.natAbs < 2 ^ 4 by have := ht.c1; have := ht.c2; omega) (by decide), ?_⟩
  walk_at "w"
  refine ⟨_, _, _, _, rfl, hs, hb, by omega, trivial, ?_⟩
  walk_at "w"
  refine ⟨_, rfl, by decide, lt_9000 (by decide) (by decide), fun r r1 r2 => ?_⟩
  walk_at "w"
  refine yn (fun h => ?_) (fun h => ?_)
  · walk_at "w"
    refine ⟨_, rfl, ?_⟩
    walk_at "w"
    exact q _ _ _ _ (hs.mul ha) (hs.mul hb) (hs.mul hb) (hs.mul ha).neg (det_a ht.one hs0)
  · walk_at "w"
    refine ⟨_, rfl, ?_⟩
    walk_at "w"
    exact q _ _ _ _ (hs.mul ha) (hs.mul hb).neg (hs.mul hb) (hs.mul ha) (det_b ht.one hs0)
theorem det_f {d u l s : Rat} (h1 : d ≠ 0) (h2 : s ≠ 0) : d * (l * (d * u) + s) - d * u * (l * d) ≠ 0 := fun e => by
  have h3 : d * s = 0 := by grind
  exact mz h1 h2 h3
theorem det_g {d u l s : Rat} (h1 : d ≠ 0) (h2 : s ≠ 0) : l * d * (d * u) - (l * (d * u) + s) * d ≠ 0 := fun e => by
  have h3 : d * s = 0 := by grind
  exact mz h1 h2 h3
abbrev n__law_free_rows : List Str := ["stream", "d", "up", "low", "one", "two"]
abbrev s__law_free_rows : Stmt := top 113
theorem sc__law_free_rows : FnScope ["stream", "d", "up", "low", "one", "two"] ["stream"] (defScope s__law_free_rows) := ⟨rfl, rfl, rfl, by decide +kernel, rfl, by decide +kernel, by decide +kernel⟩
theorem h__law_free_rows (B : Bl mg) (d : DefAt K mg "_law_free_rows" s__law_free_rows []) (h__law_next : Has P w K mg base CX0 "_law_next" 1 [] (spOf K (some S) (c_next S))) (h__law_add : Has P w K mg base CX0 "_law_add" 3 [] (spOf K none (c_add))) (h__law_some : Has P w K mg base CX0 "_law_some" 3 [] (spOf K (some S) (c_some S))) (h__law_mul : Has P w K mg base CX0 "_law_mul" 3 [] (spOf K none (c_mul))) (h__law_frac : Has P w K mg base CX0 "_law_frac" 2 [] (spOf K none (c_reduced))) (h__law_pick : Has P w K mg base CX0 "_law_pick" 2 [] (spOf K (some S) (c_pick S))) (h__law_from : Has P w K mg base CX0 "_law_from" 2 [] (spOf K (some S) (c_from S))) : Has P w K mg base CX0 "_law_free_rows" 4 [] (spOf K (some S) (c_rows4 S 11)) := by
  refine d.pure sc__law_free_rows (fun _ _ _ _ _ _ us hl => match us, hl with | [_], _ => rfl) 5 rfl (fun as k ⟨e, _⟩ => by rw [e]; rfl) fun f cdv A outer s H E hr => ⟨_, (pss_cons (ps_set (i := 1) sc__law_free_rows.nd rfl (Or.inl rfl) (pe_has h__law_some (hr.mono (by decide)) pass0 (pa_cons (pv 0) pa_nil)))
      (pss_cons (ps_set (i := 2) sc__law_free_rows.nd rfl (Or.inl rfl) (pe_has h__law_frac (hr.mono (by decide)) pass0 (pa_cons (pe_has h__law_from (hr.mono (by decide)) pass0 (pa_cons (pv 0) (pa_cons (pe_un un_neg pe_int) (pa_cons pe_int pa_nil)))) (pa_cons (pe_has h__law_pick (hr.mono (by decide)) pass0 (pa_cons (pv 0) (pa_cons (pe_tup (pa_cons pe_int (pa_cons pe_int (pa_cons pe_int pa_nil)))) pa_nil))) pa_nil))))
      (pss_cons (ps_set (i := 3) sc__law_free_rows.nd rfl (Or.inl rfl) (pe_has h__law_frac (hr.mono (by decide)) pass0 (pa_cons (pe_has h__law_from (hr.mono (by decide)) pass0 (pa_cons (pv 0) (pa_cons (pe_un un_neg pe_int) (pa_cons pe_int pa_nil)))) (pa_cons (pe_has h__law_pick (hr.mono (by decide)) pass0 (pa_cons (pv 0) (pa_cons (pe_tup (pa_cons pe_int (pa_cons pe_int (pa_cons pe_int pa_nil)))) pa_nil))) pa_nil))))
      (pss_cons (ps_set (i := 4) sc__law_free_rows.nd rfl (Or.inl rfl) (pe_tup (pa_cons (pv 1) (pa_cons (pe_has h__law_mul (hr.mono (by decide)) pass0 (pa_cons (pv 1) (pa_cons (pv 2) pa_nil))) pa_nil))))
      (pss_cons (ps_set (i := 5) sc__law_free_rows.nd rfl (Or.inl rfl) (pe_tup (pa_cons (pe_has h__law_mul (hr.mono (by decide)) pass0 (pa_cons (pv 3) (pa_cons (pe_ix (kIx (K := K)) (pv 4) pe_int (fun _ _ => rfl)) pa_nil))) (pa_cons (pe_has h__law_add (hr.mono (by decide)) pass0 (pa_cons (pe_has h__law_mul (hr.mono (by decide)) pass0 (pa_cons (pv 3) (pa_cons (pe_ix (kIx (K := K)) (pv 4) pe_int (fun _ _ => rfl)) pa_nil))) (pa_cons (pe_has h__law_some (hr.mono (by decide)) pass0 (pa_cons (pv 0) pa_nil)) pa_nil))) pa_nil))))
      (pss_one (ps_ret (pe_ifExp (pt_cmpR (kEq (K := K) hr.units) (pe_has h__law_next (hr.mono (by decide)) pass0 (pa_cons (pv 0) (pa_cons pe_int pa_nil))) pe_int (nomark _)) (pe_op (kAdd (K := K)) (pv 5) (pv 4)) (pe_op (kAdd (K := K)) (pv 4) (pv 5)))))))))), fun as k hc => ?_⟩
  try dsimp only [cxOf]
  clear hr E H s outer A cdv f d B
  obtain ⟨rfl, q⟩ := hc
  simp only [st0, List.map_cons, List.map_nil, List.replicate, List.cons_append, List.nil_append]
  walk_at "w"
  refine ⟨rfl, fun x hx0 hx => ?_⟩
  walk_at "w"
  refine ⟨_, _, rfl, by decide, by decide, fun r r1 r2 => ?_⟩
  walk_at "w"
  refine ⟨_, _, rfl, .inl rfl, by decide, by decide, fun d hd => ?_⟩
  obtain ⟨m, rfl, m1, m2⟩ := okIs (lo := 1) (hi := 2) (by decide) hd
  walk_at "w"
  refine ⟨_, _, rfl, by omega, lt_ltx (show m.natAbs < 2 ^ 5 by omega) (by decide), ?_⟩
  walk_at "w"
  refine ⟨_, _, rfl, by decide, by decide, fun t t1 t2 => ?_⟩
  walk_at "w"
  refine ⟨_, _, rfl, .inl rfl, by decide, by decide, fun d hd => ?_⟩
  obtain ⟨n, rfl, n1, n2⟩ := okIs (lo := 1) (hi := 3) (by decide) hd
  walk_at "w"
  refine ⟨_, _, rfl, by omega, lt_ltx (show n.natAbs < 2 ^ 5 by omega) (by decide), ?_⟩
  walk_at "w"
  have hu : Sz 2 (Rat.divInt r m) := szd (by omega) (by omega) (by omega)
  have hl : Sz 2 (Rat.divInt t n) := szd (by omega) (by omega) (by omega)
  refine ⟨_, _, _, _, rfl, hx, hu, by omega, trivial, ?_⟩
  walk_at "w"
  refine ⟨_, _, _, _, rfl, hl, hx, by omega, trivial, ?_⟩
  walk_at "w"
  refine ⟨_, _, _, _, rfl, hl, (hx.mul hu), by omega, trivial, ?_⟩
  walk_at "w"
  refine ⟨rfl, fun s hs0 hs => ?_⟩
  walk_at "w"
  refine ⟨_, _, _, _, rfl, (hl.mul (hx.mul hu)), hs, by omega, trivial, ?_⟩
  walk_at "w"
  refine ⟨_, rfl, by decide, lt_9000 (by decide) (by decide), fun v r1 r2 => ?_⟩
  walk_at "w"
  have z1 : Sz 11 (Rat.divInt t n * (x * Rat.divInt r m) + s) := (hl.mul (hx.mul hu)).add hs
  refine yn (fun h => ?_) (fun h => ?_)
  · walk_at "w"
    exact q _ _ _ _ ((hl.mul hx).mono (by decide)) z1 (hx.mono (by decide)) ((hx.mul hu).mono (by decide)) (det_g hx0 hs0)
  · walk_at "w"
    exact q _ _ _ _ (hx.mono (by decide)) ((hx.mul hu).mono (by decide)) ((hl.mul hx).mono (by decide)) z1 (det_f hx0 hs0)
/-- rows of four whole numbers -/
def okQ : D → Bool
  | .tuple [.int a, .int b, .int c, .int d] => decide (a.natAbs ≤ 7) && (decide (b.natAbs ≤ 7) && (decide (c.natAbs ≤ 7) && (decide (d.natAbs ≤ 7) && decide (a * d - b * c ≠ 0))))
  | _ => false
theorem sz_i {n : Int} {b : Nat} (h : n.natAbs < 2 ^ b) (h0 : 1 ≤ b) : Sz b (n : Rat) := by
  refine ⟨h, ?_⟩
  show 1 < 2 ^ b
  calc 1 < 2 ^ 1 := by decide
    _ ≤ 2 ^ b := Nat.pow_le_pow_right (by decide) h0
theorem okQs {ds : List D} (h : ds.all okQ = true) {d : D} (hd : d ∈ ds) : ∃ a b c e : Int, d = .tuple [.int a, .int b, .int c, .int e] ∧ Sz 3 (a : Rat) ∧ Sz 3 (b : Rat) ∧ Sz 3 (c : Rat) ∧ Sz 3 (e : Rat) ∧ (a : Rat) * e - b * c ≠ 0 := by
  have h1 := List.all_eq_true.mp h d hd
  match d, h1 with
  | .tuple [.int a, .int b, .int c, .int e], h1 =>
    have h2 : (decide (a.natAbs ≤ 7) && (decide (b.natAbs ≤ 7) && (decide (c.natAbs ≤ 7) && (decide (e.natAbs ≤ 7) && decide (a * e - b * c ≠ 0))))) = true := h1
    rw [Bool.and_eq_true, Bool.and_eq_true, Bool.and_eq_true, Bool.and_eq_true] at h2
    obtain ⟨g1, g2, g3, g4, g5⟩ := h2
    have g1 := of_decide_eq_true g1
    have g2 := of_decide_eq_true g2
    have g3 := of_decide_eq_true g3
    have g4 := of_decide_eq_true g4
    refine ⟨a, b, c, e, rfl, sz_i (by omega) (by decide), sz_i (by omega) (by decide), sz_i (by omega) (by decide), sz_i (by omega) (by decide), fun z => of_decide_eq_true g5 ?_⟩
    rw [← Rat.intCast_mul, ← Rat.intCast_mul, ← Rat.intCast_sub] at z
    exact_mod_cast z
theorem Fq_int (n : Int) : Fq (n : Rat) = .tuple [.int n, .int 1] := rfl
theorem div_le {n d : Int} (hd : d ≠ 0) : (Rat.divInt n d).num.natAbs ≤ n.natAbs ∧ (Rat.divInt n d).den ≤ d.natAbs := by
  have h1 : ∀ N : Nat, 0 < N → True := fun _ _ => trivial
  refine ⟨?_, ?_⟩
  · rw [Rat.num_divInt]
    have h2 : (d.sign * n / ((d.gcd n : Nat) : Int)).natAbs ≤ (d.sign * n).natAbs := Int.natAbs_ediv_le_natAbs _ _
    have h3 : (d.sign * n).natAbs ≤ n.natAbs := by
      rw [Int.natAbs_mul]
      have : d.sign.natAbs ≤ 1 := by
        rcases Int.lt_trichotomy d 0 with h | h | h
        · rw [Int.sign_eq_neg_one_of_neg h]; decide
        · rw [h]; decide
        · rw [Int.sign_eq_one_of_pos h]; decide
      exact Nat.le_trans (Nat.mul_le_mul_right _ this) (Nat.le_of_eq (Nat.one_mul _))
    exact Nat.le_trans h2 h3
  · rw [Rat.den_divInt, if_neg hd]
    exact Nat.div_le_self _ _
def Sm (q : Rat) : Prop := q.num.natAbs ≤ 2 ^ 4 ∧ q.den ≤ 2 ^ 2
theorem sm_div {n d : Int} (h1 : n.natAbs ≤ 9) (h2 : 1 ≤ d) (h3 : d ≤ 3) : Sm (Rat.divInt n d) := by
  obtain ⟨g1, g2⟩ := div_le (n := n) (show d ≠ 0 by omega)
  exact ⟨by omega, by omega⟩
def c_ltrans (s : Zs) : Con := fun as k => as = [.o (.ref s.a)] ∧ ∀ t : Tf, TS 11 5 t → Sm t.e → Sm t.f → t.det ≠ 0 → k (tfD t)
abbrev n__law_transform : List Str := ["stream", "kind", "rows", "told", "n"]
abbrev s__law_transform : Stmt := top 114
theorem sc__law_transform : FnScope ["stream", "kind", "rows", "told", "n"] ["stream"] (defScope s__law_transform) := ⟨rfl, rfl, rfl, by decide +kernel, rfl, by decide +kernel, by decide +kernel⟩
theorem h__law_transform (B : Bl mg) (d : DefAt K mg "_law_transform" s__law_transform []) (h__law_frac : Has P w K mg base CX0 "_law_frac" 2 [] (spOf K none (c_reduced))) (h__law_pick : Has P w K mg base CX0 "_law_pick" 2 [] (spOf K (some S) (c_pick S))) (h__law_from : Has P w K mg base CX0 "_law_from" 2 [] (spOf K (some S) (c_from S))) (h__law_alike_rows : Has P w K mg base CX0 "_law_alike_rows" 4 [] (spOf K (some S) (c_rows4 S 7))) (h__law_free_rows : Has P w K mg base CX0 "_law_free_rows" 4 [] (spOf K (some S) (c_rows4 S 11))) (h__law_next : Has P w K mg base CX0 "_law_next" 1 [] (spOf K (some S) (c_next S))) : Has P w K mg base CX0 "_law_transform" 5 [] (spOf K (some S) (c_ltrans S)) := by
  refine d.pure sc__law_transform (fun _ _ _ _ _ _ us hl => match us, hl with | [_], _ => rfl) 4 rfl (fun as k ⟨e, _⟩ => by rw [e]; rfl) fun f cdv A outer s H E hr => ⟨_, (pss_cons (ps_set (i := 1) sc__law_transform.nd rfl (Or.inl rfl) (pe_has h__law_next (hr.mono (by decide)) pass0 (pa_cons (pv 0) (pa_cons pe_int pa_nil))))
      (pss_cons (ps_if (pt_cmpR (kEq (K := K) hr.units) (pv 1) pe_int (nomark _)) (pss_one (ps_set (i := 2) sc__law_transform.nd rfl (Or.inl rfl) (pe_has h__law_alike_rows (hr.mono (by decide)) pass0 (pa_cons (pv 0) pa_nil)))) (pss_one (ps_if (pt_cmpR (kEq (K := K) hr.units) (pv 1) pe_int (nomark _)) (pss_cons (ps_set (i := 3) sc__law_transform.nd rfl (Or.inl rfl) (pe_has h__law_pick (hr.mono (by decide)) pass0 (pa_cons (pv 0) (pa_cons (pe_tup (pa_cons (pe_tup (pa_cons pe_int (pa_cons pe_int (pa_cons pe_int (pa_cons pe_int pa_nil))))) (pa_cons (pe_tup (pa_cons pe_int (pa_cons pe_int (pa_cons pe_int (pa_cons pe_int pa_nil))))) (pa_cons (pe_tup (pa_cons (pe_un un_neg pe_int) (pa_cons pe_int (pa_cons pe_int (pa_cons pe_int pa_nil))))) (pa_cons (pe_tup (pa_cons pe_int (pa_cons pe_int (pa_cons pe_int (pa_cons pe_int pa_nil))))) (pa_cons (pe_tup (pa_cons pe_int (pa_cons (pe_un un_neg pe_int) (pa_cons pe_int (pa_cons pe_int pa_nil))))) (pa_cons (pe_tup (pa_cons pe_int (pa_cons pe_int (pa_cons pe_int (pa_cons pe_int pa_nil))))) (pa_cons (pe_tup (pa_cons pe_int (pa_cons pe_int (pa_cons (pe_un un_neg pe_int) (pa_cons pe_int pa_nil))))) pa_nil)))))))) pa_nil))))
      (pss_one (ps_set (i := 2) sc__law_transform.nd rfl (Or.inl rfl) (pe_callTy (kTup (K := K)) (by rfl) B.tuple (by decide +kernel) (pa_cons (pe_lc (own := [("n", 4)]) (g := gName 4) (tt := tYes) rfl sc__law_transform.nd (kiTup (K := K) (pv 3)) (blkOk_by (own := [("n", 4)]) (N := n__law_transform) (sc := defScope s__law_transform) (by decide +kernel)) (fun _ _ _ _ _ => (pg_name (i := 4) sc__law_transform.nd rfl (Or.inl rfl))) (fun _ _ _ _ _ => pts_nil) (fun _ _ _ _ _ => (pe_tup (pa_cons (pv 4) (pa_cons pe_int pa_nil))))) pa_nil))))) (pss_one (ps_set (i := 2) sc__law_transform.nd rfl (Or.inl rfl) (pe_has h__law_free_rows (hr.mono (by decide)) pass0 (pa_cons (pv 0) pa_nil)))))))
      (pss_one (ps_ret (pe_op (kAdd (K := K)) (pv 2) (pe_tup (pa_cons (pe_has h__law_frac (hr.mono (by decide)) pass0 (pa_cons (pe_has h__law_from (hr.mono (by decide)) pass0 (pa_cons (pv 0) (pa_cons (pe_un un_neg pe_int) (pa_cons pe_int pa_nil)))) (pa_cons (pe_has h__law_pick (hr.mono (by decide)) pass0 (pa_cons (pv 0) (pa_cons (pe_tup (pa_cons pe_int (pa_cons pe_int (pa_cons pe_int pa_nil)))) pa_nil))) pa_nil))) (pa_cons (pe_has h__law_frac (hr.mono (by decide)) pass0 (pa_cons (pe_has h__law_from (hr.mono (by decide)) pass0 (pa_cons (pv 0) (pa_cons (pe_un un_neg pe_int) (pa_cons pe_int pa_nil)))) (pa_cons (pe_has h__law_pick (hr.mono (by decide)) pass0 (pa_cons (pv 0) (pa_cons (pe_tup (pa_cons pe_int (pa_cons pe_int (pa_cons pe_int pa_nil)))) pa_nil))) pa_nil))) pa_nil)))))))), fun as k hc => ?_⟩
  try dsimp only [cxOf]
  clear hr E H s outer A cdv f d B
  obtain ⟨rfl, q⟩ := hc
  simp only [st0, List.map_cons, List.map_nil, List.replicate, List.cons_append, List.nil_append]
  walk_at "w"
  refine ⟨_, rfl, by decide, lt_9000 (by decide) (by decide), fun r r1 r2 => ?_⟩
  walk_at "w"
  refine yn (fun h => ?_) (fun h => ?_)
  · walk_at "w"
    refine ⟨rfl, fun a b c e ha hb hc he h0 => ?_⟩
    walk_at "w"
    refine ⟨_, _, rfl, by decide, by decide, fun u u1 u2 => ?_⟩
    walk_at "w"
    refine ⟨_, _, rfl, .inl rfl, by decide, by decide, fun d hd => ?_⟩
    obtain ⟨m, rfl, m1, m2⟩ := okIs (lo := 1) (hi := 2) (by decide) hd
    walk_at "w"
    refine ⟨_, _, rfl, by omega, lt_ltx (show m.natAbs < 2 ^ 5 by omega) (by decide), ?_⟩
    walk_at "w"
    refine ⟨_, _, rfl, by decide, by decide, fun v v1 v2 => ?_⟩
    walk_at "w"
    refine ⟨_, _, rfl, .inl rfl, by decide, by decide, fun d hd => ?_⟩
    obtain ⟨n, rfl, n1, n2⟩ := okIs (lo := 1) (hi := 3) (by decide) hd
    walk_at "w"
    refine ⟨_, _, rfl, by omega, lt_ltx (show n.natAbs < 2 ^ 5 by omega) (by decide), ?_⟩
    walk_at "w"
    exact q ⟨a, b, c, e, _, _⟩ ⟨ha.mono (by decide), hb.mono (by decide), hc.mono (by decide), he.mono (by decide), szd (by omega) (by omega) (by omega), szd (by omega) (by omega) (by omega)⟩ (sm_div (by omega) (by omega) (by omega)) (sm_div (by omega) (by omega) (by omega)) h0
  · walk_at "w"
    refine yn (fun h => ?_) (fun h => ?_)
    · walk_at "w"
      refine ⟨_, _, rfl, .inl rfl, by decide, by decide, fun d hd => ?_⟩
      obtain ⟨a, b, c, e, rfl, ha, hb, hc, he, h0⟩ := okQs (by decide) hd
      walk_at "w"
      refine ⟨_, _, rfl, by decide, by decide, fun u u1 u2 => ?_⟩
      walk_at "w"
      refine ⟨_, _, rfl, .inl rfl, by decide, by decide, fun d hd => ?_⟩
      obtain ⟨m, rfl, m1, m2⟩ := okIs (lo := 1) (hi := 2) (by decide) hd
      walk_at "w"
      refine ⟨_, _, rfl, by omega, lt_ltx (show m.natAbs < 2 ^ 5 by omega) (by decide), ?_⟩
      walk_at "w"
      refine ⟨_, _, rfl, by decide, by decide, fun v v1 v2 => ?_⟩
      walk_at "w"
      refine ⟨_, _, rfl, .inl rfl, by decide, by decide, fun d hd => ?_⟩
      obtain ⟨n, rfl, n1, n2⟩ := okIs (lo := 1) (hi := 3) (by decide) hd
      walk_at "w"
      refine ⟨_, _, rfl, by omega, lt_ltx (show n.natAbs < 2 ^ 5 by omega) (by decide), ?_⟩
      walk_at "w"
      exact q ⟨(a : Rat), (b : Rat), (c : Rat), (e : Rat), _, _⟩ ⟨ha.mono (by decide), hb.mono (by decide), hc.mono (by decide), he.mono (by decide), szd (by omega) (by omega) (by omega), szd (by omega) (by omega) (by omega)⟩ (sm_div (by omega) (by omega) (by omega)) (sm_div (by omega) (by omega) (by omega)) h0
    · walk_at "w"
      refine ⟨rfl, fun a b c e ha hb hc he h0 => ?_⟩
      walk_at "w"
      refine ⟨_, _, rfl, by decide, by decide, fun u u1 u2 => ?_⟩
      walk_at "w"
      refine ⟨_, _, rfl, .inl rfl, by decide, by decide, fun d hd => ?_⟩
      obtain ⟨m, rfl, m1, m2⟩ := okIs (lo := 1) (hi := 2) (by decide) hd
      walk_at "w"
      refine ⟨_, _, rfl, by omega, lt_ltx (show m.natAbs < 2 ^ 5 by omega) (by decide), ?_⟩
      walk_at "w"
      refine ⟨_, _, rfl, by decide, by decide, fun v v1 v2 => ?_⟩
      walk_at "w"
      refine ⟨_, _, rfl, .inl rfl, by decide, by decide, fun d hd => ?_⟩
      obtain ⟨n, rfl, n1, n2⟩ := okIs (lo := 1) (hi := 3) (by decide) hd
      walk_at "w"
      refine ⟨_, _, rfl, by omega, lt_ltx (show n.natAbs < 2 ^ 5 by omega) (by decide), ?_⟩
      walk_at "w"
      exact q ⟨a, b, c, e, _, _⟩ ⟨ha, hb, hc, he, szd (by omega) (by omega) (by omega), szd (by omega) (by omega) (by omega)⟩ (sm_div (by omega) (by omega) (by omega)) (sm_div (by omega) (by omega) (by omega)) h0
theorem wFig_div {n d : Int} {k : Nat} (hd : d ≠ 0) (h1 : n.natAbs < 10 ^ k) (h2 : d.natAbs < 10 ^ k) : wFig k (Rat.divInt n d) = true := by
  obtain ⟨g1, g2⟩ := div_le (n := n) hd
  unfold wFig
  rw [decide_eq_true (Nat.lt_of_le_of_lt g1 h1), decide_eq_true (Nat.lt_of_le_of_lt g2 h2)]
  rfl
def c_great (s : Zs) : Con := fun as k => ∃ n : Nat, as = [.o (.ref s.a), .i (.int (n : Int))] ∧ (n = 150 ∨ n = 300) ∧ ∀ q : Rat, wFig n q = true → k (Fq q)
def tenB : Int := 10 ^ 150
def tenC : Int := 10 ^ 300
theorem tenB_is : (10 : Int) ^ (50 : Int).toNat * (10 : Int) ^ (50 : Int).toNat * (10 : Int) ^ (50 : Int).toNat = tenB := by decide +kernel
theorem tenC_is : tenB * tenB = tenC := by decide +kernel
theorem tenB_n : tenB = ((10 ^ 150 : Nat) : Int) := by decide +kernel
theorem tenC_n : tenC = ((10 ^ 300 : Nat) : Int) := by decide +kernel
theorem tenB_b : tenB.natAbs < 2 ^ 499 := by decide +kernel
theorem tenC_b : tenC.natAbs < 2 ^ 997 := by decide +kernel
theorem tenB_0 : 2000 < tenB := by decide +kernel
theorem tenC_0 : 2000 < tenC := by decide +kernel
abbrev n__law_great_number : List Str := ["stream", "figures", "ten"]
abbrev s__law_great_number : Stmt := top 116
theorem sc__law_great_number : FnScope ["stream", "figures", "ten"] ["stream", "figures"] (defScope s__law_great_number) := ⟨rfl, rfl, rfl, by decide +kernel, rfl, by decide +kernel, by decide +kernel⟩
theorem h__law_great_number (B : Bl mg) (d : DefAt K mg "_law_great_number" s__law_great_number []) (h__law_frac : Has P w K mg base CX0 "_law_frac" 2 [] (spOf K none (c_reduced))) (h__law_next : Has P w K mg base CX0 "_law_next" 1 [] (spOf K (some S) (c_next S))) (h__law_pick : Has P w K mg base CX0 "_law_pick" 2 [] (spOf K (some S) (c_pick S))) : Has P w K mg base CX0 "_law_great_number" 3 [] (spOf K (some S) (c_great S)) := by
  refine d.pure sc__law_great_number (fun _ _ _ _ _ _ us hl => match us, hl with | [_, _], _ => rfl) 1 rfl (fun as k ⟨_, e, _⟩ => by rw [e]; rfl) fun f cdv A outer s H E hr => ⟨_, (pss_cons (ps_set (i := 2) sc__law_great_number.nd rfl (Or.inl rfl) (pe_op op_mulG (pe_op op_mulG (pe_op op_pow pe_int pe_int) (pe_op op_pow pe_int pe_int)) (pe_op op_pow pe_int pe_int)))
      (pss_cons (ps_if (pt_cmpR (kEq (K := K) hr.units) (pv 1) pe_int (nomark _)) (pss_one (ps_set (i := 2) sc__law_great_number.nd rfl (Or.inl rfl) (pe_op op_mulG (pv 2) (pv 2)))) pss_nil)
      (pss_one (ps_ret (pe_has h__law_frac (hr.mono (by decide)) pass0 (pa_cons (pe_op op_mulG (pe_has h__law_pick (hr.mono (by decide)) pass0 (pa_cons (pv 0) (pa_cons (pe_tup (pa_cons pe_int (pa_cons (pe_un un_neg pe_int) pa_nil))) pa_nil))) (pe_op op_sub (pe_op op_sub (pv 2) pe_int) (pe_has h__law_next (hr.mono (by decide)) pass0 (pa_cons (pv 0) (pa_cons pe_int pa_nil))))) (pa_cons (pe_op op_sub (pe_op op_sub (pv 2) pe_int) (pe_has h__law_next (hr.mono (by decide)) pass0 (pa_cons (pv 0) (pa_cons pe_int pa_nil)))) pa_nil))))))), fun as k hc => ?_⟩
  try dsimp only [cxOf]
  clear hr E H s outer A cdv f d B
  obtain ⟨n, rfl, hn, q⟩ := hc
  simp only [st0, List.map_cons, List.map_nil, List.replicate, List.cons_append, List.nil_append]
  walk_at "w"
  refine rb_c ⟨by decide, by decide, by decide⟩ ?_
  walk_at "w"
  refine rb_c ⟨by decide, by decide, by decide⟩ ?_
  walk_at "w"
  refine b_mulI (mulx (a := 167) (b := 167) (by decide) (by decide) (by decide)) ?_
  walk_at "w"
  refine rb_c ⟨by decide, by decide, by decide⟩ ?_
  walk_at "w"
  refine b_mulI (mulx (a := 334) (b := 167) (by decide +kernel) (by decide) (by decide)) ?_
  rw [tenB_is]
  walk_at "w"
  rcases hn with rfl | rfl
  · refine yn (fun h => absurd h (by decide)) (fun _ => ?_)
    walk_at "w"
    refine ⟨_, _, rfl, .inl rfl, by decide, by decide, fun d hd => ?_⟩
    obtain ⟨s, rfl, s1, s2⟩ := okIs (lo := -1) (hi := 1) (by decide) hd
    walk_at "w"
    refine ⟨_, rfl, by decide, lt_9000 (by decide) (by decide), fun r r1 r2 => ?_⟩
    walk_at "w"
    have t0 := tenB_0
    have tb := tenB_b
    have tn : tenB.natAbs = 10 ^ 150 := by rw [tenB_n, Int.natAbs_natCast]
    have u1 : (tenB - 1 - r).natAbs < tenB.natAbs := by omega
    refine b_mulI (mulx (a := 1) (b := 499) (by omega) (Nat.lt_trans u1 tb) (by decide)) ?_
    walk_at "w"
    refine ⟨_, rfl, by decide, lt_9000 (by decide) (by decide), fun v v1 v2 => ?_⟩
    walk_at "w"
    have u2 : (tenB - 1 - v).natAbs < tenB.natAbs := by omega
    have u3 : (s * (tenB - 1 - r)).natAbs < tenB.natAbs := by
      rw [Int.natAbs_mul]
      have : s.natAbs * (tenB - 1 - r).natAbs ≤ 1 * (tenB - 1 - r).natAbs := Nat.mul_le_mul_right _ (by omega)
      omega
    rw [tn] at u2 u3
    refine ⟨_, _, rfl, by omega, lt_ltx (b := 9000) (Nat.lt_trans (by rw [← tn] at u2; exact u2) tb) (by decide), q _ (wFig_div (by omega) u3 u2)⟩
  · refine yn (fun _ => ?_) (fun h => absurd rfl h)
    walk_at "w"
    refine b_mulI (mulx (a := 499) (b := 499) tenB_b tenB_b (by decide)) ?_
    rw [tenC_is]
    walk_at "w"
    refine ⟨_, _, rfl, .inl rfl, by decide, by decide, fun d hd => ?_⟩
    obtain ⟨s, rfl, s1, s2⟩ := okIs (lo := -1) (hi := 1) (by decide) hd
    walk_at "w"
    refine ⟨_, rfl, by decide, lt_9000 (by decide) (by decide), fun r r1 r2 => ?_⟩
    walk_at "w"
    have t0 := tenC_0
    have tb := tenC_b
    have tn : tenC.natAbs = 10 ^ 300 := by rw [tenC_n, Int.natAbs_natCast]
    have u1 : (tenC - 1 - r).natAbs < tenC.natAbs := by omega
    refine b_mulI (mulx (a := 1) (b := 997) (by omega) (Nat.lt_trans u1 tb) (by decide)) ?_
    walk_at "w"
    refine ⟨_, rfl, by decide, lt_9000 (by decide) (by decide), fun v v1 v2 => ?_⟩
    walk_at "w"
    have u2 : (tenC - 1 - v).natAbs < tenC.natAbs := by omega
    have u3 : (s * (tenC - 1 - r)).natAbs < tenC.natAbs := by
      rw [Int.natAbs_mul]
      have : s.natAbs * (tenC - 1 - r).natAbs ≤ 1 * (tenC - 1 - r).natAbs := Nat.mul_le_mul_right _ (by omega)
      omega
    rw [tn] at u2 u3
    refine ⟨_, _, rfl, by omega, lt_ltx (b := 9000) (Nat.lt_trans (by rw [← tn] at u2; exact u2) tb) (by decide), q _ (wFig_div (by omega) u3 u2)⟩
end K88
/-! T15 -/
namespace K88
open PySem PySem.Spec PyProof.Rows L2 AL
local macro_rules | `(tactic| walk_at "bd") => `(tactic| first
  | assumption
  | (apply Sz.n; assumption)
  | (apply Sz.d; assumption)
  | ((with_reducible apply lt_mul); (case h1 => walk_at "bd"); (case h2 => walk_at "bd"))
  | ((with_reducible apply lt_addx); (case h1 => walk_at "bd"); (case h2 => walk_at "bd"))
  | ((with_reducible apply lt_subx); (case h1 => walk_at "bd"); (case h2 => walk_at "bd"))
  | ((with_reducible apply lt_neg); (case h => walk_at "bd")))
local macro_rules | `(tactic| walk_at "nz") => `(tactic| first
  | assumption
  | exact dnz _
  | ((with_reducible apply inz); (case h1 => walk_at "nz"); (case h2 => walk_at "nz")))
local macro_rules | `(tactic| walk_at "w") => `(tactic| repeat (first
  | with_reducible apply w_int
  | ((with_reducible apply w_var); (case h => exact rfl))
  | with_reducible apply wl_cons
  | with_reducible apply wl_nil
  | ((with_reducible refine And.intro (Nat.le_of_ble_eq_true ?hlen) ?_); (case hlen => exact rfl))
  | with_reducible apply w_tup
  | with_reducible apply w_op
  | with_reducible apply s_seq
  | ((with_reducible apply wa_consO); (case h => exact rfl))
  | with_reducible apply wa_cons
  | with_reducible apply wa_nil
  | with_reducible apply ru_i
  | with_reducible apply w_un
  | with_reducible apply s_asg
  | with_reducible apply w_call0
  | with_reducible apply w_callD2
  | with_reducible apply w_callD1
  | ((with_reducible apply w_callX0); (case hz => exact rfl))
  | ((with_reducible apply w_callXS); (case hz => exact rfl))
  | with_reducible apply w_callZ
  | with_reducible apply b_addI
  | ((with_reducible apply rb_ixT); (case e => exact rfl))
  | ((with_reducible apply rb_ixL); (case e => exact rfl))
  | with_reducible apply w_str
  | with_reducible apply w_lst
  | with_reducible apply w_sl
  | with_reducible apply o_none
  | with_reducible apply o_some
  | with_reducible apply sG_T
  | with_reducible apply sG_L
  | ((with_reducible apply s_app); (case e => exact rfl))
  | with_reducible apply s_drop
  | with_reducible apply w_if
  | with_reducible apply p_if
  | with_reducible apply t_test
  | with_reducible apply b_eqI
  | with_reducible apply s_next
  | with_reducible apply p_ret
  | ((with_reducible apply b_mulI); (case hc => (apply mulx; (case h1 => walk_at "bd"); (case h2 => walk_at "bd"); (case h => omega))))
  | with_reducible apply b_sub
  | with_reducible apply s_raiseK
  | with_reducible apply w_isT
  | with_reducible apply w_isL
  | with_reducible apply w_isI
  | with_reducible apply w_isB
  | with_reducible apply w_isS
  | with_reducible apply w_isN
  | with_reducible apply w_notN
  | with_reducible apply w_or
  | with_reducible apply w_and
  | with_reducible apply w_not
  | with_reducible apply w_chain
  | with_reducible apply w_cb
  | with_reducible apply t_or
  | with_reducible apply t_and
  | with_reducible apply t_not
  | with_reducible apply t_yes
  | ((with_reducible apply b_addT); (case hz => exact Nat.le_of_ble_eq_true rfl))
  | ((with_reducible apply b_addL); (case hz => exact Nat.le_of_ble_eq_true rfl))
  | with_reducible apply s_break
  | with_reducible apply rb_b
  | with_reducible apply t_truthI
  | with_reducible apply b_neI
  | with_reducible apply b_eqS
  | with_reducible apply b_eqB
  | with_reducible apply b_neB
  | with_reducible apply w_bl
  | with_reducible apply w_non
  | with_reducible apply t_B
  | with_reducible apply m_lst
  | with_reducible apply m_cat
  | with_reducible apply m_list
  | with_reducible apply w_lcLU
  | with_reducible apply w_lcTU
  | with_reducible apply s_forTU
  | with_reducible apply s_forLU
  | (with_reducible apply lcU_nil)
  | (with_reducible apply unr_nil)
  | with_reducible apply unr_one
  | ((with_reducible show LcU _ _ _ _ _ _ _ _ _); (refine lcU_one rfl (Nat.lt_of_succ_le (Nat.le_of_ble_eq_true rfl)) ?_))
  | ((with_reducible show (_ = true → _) ∧ (_ = false → _)); (first | refine ybt rfl ?_ | refine ybf rfl ?_))
  | ((with_reducible show (_ = false → _) ∧ (_ = true → _)); (first | refine obt rfl ?_ | refine obf rfl ?_))
  | with_reducible apply yt
  | with_reducible apply yf
  | with_reducible apply fy
  | with_reducible apply ft
  | ((with_reducible apply f_frz); (case e => exact rfl))
  | with_reducible apply s_asgG
  | (refine Exists.intro _ (And.intro (g_lst (by repeat (first | exact gs_nil | apply gs_one)) rfl) ?_))
  | (refine Exists.intro _ (And.intro (g_tup (by repeat (first | exact gs_nil | apply gs_one)) rfl) ?_))
  | with_reducible apply c_lenL
  | with_reducible apply c_lenT
  | with_reducible apply c_listL
  | with_reducible apply c_listT
  | with_reducible apply c_tupL
  | with_reducible apply c_abs
  | with_reducible apply c_int
  | with_reducible apply c_min
  | with_reducible apply rc_gcd
  | with_reducible apply rb_b
  | (refine And.intro (Nat.lt_of_succ_le (Nat.le_of_ble_eq_true rfl)) ?_)
  | with_reducible refine Exists.intro _ (And.intro rfl ?_)
  | refine And.intro (Nat.le_of_ble_eq_true rfl) ?_
  ))
variable {P : Program} {w : World} {K : PySem.W.Frag} {mg : Str → Option Value} {base : Heap}
variable {S : Zs}
theorem tri_on (t : Tf) (p q r : Pt) : tri (t.on p) (t.on q) (t.on r) = t.det * tri p q r := by
  simp only [tri, Tf.on, Pt.sub, Pt.cr, Tf.det]
  grind
theorem perm_map {α β : Type} {f : α → β} : ∀ {xs es : List β}, xs.Perm es → ∀ l : List α, xs = l.map f → ∃ l' : List α, l.Perm l' ∧ es = l'.map f
  | _, _, .nil, l, e => by
    have : l = [] := by
      cases l with
      | nil => rfl
      | cons a l => cases e
    subst this
    exact ⟨[], .nil, rfl⟩
  | _, _, .cons x h, l, e => by
    cases l with
    | nil => cases e
    | cons a l =>
      injection e with e1 e2
      obtain ⟨l', h1, h2⟩ := perm_map h l e2
      exact ⟨a :: l', h1.cons a, by rw [e1, h2]; rfl⟩
  | _, _, .swap x y l0, l, e => by
    match l, e with
    | a :: b :: l, e =>
      injection e with e1 e2
      injection e2 with e2 e3
      exact ⟨b :: a :: l, .swap _ _ _, by rw [e1, e2, e3]; rfl⟩
  | _, _, .trans h1 h2, l, e => by
    obtain ⟨l1, g1, g2⟩ := perm_map h1 l e
    obtain ⟨l2, g3, g4⟩ := perm_map h2 l1 g2
    exact ⟨l2, g1.trans g3, g4⟩
theorem perm2 {α : Type} {b c q r : α} (h : [b, c].Perm [q, r]) : (b = q ∧ c = r) ∨ (b = r ∧ c = q) := by
  have hb : b ∈ [q, r] := h.subset List.mem_cons_self
  rcases List.mem_cons.mp hb with e | hb
  · subst e
    exact .inl ⟨rfl, by simpa using h.cons_inv⟩
  · have e : b = r := by simpa using hb
    subst e
    have h2 := h.trans (.swap _ _ _)
    exact .inr ⟨rfl, by simpa using h2.cons_inv⟩
theorem perm3 {α : Type} {a b c p q r : α} (h : [a, b, c].Perm [p, q, r]) : (a = p ∧ b = q ∧ c = r) ∨ (a = p ∧ b = r ∧ c = q) ∨ (a = q ∧ b = p ∧ c = r) ∨ (a = q ∧ b = r ∧ c = p) ∨ (a = r ∧ b = p ∧ c = q) ∨ (a = r ∧ b = q ∧ c = p) := by
  have ha : a ∈ [p, q, r] := h.subset List.mem_cons_self
  rcases List.mem_cons.mp ha with e | ha
  · subst e
    rcases perm2 h.cons_inv with ⟨e1, e2⟩ | ⟨e1, e2⟩
    · exact .inl ⟨rfl, e1, e2⟩
    · exact .inr (.inl ⟨rfl, e1, e2⟩)
  · rcases List.mem_cons.mp ha with e | ha
    · subst e
      rcases perm2 (h.trans (.swap _ _ _)).cons_inv with ⟨e1, e2⟩ | ⟨e1, e2⟩
      · exact .inr (.inr (.inl ⟨rfl, e1, e2⟩))
      · exact .inr (.inr (.inr (.inl ⟨rfl, e1, e2⟩)))
    · have e : a = r := by simpa using ha
      subst e
      have h2 : [p, q, a].Perm [a, p, q] := (List.Perm.cons p (.swap _ _ _)).trans (.swap _ _ _)
      rcases perm2 (h.trans h2).cons_inv with ⟨e1, e2⟩ | ⟨e1, e2⟩
      · exact .inr (.inr (.inr (.inr (.inl ⟨rfl, e1, e2⟩))))
      · exact .inr (.inr (.inr (.inr (.inr ⟨rfl, e1, e2⟩))))
theorem tri_swap (p q r : Pt) : tri q p r = - tri p q r := by
  simp only [tri, Pt.sub, Pt.cr]
  grind
theorem tri_rot (p q r : Pt) : tri p r q = - tri p q r := by
  simp only [tri, Pt.sub, Pt.cr]
  grind
theorem tri_perm {p q r a b c : Pt} (h : [a, b, c].Perm [p, q, r]) : tri a b c = tri p q r ∨ tri a b c = - tri p q r := by
  rcases perm3 h with ⟨rfl, rfl, rfl⟩ | ⟨rfl, rfl, rfl⟩ | ⟨rfl, rfl, rfl⟩ | ⟨rfl, rfl, rfl⟩ | ⟨rfl, rfl, rfl⟩ | ⟨rfl, rfl, rfl⟩ <;> simp only [tri, Pt.sub, Pt.cr] <;> grind
theorem shuf3 {p q r : Pt} {es : List D} (h : es.Perm [ptD p, ptD q, ptD r]) : ∃ a b c, es = [ptD a, ptD b, ptD c] ∧ [a, b, c].Perm [p, q, r] := by
  obtain ⟨l, h1, h2⟩ := perm_map (f := ptD) h.symm [p, q, r] rfl
  have hl := h1.length_eq
  obtain ⟨a, b, c, rfl⟩ := three hl.symm
  exact ⟨a, b, c, h2, h1.symm⟩
def c_lthree (s : Zs) : Con := fun as k => as = [.o (.ref s.a)] ∧ ∀ p q r : Pt, PSz 47 p → PSz 47 q → PSz 47 r → tri p q r ≠ 0 → k (th p q r)
abbrev n__law_three : List Str := ["stream", "p", "q", "r", "t", "one"]
abbrev s__law_three : Stmt := top 122
theorem sc__law_three : FnScope ["stream", "p", "q", "r", "t", "one"] ["stream"] (defScope s__law_three) := ⟨rfl, rfl, rfl, by decide +kernel, rfl, by decide +kernel, by decide +kernel⟩
theorem h__law_three (B : Bl mg) (d : DefAt K mg "_law_three" s__law_three []) (h__law_shuffled : Has P w K mg base CX0 "_law_shuffled" 2 [] (spOf K (some S) (c_shuf S))) (h__law_image : Has P w K mg base CX0 "_law_image" 5 [] (spOf K none (c_image))) (h__law_transform : Has P w K mg base CX0 "_law_transform" 5 [] (spOf K (some S) (c_ltrans S))) (h__law_add : Has P w K mg base CX0 "_law_add" 3 [] (spOf K none (c_add))) (h__law_some : Has P w K mg base CX0 "_law_some" 3 [] (spOf K (some S) (c_some S))) (h__law_point : Has P w K mg base CX0 "_law_point" 3 [] (spOf K (some S) (c_lpoint S))) : Has P w K mg base CX0 "_law_three" 6 [] (spOf K (some S) (c_lthree S)) := by
  refine d.pure sc__law_three (fun _ _ _ _ _ _ us hl => match us, hl with | [_], _ => rfl) 5 rfl (fun as k ⟨e, _⟩ => by rw [e]; rfl) fun f cdv A outer s H E hr => ⟨_, (pss_cons (ps_set (i := 1) sc__law_three.nd rfl (Or.inl rfl) (pe_has h__law_point (hr.mono (by decide)) pass0 (pa_cons (pv 0) pa_nil)))
      (pss_cons (ps_set (i := 2) sc__law_three.nd rfl (Or.inl rfl) (pe_tup (pa_cons (pe_has h__law_add (hr.mono (by decide)) pass0 (pa_cons (pe_ix (kIx (K := K)) (pv 1) pe_int (fun _ _ => rfl)) (pa_cons (pe_has h__law_some (hr.mono (by decide)) pass0 (pa_cons (pv 0) pa_nil)) pa_nil))) (pa_cons (pe_ix (kIx (K := K)) (pv 1) pe_int (fun _ _ => rfl)) pa_nil))))
      (pss_cons (ps_set (i := 3) sc__law_three.nd rfl (Or.inl rfl) (pe_tup (pa_cons (pe_ix (kIx (K := K)) (pe_has h__law_point (hr.mono (by decide)) pass0 (pa_cons (pv 0) pa_nil)) pe_int (fun _ _ => rfl)) (pa_cons (pe_has h__law_add (hr.mono (by decide)) pass0 (pa_cons (pe_ix (kIx (K := K)) (pv 1) pe_int (fun _ _ => rfl)) (pa_cons (pe_has h__law_some (hr.mono (by decide)) pass0 (pa_cons (pv 0) pa_nil)) pa_nil))) pa_nil))))
      (pss_cons (ps_set (i := 4) sc__law_three.nd rfl (Or.inr rfl) (pe_has h__law_transform (hr.mono (by decide)) pass0 (pa_cons (pv 0) pa_nil)))
      (pss_one (ps_ret (pe_lc (own := [("one", 5)]) (g := gName 5) (tt := tYes) rfl sc__law_three.nd (kiList (K := K) (pe_has h__law_shuffled (hr.mono (by decide)) pass0 (pa_cons (pv 0) (pa_cons (pe_lst (pa_cons (pv 1) (pa_cons (pv 2) (pa_cons (pv 3) pa_nil)))) pa_nil)))) (blkOk_by (own := [("one", 5)]) (N := n__law_three) (sc := defScope s__law_three) (by decide +kernel)) (fun _ _ _ _ _ => (pg_name (i := 5) sc__law_three.nd rfl (Or.inl rfl))) (fun _ _ _ _ _ => pts_nil) (fun _ _ _ _ _ => (pe_has h__law_image (hr.mono (by decide)) pass0 (pa_cons (pv 4) (pa_cons (pv 5) pa_nil))))))))))), fun as k hc => ?_⟩
  try dsimp only [cxOf]
  clear hr E H s outer A cdv f d B
  obtain ⟨rfl, kk⟩ := hc
  simp only [st0, List.map_cons, List.map_nil, List.replicate, List.cons_append, List.nil_append]
  walk_at "w"
  refine ⟨rfl, fun p hp => ?_⟩
  walk_at "w"
  refine ⟨rfl, fun x hx0 hx => ?_⟩
  walk_at "w"
  refine ⟨_, _, _, _, rfl, hp.1, hx, by omega, trivial, ?_⟩
  walk_at "w"
  refine ⟨rfl, fun o ho => ?_⟩
  walk_at "w"
  refine ⟨rfl, fun y hy0 hy => ?_⟩
  walk_at "w"
  refine ⟨_, _, _, _, rfl, hp.2, hy, by omega, trivial, ?_⟩
  walk_at "w"
  refine ⟨rfl, fun t ht _ _ hd => ?_⟩
  walk_at "w"
  have hq : PSz 9 ⟨p.x + x, p.y⟩ := ⟨hp.1.add hx, hp.2.mono (by decide)⟩
  have hr : PSz 9 ⟨o.x, p.y + y⟩ := ⟨ho.1.mono (by decide), hp.2.add hy⟩
  have hp9 : PSz 9 p := hp.mono (by decide)
  have h0 : tri p ⟨p.x + x, p.y⟩ ⟨o.x, p.y + y⟩ ≠ 0 := fun e => by
    have h1 : x * y = 0 := by
      simp only [tri, Pt.sub, Pt.cr] at e
      grind
    exact mz hx0 hy0 h1
  refine ⟨_, rfl, (show 3 ≤ 1000 by decide), fun es he => ?_⟩
  obtain ⟨a, b, c, rfl, hpm⟩ := shuf3 (q := ⟨p.x + x, p.y⟩) (r := ⟨o.x, p.y + y⟩) he
  have hs : ∀ z ∈ [a, b, c], PSz 9 z := fun z hz => by
    have := hpm.subset hz
    rcases List.mem_cons.mp this with rfl | h
    · exact hp9
    rcases List.mem_cons.mp h with rfl | h
    · exact hq
    rcases List.mem_cons.mp h with rfl | h
    · exact hr
    exact absurd h List.not_mem_nil
  have ha := hs a (by simp)
  have hb := hs b (by simp)
  have hcc := hs c (by simp)
  walk_at "w"
  refine ⟨_, _, _, _, _, rfl, ht, ha, by decide, ?_⟩
  walk_at "w"
  refine ⟨_, _, _, _, _, rfl, ht, hb, by decide, ?_⟩
  walk_at "w"
  refine ⟨_, _, _, _, _, rfl, ht, hcc, by decide, ?_⟩
  walk_at "w"
  refine kk _ _ _ ((ht.on ha).mono (by decide)) ((ht.on hb).mono (by decide)) ((ht.on hcc).mono (by decide)) fun e => ?_
  rw [tri_on] at e
  rcases tri_perm hpm with h | h
  · rw [h] at e
    exact mz hd h0 e
  · rw [h] at e
    exact mz hd h0 (by grind)
instance (b : Nat) (q : Rat) : Decidable (Sz b q) := inferInstanceAs (Decidable (_ ∧ _))
/-- pairs of a menu: the rows of turns -/
def c_even (s : Zs) : Con := fun as k => as = [.o (.ref s.a)] ∧ ∀ a b c d : Rat, Sz 4 a → Sz 4 b → Sz 4 c → Sz 4 d → a * d - b * c ≠ 0 → k (r4 a b c d)
abbrev n__law_even_rows : List Str := ["stream", "menu", "k", "j"]
abbrev s__law_even_rows : Stmt := top 120
theorem sc__law_even_rows : FnScope ["stream", "menu", "k", "j"] ["stream"] (defScope s__law_even_rows) := ⟨rfl, rfl, rfl, by decide +kernel, rfl, by decide +kernel, by decide +kernel⟩
theorem h__law_even_rows (B : Bl mg) (d : DefAt K mg "_law_even_rows" s__law_even_rows []) (h__law_next : Has P w K mg base CX0 "_law_next" 1 [] (spOf K (some S) (c_next S))) : Has P w K mg base CX0 "_law_even_rows" 2 [] (spOf K (some S) (c_even S)) := by
  refine d.pure sc__law_even_rows (fun _ _ _ _ _ _ us hl => match us, hl with | [_], _ => rfl) 3 rfl (fun as k ⟨e, _⟩ => by rw [e]; rfl) fun f cdv A outer s H E hr => ⟨_, (pss_cons (ps_set (i := 1) sc__law_even_rows.nd rfl (Or.inl rfl) (pe_tup (pa_cons (pe_tup (pa_cons (pe_tup (pa_cons pe_int (pa_cons pe_int pa_nil))) (pa_cons (pe_tup (pa_cons pe_int (pa_cons pe_int pa_nil))) pa_nil))) (pa_cons (pe_tup (pa_cons (pe_tup (pa_cons pe_int (pa_cons pe_int pa_nil))) (pa_cons (pe_tup (pa_cons pe_int (pa_cons pe_int pa_nil))) pa_nil))) (pa_cons (pe_tup (pa_cons (pe_tup (pa_cons (pe_un un_neg pe_int) (pa_cons pe_int pa_nil))) (pa_cons (pe_tup (pa_cons pe_int (pa_cons pe_int pa_nil))) pa_nil))) (pa_cons (pe_tup (pa_cons (pe_tup (pa_cons pe_int (pa_cons pe_int pa_nil))) (pa_cons (pe_tup (pa_cons pe_int (pa_cons pe_int pa_nil))) pa_nil))) (pa_cons (pe_tup (pa_cons (pe_tup (pa_cons pe_int (pa_cons pe_int pa_nil))) (pa_cons (pe_tup (pa_cons pe_int (pa_cons pe_int pa_nil))) pa_nil))) pa_nil)))))))
      (pss_cons (ps_set (i := 2) sc__law_even_rows.nd rfl (Or.inl rfl) (pe_has h__law_next (hr.mono (by decide)) pass0 (pa_cons (pv 0) (pa_cons pe_int pa_nil))))
      (pss_cons (ps_set (i := 3) sc__law_even_rows.nd rfl (Or.inl rfl) (pe_op op_mod (pe_callTy call_intG (by rfl) B.int (by decide +kernel) (pa_cons (pe_op (kAdd (K := K)) (pe_op (kAdd (K := K)) (pv 2) pe_int) (pe_has h__law_next (hr.mono (by decide)) pass0 (pa_cons (pv 0) (pa_cons pe_int pa_nil)))) pa_nil)) pe_int))
      (pss_one (ps_ret (pe_tup (pa_cons (pe_ix (kIx (K := K)) (pe_ix (kIx (K := K)) (pv 1) (pv 2) (fun _ _ => rfl)) pe_int (fun _ _ => rfl)) (pa_cons (pe_ix (kIx (K := K)) (pe_ix (kIx (K := K)) (pv 1) (pv 3) (fun _ _ => rfl)) pe_int (fun _ _ => rfl)) (pa_cons (pe_ix (kIx (K := K)) (pe_ix (kIx (K := K)) (pv 1) (pv 2) (fun _ _ => rfl)) pe_int (fun _ _ => rfl)) (pa_cons (pe_ix (kIx (K := K)) (pe_ix (kIx (K := K)) (pv 1) (pv 3) (fun _ _ => rfl)) pe_int (fun _ _ => rfl)) pa_nil)))))))))), fun as k hc => ?_⟩
  try dsimp only [cxOf]
  clear hr E H s outer A cdv f d B
  obtain ⟨rfl, q⟩ := hc
  simp only [st0, List.map_cons, List.map_nil, List.replicate, List.cons_append, List.nil_append]
  walk_at "w"
  refine ⟨_, rfl, by decide, lt_9000 (by decide) (by decide), fun r r1 r2 => ?_⟩
  walk_at "w"
  refine ⟨_, rfl, by decide, lt_9000 (by decide) (by decide), fun v v1 v2 => ?_⟩
  walk_at "w"
  refine rb_c (by decide) ?_
  have hr : r = 0 ∨ r = 1 ∨ r = 2 ∨ r = 3 ∨ r = 4 := by omega
  have hv : v = 0 ∨ v = 1 ∨ v = 2 ∨ v = 3 := by omega
  rcases hr with rfl | rfl | rfl | rfl | rfl <;> rcases hv with rfl | rfl | rfl | rfl
  · walk_at "w"
    exact q (mkRat (1) 1) (mkRat (3) 5) (mkRat (0) 1) (mkRat (4) 5) (by decide +kernel) (by decide +kernel) (by decide +kernel) (by decide +kernel) (by decide +kernel)
  · walk_at "w"
    exact q (mkRat (1) 1) (mkRat (-4) 5) (mkRat (0) 1) (mkRat (3) 5) (by decide +kernel) (by decide +kernel) (by decide +kernel) (by decide +kernel) (by decide +kernel)
  · walk_at "w"
    exact q (mkRat (1) 1) (mkRat (5) 13) (mkRat (0) 1) (mkRat (12) 13) (by decide +kernel) (by decide +kernel) (by decide +kernel) (by decide +kernel) (by decide +kernel)
  · walk_at "w"
    exact q (mkRat (1) 1) (mkRat (0) 1) (mkRat (0) 1) (mkRat (1) 1) (by decide +kernel) (by decide +kernel) (by decide +kernel) (by decide +kernel) (by decide +kernel)
  · walk_at "w"
    exact q (mkRat (3) 5) (mkRat (-4) 5) (mkRat (4) 5) (mkRat (3) 5) (by decide +kernel) (by decide +kernel) (by decide +kernel) (by decide +kernel) (by decide +kernel)
  · walk_at "w"
    exact q (mkRat (3) 5) (mkRat (5) 13) (mkRat (4) 5) (mkRat (12) 13) (by decide +kernel) (by decide +kernel) (by decide +kernel) (by decide +kernel) (by decide +kernel)
  · walk_at "w"
    exact q (mkRat (3) 5) (mkRat (0) 1) (mkRat (4) 5) (mkRat (1) 1) (by decide +kernel) (by decide +kernel) (by decide +kernel) (by decide +kernel) (by decide +kernel)
  · walk_at "w"
    exact q (mkRat (3) 5) (mkRat (1) 1) (mkRat (4) 5) (mkRat (0) 1) (by decide +kernel) (by decide +kernel) (by decide +kernel) (by decide +kernel) (by decide +kernel)
  · walk_at "w"
    exact q (mkRat (-4) 5) (mkRat (5) 13) (mkRat (3) 5) (mkRat (12) 13) (by decide +kernel) (by decide +kernel) (by decide +kernel) (by decide +kernel) (by decide +kernel)
  · walk_at "w"
    exact q (mkRat (-4) 5) (mkRat (0) 1) (mkRat (3) 5) (mkRat (1) 1) (by decide +kernel) (by decide +kernel) (by decide +kernel) (by decide +kernel) (by decide +kernel)
  · walk_at "w"
    exact q (mkRat (-4) 5) (mkRat (1) 1) (mkRat (3) 5) (mkRat (0) 1) (by decide +kernel) (by decide +kernel) (by decide +kernel) (by decide +kernel) (by decide +kernel)
  · walk_at "w"
    exact q (mkRat (-4) 5) (mkRat (3) 5) (mkRat (3) 5) (mkRat (4) 5) (by decide +kernel) (by decide +kernel) (by decide +kernel) (by decide +kernel) (by decide +kernel)
  · walk_at "w"
    exact q (mkRat (5) 13) (mkRat (0) 1) (mkRat (12) 13) (mkRat (1) 1) (by decide +kernel) (by decide +kernel) (by decide +kernel) (by decide +kernel) (by decide +kernel)
  · walk_at "w"
    exact q (mkRat (5) 13) (mkRat (1) 1) (mkRat (12) 13) (mkRat (0) 1) (by decide +kernel) (by decide +kernel) (by decide +kernel) (by decide +kernel) (by decide +kernel)
  · walk_at "w"
    exact q (mkRat (5) 13) (mkRat (3) 5) (mkRat (12) 13) (mkRat (4) 5) (by decide +kernel) (by decide +kernel) (by decide +kernel) (by decide +kernel) (by decide +kernel)
  · walk_at "w"
    exact q (mkRat (5) 13) (mkRat (-4) 5) (mkRat (12) 13) (mkRat (3) 5) (by decide +kernel) (by decide +kernel) (by decide +kernel) (by decide +kernel) (by decide +kernel)
  · walk_at "w"
    exact q (mkRat (0) 1) (mkRat (1) 1) (mkRat (1) 1) (mkRat (0) 1) (by decide +kernel) (by decide +kernel) (by decide +kernel) (by decide +kernel) (by decide +kernel)
  · walk_at "w"
    exact q (mkRat (0) 1) (mkRat (3) 5) (mkRat (1) 1) (mkRat (4) 5) (by decide +kernel) (by decide +kernel) (by decide +kernel) (by decide +kernel) (by decide +kernel)
  · walk_at "w"
    exact q (mkRat (0) 1) (mkRat (-4) 5) (mkRat (1) 1) (mkRat (3) 5) (by decide +kernel) (by decide +kernel) (by decide +kernel) (by decide +kernel) (by decide +kernel)
  · walk_at "w"
    exact q (mkRat (0) 1) (mkRat (5) 13) (mkRat (1) 1) (mkRat (12) 13) (by decide +kernel) (by decide +kernel) (by decide +kernel) (by decide +kernel) (by decide +kernel)
/-- whole-number transforms -/
def tfI (a b c d e f : Int) : Tf := ⟨(a : Rat), (b : Rat), (c : Rat), (d : Rat), (e : Rat), (f : Rat)⟩
structure Mn (a b c d e f : Int) : Prop where
  ha : a.natAbs ≤ 2
  hb : b.natAbs ≤ 2
  hc : c.natAbs ≤ 2
  hd : d.natAbs ≤ 2
  he : e.natAbs ≤ 7
  hf : f.natAbs ≤ 7
  det : a * d - b * c ≠ 0
def okM : D → Bool
  | .tuple [.int a, .int b, .int c, .int d, .int e, .int f] => decide (a.natAbs ≤ 2) && (decide (b.natAbs ≤ 2) && (decide (c.natAbs ≤ 2) && (decide (d.natAbs ≤ 2) && (decide (e.natAbs ≤ 7) && (decide (f.natAbs ≤ 7) && decide (a * d - b * c ≠ 0))))))
  | _ => false
theorem okMs {ds : List D} (h : ds.all okM = true) {x : D} (hd : x ∈ ds) : ∃ a b c d e f : Int, x = .tuple [.int a, .int b, .int c, .int d, .int e, .int f] ∧ Mn a b c d e f := by
  have h1 := List.all_eq_true.mp h x hd
  match x, h1 with
  | .tuple [.int a, .int b, .int c, .int d, .int e, .int f], h1 =>
    have h2 : (decide (a.natAbs ≤ 2) && (decide (b.natAbs ≤ 2) && (decide (c.natAbs ≤ 2) && (decide (d.natAbs ≤ 2) && (decide (e.natAbs ≤ 7) && (decide (f.natAbs ≤ 7) && decide (a * d - b * c ≠ 0))))))) = true := h1
    simp only [Bool.and_eq_true, decide_eq_true_eq] at h2
    obtain ⟨g1, g2, g3, g4, g5, g6, g7⟩ := h2
    exact ⟨a, b, c, d, e, f, rfl, g1, g2, g3, g4, g5, g6, g7⟩
theorem Mn.ts {a b c d e f : Int} (h : Mn a b c d e f) : TS 2 3 (tfI a b c d e f) :=
  have h1 := h.ha; have h2 := h.hb; have h3 := h.hc; have h4 := h.hd; have h5 := h.he; have h6 := h.hf
  ⟨sz_i (by omega) (by decide), sz_i (by omega) (by decide), sz_i (by omega) (by decide), sz_i (by omega) (by decide), sz_i (by omega) (by decide), sz_i (by omega) (by decide)⟩
def c_cycle (s : Zs) : Con := fun as k => as = [.o (.ref s.a)] ∧ ∀ (a b c d e f : Int) (t : Tf), Mn a b c d e f → TS 11 5 t → Sm t.e → Sm t.f → t.det ≠ 0 → k (tfD ((t.inv.chain (tfI a b c d e f)).chain t))
abbrev n__law_cycle : List Str := ["stream", "menu", "told", "other", "n"]
abbrev s__law_cycle : Stmt := top 118
theorem sc__law_cycle : FnScope ["stream", "menu", "told", "other", "n"] ["stream"] (defScope s__law_cycle) := ⟨rfl, rfl, rfl, by decide +kernel, rfl, by decide +kernel, by decide +kernel⟩
theorem h__law_cycle (B : Bl mg) (d : DefAt K mg "_law_cycle" s__law_cycle []) (h__law_chain : Has P w K mg base CX0 "_law_chain" 6 [] (spOf K none (c_lchain))) (h__law_back : Has P w K mg base CX0 "_law_back" 6 [] (spOf K none (c_lback))) (h__law_transform : Has P w K mg base CX0 "_law_transform" 5 [] (spOf K (some S) (c_ltrans S))) (h__law_pick : Has P w K mg base CX0 "_law_pick" 2 [] (spOf K (some S) (c_pick S))) : Has P w K mg base CX0 "_law_cycle" 7 [] (spOf K (some S) (c_cycle S)) := by
  refine d.pure sc__law_cycle (fun _ _ _ _ _ _ us hl => match us, hl with | [_], _ => rfl) 4 rfl (fun as k ⟨e, _⟩ => by rw [e]; rfl) fun f cdv A outer s H E hr => ⟨_, (pss_cons (ps_set (i := 1) sc__law_cycle.nd rfl (Or.inl rfl) (pe_tup (pa_cons (pe_tup (pa_cons (pe_un un_neg pe_int) (pa_cons pe_int (pa_cons pe_int (pa_cons (pe_un un_neg pe_int) (pa_cons pe_int (pa_cons pe_int pa_nil))))))) (pa_cons (pe_tup (pa_cons pe_int (pa_cons pe_int (pa_cons pe_int (pa_cons (pe_un un_neg pe_int) (pa_cons pe_int (pa_cons pe_int pa_nil))))))) (pa_cons (pe_tup (pa_cons pe_int (pa_cons pe_int (pa_cons pe_int (pa_cons (pe_un un_neg pe_int) (pa_cons pe_int (pa_cons pe_int pa_nil))))))) (pa_cons (pe_tup (pa_cons pe_int (pa_cons (pe_un un_neg pe_int) (pa_cons pe_int (pa_cons (pe_un un_neg pe_int) (pa_cons pe_int (pa_cons pe_int pa_nil))))))) (pa_cons (pe_tup (pa_cons pe_int (pa_cons (pe_un un_neg pe_int) (pa_cons pe_int (pa_cons pe_int (pa_cons pe_int (pa_cons pe_int pa_nil))))))) (pa_cons (pe_tup (pa_cons pe_int (pa_cons (pe_un un_neg pe_int) (pa_cons pe_int (pa_cons pe_int (pa_cons pe_int (pa_cons pe_int pa_nil))))))) pa_nil))))))))
      (pss_cons (ps_set (i := 1) sc__law_cycle.nd rfl (Or.inl rfl) (pe_op (kAdd (K := K)) (pv 1) (pe_tup (pa_cons (pe_tup (pa_cons pe_int (pa_cons pe_int (pa_cons pe_int (pa_cons pe_int (pa_cons pe_int (pa_cons pe_int pa_nil))))))) (pa_cons (pe_tup (pa_cons pe_int (pa_cons pe_int (pa_cons pe_int (pa_cons pe_int (pa_cons pe_int (pa_cons pe_int pa_nil))))))) (pa_cons (pe_tup (pa_cons pe_int (pa_cons pe_int (pa_cons pe_int (pa_cons pe_int (pa_cons pe_int (pa_cons pe_int pa_nil))))))) (pa_cons (pe_tup (pa_cons pe_int (pa_cons pe_int (pa_cons pe_int (pa_cons pe_int (pa_cons pe_int (pa_cons pe_int pa_nil))))))) (pa_cons (pe_tup (pa_cons pe_int (pa_cons pe_int (pa_cons pe_int (pa_cons pe_int (pa_cons pe_int (pa_cons pe_int pa_nil))))))) (pa_cons (pe_tup (pa_cons (pe_un un_neg pe_int) (pa_cons pe_int (pa_cons (pe_un un_neg pe_int) (pa_cons pe_int (pa_cons pe_int (pa_cons pe_int pa_nil))))))) pa_nil)))))))))
      (pss_cons (ps_set (i := 1) sc__law_cycle.nd rfl (Or.inl rfl) (pe_op (kAdd (K := K)) (pv 1) (pe_tup (pa_cons (pe_tup (pa_cons pe_int (pa_cons pe_int (pa_cons (pe_un un_neg pe_int) (pa_cons pe_int (pa_cons pe_int (pa_cons pe_int pa_nil))))))) (pa_cons (pe_tup (pa_cons pe_int (pa_cons pe_int (pa_cons pe_int (pa_cons pe_int (pa_cons pe_int (pa_cons pe_int pa_nil))))))) (pa_cons (pe_tup (pa_cons (pe_un un_neg pe_int) (pa_cons pe_int (pa_cons pe_int (pa_cons pe_int (pa_cons pe_int (pa_cons pe_int pa_nil))))))) (pa_cons (pe_tup (pa_cons pe_int (pa_cons (pe_un un_neg pe_int) (pa_cons pe_int (pa_cons pe_int (pa_cons pe_int (pa_cons pe_int pa_nil))))))) (pa_cons (pe_tup (pa_cons (pe_un un_neg pe_int) (pa_cons pe_int (pa_cons pe_int (pa_cons (pe_un un_neg pe_int) (pa_cons pe_int (pa_cons pe_int pa_nil))))))) pa_nil))))))))
      (pss_cons (ps_set (i := 2) sc__law_cycle.nd rfl (Or.inl rfl) (pe_has h__law_pick (hr.mono (by decide)) pass0 (pa_cons (pv 0) (pa_cons (pv 1) pa_nil))))
      (pss_cons (ps_set (i := 3) sc__law_cycle.nd rfl (Or.inl rfl) (pe_has h__law_transform (hr.mono (by decide)) pass0 (pa_cons (pv 0) pa_nil)))
      (pss_one (ps_ret (pe_has h__law_chain (hr.mono (by decide)) pass0 (pa_cons (pe_has h__law_chain (hr.mono (by decide)) pass0 (pa_cons (pe_has h__law_back (hr.mono (by decide)) pass0 (pa_cons (pv 3) pa_nil)) (pa_cons (pe_callTy (kTup (K := K)) (by rfl) B.tuple (by decide +kernel) (pa_cons (pe_lc (own := [("n", 4)]) (g := gName 4) (tt := tYes) rfl sc__law_cycle.nd (kiTup (K := K) (pv 2)) (blkOk_by (own := [("n", 4)]) (N := n__law_cycle) (sc := defScope s__law_cycle) (by decide +kernel)) (fun _ _ _ _ _ => (pg_name (i := 4) sc__law_cycle.nd rfl (Or.inl rfl))) (fun _ _ _ _ _ => pts_nil) (fun _ _ _ _ _ => (pe_tup (pa_cons (pv 4) (pa_cons pe_int pa_nil))))) pa_nil)) pa_nil))) (pa_cons (pv 3) pa_nil)))))))))), fun as k hc => ?_⟩
  try dsimp only [cxOf]
  clear hr E H s outer A cdv f d B
  obtain ⟨rfl, q⟩ := hc
  simp only [st0, List.map_cons, List.map_nil, List.replicate, List.cons_append, List.nil_append]
  walk_at "w"
  refine ⟨_, _, rfl, .inl rfl, Nat.le_of_ble_eq_true rfl, Nat.le_of_ble_eq_true rfl, fun x hx => ?_⟩
  obtain ⟨a, b, c, d, e, f, rfl, hm⟩ := okMs (by decide) hx
  walk_at "w"
  refine ⟨rfl, fun t ht se sf hd => ?_⟩
  walk_at "w"
  refine ⟨_, _, _, rfl, ht, hd, by decide, ?_⟩
  walk_at "w"
  refine ⟨_, tfI a b c d e f, _, _, _, _, rfl, ht.inv hd, hm.ts, by decide, by decide, ?_⟩
  walk_at "w"
  exact ⟨_, _, _, _, _, _, rfl, (ht.inv hd).chain hm.ts, ht, by decide, by decide, q a b c d e f t hm ht se sf hd⟩
end K88
/-! B6 -/
/-! an own list and another, joined into a new own list -/
namespace AL
open PySem PySem.Spec PyProof.Rows L2
variable {Γ : Gam} {ρ : Rho} {nx bk ct : Rho → Prop} {rt : D → Prop}
theorem m_catO {tb : TE} {i j : Nat} {xs : List D} (e : ρ[i]? = some (some (.m xs))) (h : WE Γ tb ρ fun y => ∃ es, y = .list es ∧ xs.length + es.length ≤ 100000 ∧ nx (ρ.set j (some (.m (xs ++ es))))) : WS Γ (tAsgM (tOp (rAddG Γ.K) (tVar i) tb) (gName j)) ρ nx rt bk ct := fun F0 H0 F H σ D k n b c r => by
  obtain ⟨p, vs, a1, a2, a3, a4, a5, a6⟩ := k.o.own i xs (gs_some.mpr e)
  refine ⟨.ref p, gs_some.mp a1, h F H σ _ k.i fun u y F2 H2 w2 s2 p2 ⟨es, e2, hz, q⟩ => ?_⟩
  subst e2
  have k2 := k.next w2 s2
  obtain ⟨p', vs', b1, _, _, _, b5, b6⟩ := k2.o.own i xs (gs_some.mpr e)
  rw [a1] at b1
  cases b1
  cases p2 with
  | lst hs hb =>
    exact .inr (.inr ⟨_, _, _, _, rfl, rfl, b5, w2.sub _ _ hs, by rw [b6.len, hb.len]; exact Nat.le_trans hz (by decide), fun a ha => n F2 _ _ _ s2.fx (k2.setM ha (b6.app hb) j) q⟩)
end AL
/-! T16 -/
namespace K88
open PySem PySem.Spec PyProof.Rows L2 AL
local macro_rules | `(tactic| walk_at "bd") => `(tactic| first
  | assumption
  | (apply Sz.n; assumption)
  | (apply Sz.d; assumption)
  | ((with_reducible apply lt_mul); (case h1 => walk_at "bd"); (case h2 => walk_at "bd"))
  | ((with_reducible apply lt_addx); (case h1 => walk_at "bd"); (case h2 => walk_at "bd"))
  | ((with_reducible apply lt_subx); (case h1 => walk_at "bd"); (case h2 => walk_at "bd"))
  | ((with_reducible apply lt_neg); (case h => walk_at "bd")))
local macro_rules | `(tactic| walk_at "nz") => `(tactic| first
  | assumption
  | exact dnz _
  | ((with_reducible apply inz); (case h1 => walk_at "nz"); (case h2 => walk_at "nz")))
local macro_rules | `(tactic| walk_at "w") => `(tactic| repeat (first
  | with_reducible apply w_int
  | ((with_reducible apply w_var); (case h => exact rfl))
  | with_reducible apply wl_cons
  | with_reducible apply wl_nil
  | ((with_reducible refine And.intro (Nat.le_of_ble_eq_true ?hlen) ?_); (case hlen => exact rfl))
  | with_reducible apply w_tup
  | with_reducible apply w_op
  | with_reducible apply s_seq
  | ((with_reducible apply wa_consO); (case h => exact rfl))
  | with_reducible apply wa_cons
  | with_reducible apply wa_nil
  | with_reducible apply ru_i
  | with_reducible apply w_un
  | with_reducible apply s_asg
  | with_reducible apply w_call0
  | with_reducible apply w_callD2
  | with_reducible apply w_callD1
  | ((with_reducible apply w_callX0); (case hz => exact rfl))
  | ((with_reducible apply w_callXS); (case hz => exact rfl))
  | with_reducible apply w_callZ
  | with_reducible apply b_addI
  | ((with_reducible apply rb_ixT); (case e => exact rfl))
  | ((with_reducible apply rb_ixL); (case e => exact rfl))
  | with_reducible apply w_str
  | with_reducible apply w_lst
  | with_reducible apply w_sl
  | with_reducible apply o_none
  | with_reducible apply o_some
  | with_reducible apply sG_T
  | with_reducible apply sG_L
  | ((with_reducible apply s_app); (case e => exact rfl))
  | with_reducible apply s_drop
  | with_reducible apply w_if
  | with_reducible apply p_if
  | with_reducible apply t_test
  | with_reducible apply b_eqI
  | with_reducible apply s_next
  | with_reducible apply p_ret
  | ((with_reducible apply b_mulI); (case hc => (apply mulx; (case h1 => walk_at "bd"); (case h2 => walk_at "bd"); (case h => omega))))
  | with_reducible apply b_sub
  | with_reducible apply s_raiseK
  | with_reducible apply w_isT
  | with_reducible apply w_isL
  | with_reducible apply w_isI
  | with_reducible apply w_isB
  | with_reducible apply w_isS
  | with_reducible apply w_isN
  | with_reducible apply w_notN
  | with_reducible apply w_or
  | with_reducible apply w_and
  | with_reducible apply w_not
  | with_reducible apply w_chain
  | with_reducible apply w_cb
  | with_reducible apply t_or
  | with_reducible apply t_and
  | with_reducible apply t_not
  | with_reducible apply t_yes
  | ((with_reducible apply b_addT); (case hz => exact Nat.le_of_ble_eq_true rfl))
  | ((with_reducible apply b_addL); (case hz => exact Nat.le_of_ble_eq_true rfl))
  | with_reducible apply s_break
  | with_reducible apply rb_b
  | with_reducible apply t_truthI
  | with_reducible apply b_neI
  | with_reducible apply b_eqS
  | with_reducible apply b_eqB
  | with_reducible apply b_neB
  | with_reducible apply w_bl
  | with_reducible apply w_non
  | with_reducible apply t_B
  | with_reducible apply m_lst
  | ((with_reducible apply m_catO); (case e => exact rfl))
  | with_reducible apply m_cat
  | with_reducible apply m_list
  | with_reducible apply w_lcLU
  | with_reducible apply w_lcTU
  | with_reducible apply s_forTU
  | with_reducible apply s_forLU
  | (with_reducible apply lcU_nil)
  | (with_reducible apply unr_nil)
  | with_reducible apply unr_one
  | ((with_reducible show LcU _ _ _ _ _ _ _ _ _); (refine lcU_one rfl (Nat.lt_of_succ_le (Nat.le_of_ble_eq_true rfl)) ?_))
  | ((with_reducible show (_ = true → _) ∧ (_ = false → _)); (first | refine ybt rfl ?_ | refine ybf rfl ?_))
  | ((with_reducible show (_ = false → _) ∧ (_ = true → _)); (first | refine obt rfl ?_ | refine obf rfl ?_))
  | with_reducible apply yt
  | with_reducible apply yf
  | with_reducible apply fy
  | with_reducible apply ft
  | ((with_reducible apply f_frz); (case e => exact rfl))
  | with_reducible apply s_asgG
  | (refine Exists.intro _ (And.intro (g_lst (by repeat (first | exact gs_nil | apply gs_one)) rfl) ?_))
  | (refine Exists.intro _ (And.intro (g_tup (by repeat (first | exact gs_nil | apply gs_one)) rfl) ?_))
  | with_reducible apply c_lenL
  | with_reducible apply c_lenT
  | with_reducible apply c_listL
  | with_reducible apply c_listT
  | with_reducible apply c_tupL
  | with_reducible apply c_abs
  | with_reducible apply c_int
  | with_reducible apply c_min
  | with_reducible apply rc_gcd
  | with_reducible apply rb_b
  | (refine And.intro (Nat.lt_of_succ_le (Nat.le_of_ble_eq_true rfl)) ?_)
  | with_reducible refine Exists.intro _ (And.intro rfl ?_)
  | refine And.intro (Nat.le_of_ble_eq_true rfl) ?_
  ))
variable {P : Program} {w : World} {K : PySem.W.Frag} {mg : Str → Option Value} {base : Heap}
variable {S : Zs}
/-- rows of four whole numbers: two ends -/
structure I4 where
  a : Int
  b : Int
  c : Int
  d : Int
abbrev i4D (r : I4) : D := .tuple [.int r.a, .int r.b, .int r.c, .int r.d]
structure Bd (r : I4) : Prop where
  ha : r.a.natAbs ≤ 40
  hb : r.b.natAbs ≤ 40
  hc : r.c.natAbs ≤ 40
  hd : r.d.natAbs ≤ 40
/-- data that is such a row -/
def isR (d : D) : Prop := ∃ r, d = i4D r ∧ Bd r
def Rws (n : Nat) (ds : List D) : Prop := ds.length ≤ n ∧ ∀ d ∈ ds, isR d
theorem Rws.nil {n : Nat} : Rws n [] := ⟨Nat.zero_le _, fun d h => absurd h List.not_mem_nil⟩
theorem Rws.app {n m : Nat} {ds es : List D} (h : Rws n ds) (g : Rws m es) : Rws (n + m) (ds ++ es) := ⟨by rw [List.length_append]; exact Nat.add_le_add h.1 g.1, fun d hd => (List.mem_append.mp hd).elim (h.2 d) (g.2 d)⟩
theorem Rws.one {a b c d : Int} (ha : a.natAbs ≤ 40) (hb : b.natAbs ≤ 40) (hc : c.natAbs ≤ 40) (hd : d.natAbs ≤ 40) : Rws 1 [.tuple [.int a, .int b, .int c, .int d]] := ⟨Nat.le_refl _, fun x hx => ⟨⟨a, b, c, d⟩, by simpa using hx, ha, hb, hc, hd⟩⟩
theorem Rws.mono {n m : Nat} {ds : List D} (h : Rws n ds) (l : n ≤ m) : Rws m ds := ⟨Nat.le_trans h.1 l, h.2⟩
theorem Rws.take {n m : Nat} {ds : List D} (h : Rws n ds) : Rws m (ds.take m) := ⟨by rw [List.length_take]; omega, fun d hd => h.2 d (List.mem_of_mem_take hd)⟩
def c_rowsN (s : Zs) (n : Nat) : Con := fun as k => as = [.o (.ref s.a), .i (.int 5)] ∧ ∀ ds, Rws n ds → k (.list ds)
abbrev n__law_scatter : List Str := ["stream", "many", "wide", "rows", "turn", "x", "y"]
abbrev s__law_scatter : Stmt := top 89
theorem sc__law_scatter : FnScope ["stream", "many", "wide", "rows", "turn", "x", "y"] ["stream", "many"] (defScope s__law_scatter) := ⟨rfl, rfl, rfl, by decide +kernel, rfl, by decide +kernel, by decide +kernel⟩
theorem h__law_scatter (B : Bl mg) (d : DefAt K mg "_law_scatter" s__law_scatter []) (h__law_next : Has P w K mg base CX0 "_law_next" 1 [] (spOf K (some S) (c_next S))) (h__law_pick : Has P w K mg base CX0 "_law_pick" 2 [] (spOf K (some S) (c_pick S))) : Has P w K mg base CX0 "_law_scatter" 3 [] (spOf K (some S) (c_rowsN S 5)) := by
  refine d.pure sc__law_scatter (fun _ _ _ _ _ _ us hl => match us, hl with | [_, _], _ => rfl) 5 rfl (fun as k ⟨e, _⟩ => by rw [e]; rfl) fun f cdv A outer s H E hr => ⟨_, (pss_cons (ps_set (i := 2) sc__law_scatter.nd rfl (Or.inl rfl) (pe_has h__law_pick (hr.mono (by decide)) pass0 (pa_cons (pv 0) (pa_cons (pe_tup (pa_cons pe_int (pa_cons pe_int (pa_cons pe_int (pa_cons pe_int (pa_cons pe_int (pa_cons pe_int pa_nil))))))) pa_nil))))
      (pss_cons (ps_setM (i := 3) sc__law_scatter.nd rfl (Or.inl rfl) (pe_lst pa_nil))
      (pss_cons (ps_for PassesOwn.never rfl (pi_range1 (by rfl) B.range (pa_cons (pv 1) pa_nil)) (pg_name (i := 4) sc__law_scatter.nd rfl (Or.inl rfl)) (pss_cons (ps_set (i := 5) sc__law_scatter.nd rfl (Or.inl rfl) (pe_has h__law_next (hr.mono (by decide)) pass0 (pa_cons (pv 0) (pa_cons (pv 2) pa_nil))))
      (pss_cons (ps_set (i := 6) sc__law_scatter.nd rfl (Or.inl rfl) (pe_has h__law_next (hr.mono (by decide)) pass0 (pa_cons (pv 0) (pa_cons (pv 2) pa_nil))))
      (pss_one (ps_if (pt_cmpR (kEq (K := K) hr.units) (pe_has h__law_next (hr.mono (by decide)) pass0 (pa_cons (pv 0) (pa_cons pe_int pa_nil))) pe_int (nomark _)) (pss_one (ps_expr (kApp (K := K) (pv 3) (pa_cons (pe_tup (pa_cons (pv 5) (pa_cons (pv 6) (pa_cons (pv 5) (pa_cons (pv 6) pa_nil))))) pa_nil)))) (pss_one (ps_expr (kApp (K := K) (pv 3) (pa_cons (pe_tup (pa_cons (pv 5) (pa_cons (pv 6) (pa_cons (pe_has h__law_next (hr.mono (by decide)) pass0 (pa_cons (pv 0) (pa_cons (pv 2) pa_nil))) (pa_cons (pe_has h__law_next (hr.mono (by decide)) pass0 (pa_cons (pv 0) (pa_cons (pv 2) pa_nil))) pa_nil))))) pa_nil)))))))))
      (pss_one (ps_ret (pv 3)))))), fun as k hc => ?_⟩
  try dsimp only [cxOf]
  clear hr E H s outer A cdv f d B
  obtain ⟨rfl, q⟩ := hc
  simp only [st0, List.map_cons, List.map_nil, List.replicate, List.cons_append, List.nil_append]
  walk_at "w"
  refine ⟨_, _, rfl, .inl rfl, by decide, by decide, fun d hd => ?_⟩
  obtain ⟨m, rfl, m1, m2⟩ := okIs (lo := 2) (hi := 9) (by decide) hd
  walk_at "w"
  refine s_forR ?_
  walk_at "w"
  refine ⟨by decide, by decide, fun i ρ' => ∃ l x y z, ρ' = [some (.o (.ref S.a)), some (.i (.int 5)), some (.i (.int m)), some (.m l), x, y, z] ∧ Rws i l, ⟨_, _, _, _, rfl, Rws.nil⟩, fun i ρ' hi ⟨l, x, y, z, hρ, hl⟩ => ?_, fun ρ' ⟨l, x, y, z, hρ, hl⟩ => ?_⟩
  · subst hρ
    have hn := hl.1
    walk_at "w"
    refine ⟨_, rfl, by omega, lt_9000 (by omega) (by omega), fun r r1 r2 => ?_⟩
    walk_at "w"
    refine ⟨_, rfl, by omega, lt_9000 (by omega) (by omega), fun t t1 t2 => ?_⟩
    walk_at "w"
    refine ⟨_, rfl, by decide, lt_9000 (by decide) (by decide), fun u u1 u2 => ?_⟩
    walk_at "w"
    refine yn (fun h => ?_) (fun h => ?_)
    · walk_at "w"
      exact ⟨by omega, _, _, _, _, rfl, hl.app (.one (by omega) (by omega) (by omega) (by omega))⟩
    · walk_at "w"
      refine ⟨_, rfl, by omega, lt_9000 (by omega) (by omega), fun v v1 v2 => ?_⟩
      walk_at "w"
      refine ⟨_, rfl, by omega, lt_9000 (by omega) (by omega), fun w w1 w2 => ?_⟩
      walk_at "w"
      exact ⟨by omega, _, _, _, _, rfl, hl.app (.one (by omega) (by omega) (by omega) (by omega))⟩
  · subst hρ
    walk_at "w"
    exact q _ hl
abbrev n__law_star : List Str := ["stream", "many", "x", "y", "rows", "turn", "dx", "dy", "back", "on"]
abbrev s__law_star : Stmt := top 90
theorem sc__law_star : FnScope ["stream", "many", "x", "y", "rows", "turn", "dx", "dy", "back", "on"] ["stream", "many"] (defScope s__law_star) := ⟨rfl, rfl, rfl, by decide +kernel, rfl, by decide +kernel, by decide +kernel⟩
theorem h__law_star (B : Bl mg) (d : DefAt K mg "_law_star" s__law_star []) (h__law_next : Has P w K mg base CX0 "_law_next" 1 [] (spOf K (some S) (c_next S))) (h__law_from : Has P w K mg base CX0 "_law_from" 2 [] (spOf K (some S) (c_from S))) : Has P w K mg base CX0 "_law_star" 3 [] (spOf K (some S) (c_rowsN S 5)) := by
  refine d.pure sc__law_star (fun _ _ _ _ _ _ us hl => match us, hl with | [_, _], _ => rfl) 8 rfl (fun as k ⟨e, _⟩ => by rw [e]; rfl) fun f cdv A outer s H E hr => ⟨_, (pss_cons (ps_set (i := 2) sc__law_star.nd rfl (Or.inl rfl) (pe_has h__law_from (hr.mono (by decide)) pass0 (pa_cons (pv 0) (pa_cons pe_int (pa_cons pe_int pa_nil)))))
      (pss_cons (ps_set (i := 3) sc__law_star.nd rfl (Or.inl rfl) (pe_has h__law_from (hr.mono (by decide)) pass0 (pa_cons (pv 0) (pa_cons pe_int (pa_cons pe_int pa_nil)))))
      (pss_cons (ps_setM (i := 4) sc__law_star.nd rfl (Or.inl rfl) (pe_lst pa_nil))
      (pss_cons (ps_for PassesOwn.never rfl (pi_range1 (by rfl) B.range (pa_cons (pv 1) pa_nil)) (pg_name (i := 5) sc__law_star.nd rfl (Or.inl rfl)) (pss_cons (ps_set (i := 6) sc__law_star.nd rfl (Or.inl rfl) (pe_has h__law_from (hr.mono (by decide)) pass0 (pa_cons (pv 0) (pa_cons (pe_un un_neg pe_int) (pa_cons pe_int pa_nil)))))
      (pss_cons (ps_set (i := 7) sc__law_star.nd rfl (Or.inl rfl) (pe_has h__law_from (hr.mono (by decide)) pass0 (pa_cons (pv 0) (pa_cons (pe_un un_neg pe_int) (pa_cons pe_int pa_nil)))))
      (pss_cons (ps_set (i := 8) sc__law_star.nd rfl (Or.inl rfl) (pe_has h__law_next (hr.mono (by decide)) pass0 (pa_cons (pv 0) (pa_cons pe_int pa_nil))))
      (pss_cons (ps_set (i := 9) sc__law_star.nd rfl (Or.inl rfl) (pe_has h__law_next (hr.mono (by decide)) pass0 (pa_cons (pv 0) (pa_cons pe_int pa_nil))))
      (pss_one (ps_expr (kApp (K := K) (pv 4) (pa_cons (pe_tup (pa_cons (pe_op op_sub (pv 2) (pe_op op_mulG (pv 8) (pv 6))) (pa_cons (pe_op op_sub (pv 3) (pe_op op_mulG (pv 8) (pv 7))) (pa_cons (pe_op (kAdd (K := K)) (pv 2) (pe_op op_mulG (pv 9) (pv 6))) (pa_cons (pe_op (kAdd (K := K)) (pv 3) (pe_op op_mulG (pv 9) (pv 7))) pa_nil))))) pa_nil)))))))))
      (pss_one (ps_ret (pv 4))))))), fun as k hc => ?_⟩
  try dsimp only [cxOf]
  clear hr E H s outer A cdv f d B
  obtain ⟨rfl, q⟩ := hc
  simp only [st0, List.map_cons, List.map_nil, List.replicate, List.cons_append, List.nil_append]
  walk_at "w"
  refine ⟨_, _, rfl, by decide, by decide, fun x x1 x2 => ?_⟩
  walk_at "w"
  refine ⟨_, _, rfl, by decide, by decide, fun y y1 y2 => ?_⟩
  walk_at "w"
  refine s_forR ?_
  walk_at "w"
  refine ⟨by decide, by decide, fun i ρ' => ∃ l s1 s2 s3 s4 s5, ρ' = [some (.o (.ref S.a)), some (.i (.int 5)), some (.i (.int x)), some (.i (.int y)), some (.m l), s1, s2, s3, s4, s5] ∧ Rws i l, ⟨_, _, _, _, _, _, rfl, Rws.nil⟩, fun i ρ' hi ⟨l, s1, s2, s3, s4, s5, hρ, hl⟩ => ?_, fun ρ' ⟨l, s1, s2, s3, s4, s5, hρ, hl⟩ => ?_⟩
  · subst hρ
    have hn := hl.1
    walk_at "w"
    refine ⟨_, _, rfl, by decide, by decide, fun u u1 u2 => ?_⟩
    walk_at "w"
    refine ⟨_, _, rfl, by decide, by decide, fun v v1 v2 => ?_⟩
    walk_at "w"
    refine ⟨_, rfl, by decide, lt_9000 (by decide) (by decide), fun m m1 m2 => ?_⟩
    walk_at "w"
    refine ⟨_, rfl, by decide, lt_9000 (by decide) (by decide), fun n n1 n2 => ?_⟩
    walk_at "w"
    refine b_mulI (mulx (a := 8) (b := 8) (by omega) (by omega) (by decide)) ?_
    walk_at "w"
    refine b_mulI (mulx (a := 8) (b := 8) (by omega) (by omega) (by decide)) ?_
    walk_at "w"
    refine b_mulI (mulx (a := 8) (b := 8) (by omega) (by omega) (by decide)) ?_
    walk_at "w"
    refine b_mulI (mulx (a := 8) (b := 8) (by omega) (by omega) (by decide)) ?_
    walk_at "w"
    have g1 : (m * u).natAbs ≤ 6 := by rw [Int.natAbs_mul]; exact Nat.mul_le_mul (show m.natAbs ≤ 2 by omega) (show u.natAbs ≤ 3 by omega)
    have g2 : (m * v).natAbs ≤ 6 := by rw [Int.natAbs_mul]; exact Nat.mul_le_mul (show m.natAbs ≤ 2 by omega) (show v.natAbs ≤ 3 by omega)
    have g3 : (n * u).natAbs ≤ 6 := by rw [Int.natAbs_mul]; exact Nat.mul_le_mul (show n.natAbs ≤ 2 by omega) (show u.natAbs ≤ 3 by omega)
    have g4 : (n * v).natAbs ≤ 6 := by rw [Int.natAbs_mul]; exact Nat.mul_le_mul (show n.natAbs ≤ 2 by omega) (show v.natAbs ≤ 3 by omega)
    exact ⟨by omega, _, _, _, _, _, _, rfl, hl.app (.one (by omega) (by omega) (by omega) (by omega))⟩
  · subst hρ
    walk_at "w"
    exact q _ hl
def okP (b : Nat) : D → Bool
  | .tuple [.int x, .int y] => decide (x.natAbs ≤ b) && decide (y.natAbs ≤ b)
  | _ => false
theorem okPs {b : Nat} {ds : List D} (h : ds.all (okP b) = true) {d : D} (hd : d ∈ ds) : ∃ x y : Int, d = .tuple [.int x, .int y] ∧ x.natAbs ≤ b ∧ y.natAbs ≤ b := by
  have h1 := List.all_eq_true.mp h d hd
  match d, h1 with
  | .tuple [.int x, .int y], h1 =>
    have h2 : (decide (x.natAbs ≤ b) && decide (y.natAbs ≤ b)) = true := h1
    rw [Bool.and_eq_true] at h2
    exact ⟨x, y, rfl, of_decide_eq_true h2.1, of_decide_eq_true h2.2⟩
abbrev n__law_onto : List Str := ["stream", "many", "x", "y", "d", "rows", "turn", "t", "u"]
abbrev s__law_onto : Stmt := top 91
theorem sc__law_onto : FnScope ["stream", "many", "x", "y", "d", "rows", "turn", "t", "u"] ["stream", "many"] (defScope s__law_onto) := ⟨rfl, rfl, rfl, by decide +kernel, rfl, by decide +kernel, by decide +kernel⟩
theorem h__law_onto (B : Bl mg) (d : DefAt K mg "_law_onto" s__law_onto []) (h__law_next : Has P w K mg base CX0 "_law_next" 1 [] (spOf K (some S) (c_next S))) (h__law_pick : Has P w K mg base CX0 "_law_pick" 2 [] (spOf K (some S) (c_pick S))) : Has P w K mg base CX0 "_law_onto" 3 [] (spOf K (some S) (c_rowsN S 5)) := by
  refine d.pure sc__law_onto (fun _ _ _ _ _ _ us hl => match us, hl with | [_, _], _ => rfl) 7 rfl (fun as k ⟨e, _⟩ => by rw [e]; rfl) fun f cdv A outer s H E hr => ⟨_, (pss_cons (ps_set (i := 2) sc__law_onto.nd rfl (Or.inl rfl) (pe_has h__law_next (hr.mono (by decide)) pass0 (pa_cons (pv 0) (pa_cons pe_int pa_nil))))
      (pss_cons (ps_set (i := 3) sc__law_onto.nd rfl (Or.inl rfl) (pe_has h__law_next (hr.mono (by decide)) pass0 (pa_cons (pv 0) (pa_cons pe_int pa_nil))))
      (pss_cons (ps_set (i := 4) sc__law_onto.nd rfl (Or.inl rfl) (pe_has h__law_pick (hr.mono (by decide)) pass0 (pa_cons (pv 0) (pa_cons (pe_tup (pa_cons (pe_tup (pa_cons pe_int (pa_cons pe_int pa_nil))) (pa_cons (pe_tup (pa_cons pe_int (pa_cons pe_int pa_nil))) (pa_cons (pe_tup (pa_cons pe_int (pa_cons pe_int pa_nil))) (pa_cons (pe_tup (pa_cons pe_int (pa_cons pe_int pa_nil))) (pa_cons (pe_tup (pa_cons pe_int (pa_cons (pe_un un_neg pe_int) pa_nil))) pa_nil)))))) pa_nil))))
      (pss_cons (ps_setM (i := 5) sc__law_onto.nd rfl (Or.inl rfl) (pe_lst pa_nil))
      (pss_cons (ps_for PassesOwn.never rfl (pi_range1 (by rfl) B.range (pa_cons (pv 1) pa_nil)) (pg_name (i := 6) sc__law_onto.nd rfl (Or.inl rfl)) (pss_cons (ps_set (i := 7) sc__law_onto.nd rfl (Or.inl rfl) (pe_has h__law_next (hr.mono (by decide)) pass0 (pa_cons (pv 0) (pa_cons pe_int pa_nil))))
      (pss_cons (ps_set (i := 8) sc__law_onto.nd rfl (Or.inl rfl) (pe_has h__law_next (hr.mono (by decide)) pass0 (pa_cons (pv 0) (pa_cons pe_int pa_nil))))
      (pss_one (ps_if (PW.pt (pw_and (pt_cmpR op_gt (pv 6) pe_int (nomark _)) (pw_and1 (pt_cmpR (kEq (K := K) hr.units) (pv 6) (pe_op op_sub (pv 1) pe_int) (nomark _))))) (pss_one (ps_expr (kApp (K := K) (pv 5) (pa_cons (pe_tup (pa_cons (pe_op (kAdd (K := K)) (pe_op (kAdd (K := K)) (pv 2) (pe_op op_mulG (pv 7) (pe_ix (kIx (K := K)) (pv 4) pe_int (fun _ _ => rfl)))) (pe_ix (kIx (K := K)) (pv 4) pe_int (fun _ _ => rfl))) (pa_cons (pe_op op_sub (pe_op (kAdd (K := K)) (pv 3) (pe_op op_mulG (pv 7) (pe_ix (kIx (K := K)) (pv 4) pe_int (fun _ _ => rfl)))) (pe_ix (kIx (K := K)) (pv 4) pe_int (fun _ _ => rfl))) (pa_cons (pe_op op_sub (pe_op (kAdd (K := K)) (pv 2) (pe_op op_mulG (pv 8) (pe_ix (kIx (K := K)) (pv 4) pe_int (fun _ _ => rfl)))) (pe_ix (kIx (K := K)) (pv 4) pe_int (fun _ _ => rfl))) (pa_cons (pe_op (kAdd (K := K)) (pe_op (kAdd (K := K)) (pv 3) (pe_op op_mulG (pv 8) (pe_ix (kIx (K := K)) (pv 4) pe_int (fun _ _ => rfl)))) (pe_ix (kIx (K := K)) (pv 4) pe_int (fun _ _ => rfl))) pa_nil))))) pa_nil)))) (pss_one (ps_expr (kApp (K := K) (pv 5) (pa_cons (pe_tup (pa_cons (pe_op (kAdd (K := K)) (pv 2) (pe_op op_mulG (pv 7) (pe_ix (kIx (K := K)) (pv 4) pe_int (fun _ _ => rfl)))) (pa_cons (pe_op (kAdd (K := K)) (pv 3) (pe_op op_mulG (pv 7) (pe_ix (kIx (K := K)) (pv 4) pe_int (fun _ _ => rfl)))) (pa_cons (pe_op (kAdd (K := K)) (pv 2) (pe_op op_mulG (pv 8) (pe_ix (kIx (K := K)) (pv 4) pe_int (fun _ _ => rfl)))) (pa_cons (pe_op (kAdd (K := K)) (pv 3) (pe_op op_mulG (pv 8) (pe_ix (kIx (K := K)) (pv 4) pe_int (fun _ _ => rfl)))) pa_nil))))) pa_nil)))))))))
      (pss_one (ps_ret (pv 5)))))))), fun as k hc => ?_⟩
  try dsimp only [cxOf]
  clear hr E H s outer A cdv f d B
  obtain ⟨rfl, q⟩ := hc
  simp only [st0, List.map_cons, List.map_nil, List.replicate, List.cons_append, List.nil_append]
  walk_at "w"
  refine ⟨_, rfl, by decide, lt_9000 (by decide) (by decide), fun x x1 x2 => ?_⟩
  walk_at "w"
  refine ⟨_, rfl, by decide, lt_9000 (by decide) (by decide), fun y y1 y2 => ?_⟩
  walk_at "w"
  refine ⟨_, _, rfl, .inl rfl, by decide, by decide, fun d hd => ?_⟩
  obtain ⟨u, v, rfl, hu, hv⟩ := okPs (b := 2) (by decide) hd
  walk_at "w"
  refine s_forR ?_
  walk_at "w"
  refine ⟨by decide, by decide, fun i ρ' => ∃ l s1 s2 s3, ρ' = [some (.o (.ref S.a)), some (.i (.int 5)), some (.i (.int x)), some (.i (.int y)), some (.i (.tuple [.int u, .int v])), some (.m l), s1, s2, s3] ∧ Rws i l, ⟨_, _, _, _, rfl, Rws.nil⟩, fun i ρ' hi ⟨l, s1, s2, s3, hρ, hl⟩ => ?_, fun ρ' ⟨l, s1, s2, s3, hρ, hl⟩ => ?_⟩
  · subst hρ
    have hn := hl.1
    walk_at "w"
    refine ⟨_, rfl, by decide, lt_9000 (by decide) (by decide), fun m m1 m2 => ?_⟩
    walk_at "w"
    refine ⟨_, rfl, by decide, lt_9000 (by decide) (by decide), fun n n1 n2 => ?_⟩
    walk_at "w"
    have g1 : (m * u).natAbs ≤ 12 := by rw [Int.natAbs_mul]; exact Nat.mul_le_mul (show m.natAbs ≤ 6 by omega) (show u.natAbs ≤ 2 by omega)
    have g2 : (m * v).natAbs ≤ 12 := by rw [Int.natAbs_mul]; exact Nat.mul_le_mul (show m.natAbs ≤ 6 by omega) (show v.natAbs ≤ 2 by omega)
    have g3 : (n * u).natAbs ≤ 12 := by rw [Int.natAbs_mul]; exact Nat.mul_le_mul (show n.natAbs ≤ 6 by omega) (show u.natAbs ≤ 2 by omega)
    have g4 : (n * v).natAbs ≤ 12 := by rw [Int.natAbs_mul]; exact Nat.mul_le_mul (show n.natAbs ≤ 6 by omega) (show v.natAbs ≤ 2 by omega)
    refine yn (fun h => ?_) (fun h => ?_)
    · walk_at "w"
      refine yn (fun h => ?_) (fun h => ?_)
      · walk_at "w"
        refine b_mulI (mulx (a := 8) (b := 8) (by omega) (by omega) (by decide)) ?_
        walk_at "w"
        refine b_mulI (mulx (a := 8) (b := 8) (by omega) (by omega) (by decide)) ?_
        walk_at "w"
        refine b_mulI (mulx (a := 8) (b := 8) (by omega) (by omega) (by decide)) ?_
        walk_at "w"
        refine b_mulI (mulx (a := 8) (b := 8) (by omega) (by omega) (by decide)) ?_
        walk_at "w"
        exact ⟨by omega, _, _, _, _, rfl, hl.app (.one (by omega) (by omega) (by omega) (by omega))⟩
      · walk_at "w"
        refine b_mulI (mulx (a := 8) (b := 8) (by omega) (by omega) (by decide)) ?_
        walk_at "w"
        refine b_mulI (mulx (a := 8) (b := 8) (by omega) (by omega) (by decide)) ?_
        walk_at "w"
        refine b_mulI (mulx (a := 8) (b := 8) (by omega) (by omega) (by decide)) ?_
        walk_at "w"
        refine b_mulI (mulx (a := 8) (b := 8) (by omega) (by omega) (by decide)) ?_
        walk_at "w"
        exact ⟨by omega, _, _, _, _, rfl, hl.app (.one (by omega) (by omega) (by omega) (by omega))⟩
    · walk_at "w"
      refine b_mulI (mulx (a := 8) (b := 8) (by omega) (by omega) (by decide)) ?_
      walk_at "w"
      refine b_mulI (mulx (a := 8) (b := 8) (by omega) (by omega) (by decide)) ?_
      walk_at "w"
      refine b_mulI (mulx (a := 8) (b := 8) (by omega) (by omega) (by decide)) ?_
      walk_at "w"
      refine b_mulI (mulx (a := 8) (b := 8) (by omega) (by omega) (by decide)) ?_
      walk_at "w"
      exact ⟨by omega, _, _, _, _, rfl, hl.app (.one (by omega) (by omega) (by omega) (by omega))⟩
  · subst hρ
    walk_at "w"
    exact q _ hl
/-- pairs of whole numbers -/
def isP (d : D) : Prop := ∃ x y : Int, d = .tuple [.int x, .int y] ∧ x.natAbs ≤ 40 ∧ y.natAbs ≤ 40
def catD : D → D → D
  | .tuple x, .tuple y => .tuple (x ++ y)
  | d, _ => d
theorem isP_cat {x y : D} (hx : isP x) (hy : isP y) : isR (catD x y) := by
  obtain ⟨a, b, rfl, h1, h2⟩ := hx
  obtain ⟨c, d, rfl, h3, h4⟩ := hy
  exact ⟨⟨a, b, c, d⟩, rfl, h1, h2, h3, h4⟩
theorem at_wrap {ds : List D} {r : Int} (h0 : -(ds.length : Int) ≤ r) (h1 : r < (ds.length : Int)) : ∃ d, atI ds r = some d ∧ d ∈ ds := by
  by_cases h : 0 ≤ r
  · exact at_in h h1
  · have h2 : (r + ds.length).toNat < ds.length := by omega
    refine ⟨ds[(r + ds.length).toNat], ?_, List.getElem_mem h2⟩
    unfold atI ixN
    rw [if_neg h, if_pos h0]
    exact List.getElem?_eq_getElem h2
theorem w_cat {Γ : Gam} {x y : D} {k : D → Prop} (hx : isP x) (hy : isP y) (q : k (catD x y)) : RB Γ (rAddG Γ.K) x y k := by
  obtain ⟨a, b, rfl, _, _⟩ := hx
  obtain ⟨c, d, rfl, _, _⟩ := hy
  exact b_addT (Nat.le_of_ble_eq_true rfl) q
/-- in a turn of a comprehension over range: the list so far -/
def c_sides : Con := fun as k => ∃ ds : List D, as = [.i (.list ds)] ∧ (∀ d ∈ ds, isP d) ∧ 0 < ds.length ∧ ds.length ≤ 20 ∧ ∀ es, Rws ds.length es → k (.list es)
abbrev n__law_sides : List Str := ["spots", "k"]
abbrev s__law_sides : Stmt := top 93
theorem sc__law_sides : FnScope ["spots", "k"] ["spots"] (defScope s__law_sides) := ⟨rfl, rfl, rfl, by decide +kernel, rfl, by decide +kernel, by decide +kernel⟩
theorem h__law_sides (B : Bl mg) (d : DefAt K mg "_law_sides" s__law_sides []) : Has P w K mg base CX0 "_law_sides" 1 [] (spOf K none (c_sides)) := by
  refine d.pure sc__law_sides (fun _ _ _ _ _ _ us hl => match us, hl with | [_], _ => rfl) 1 rfl (fun as k ⟨_, e, _⟩ => by rw [e]; rfl) fun f cdv A outer s H E hr => ⟨_, (pss_one (ps_ret (pe_lc (own := [("k", 1)]) (g := gName 1) (tt := tYes) rfl sc__law_sides.nd (pi_range1 (by rfl) B.range (pa_cons (pe_callB (kLen (K := K)) (by rfl) B.len (by decide +kernel) (pa_cons (pv 0) pa_nil)) pa_nil)) (blkOk_by (own := [("k", 1)]) (N := n__law_sides) (sc := defScope s__law_sides) (by decide +kernel)) (fun _ _ _ _ _ => (pg_name (i := 1) sc__law_sides.nd rfl (Or.inl rfl))) (fun _ _ _ _ _ => pts_nil) (fun _ _ _ _ _ => (pe_op (kAdd (K := K)) (pe_ix (kIx (K := K)) (pv 0) (pv 1) (fun _ _ => rfl)) (pe_ix (kIx (K := K)) (pv 0) (pe_op op_mod (pe_callTy call_intG (by rfl) B.int (by decide +kernel) (pa_cons (pe_op (kAdd (K := K)) (pv 1) pe_int) pa_nil)) (pe_callB (kLen (K := K)) (by rfl) B.len (by decide +kernel) (pa_cons (pv 0) pa_nil))) (fun _ _ => rfl))))))), fun as k hc => ?_⟩
  try dsimp only [cxOf]
  clear hr E H s outer A cdv f d B
  obtain ⟨ds, rfl, hp, h0, hz, q⟩ := hc
  simp only [st0, List.map_cons, List.map_nil, List.replicate, List.cons_append, List.nil_append]
  refine p_ret (w_lcR ?_)
  walk_at "w"
  refine ⟨by omega, by omega, fun i acc => Rws i acc, Rws.nil, fun i hi acc ha => ?_, fun acc ha => q acc ha⟩
  refine ⟨_, g_name, rfl, t_yes ⟨fun _ => ?_, fun e => by cases e⟩⟩
  walk_at "w"
  have hi2 : i < ds.length := by omega
  refine rb_ixL (atI_get (List.getElem?_eq_getElem hi2)) ?_
  walk_at "w"
  refine rb_c (show (0 : Int) < (ds.length : Int) by omega) ?_
  walk_at "w"
  have e : ((i : Int) + 1) % (ds.length : Int) = (((i + 1) % ds.length : Nat) : Int) := by
    rw [Int.natCast_emod]
    rfl
  rw [e]
  have hj2 : (i + 1) % ds.length < ds.length := Nat.mod_lt _ h0
  refine rb_ixL (atI_get (List.getElem?_eq_getElem hj2)) ?_
  have p1 := hp _ (List.getElem_mem hi2)
  have p2 := hp _ (List.getElem_mem hj2)
  refine w_cat p1 p2 ⟨?_, ?_⟩
  · have := ha.1
    omega
  · exact ha.app (m := 1) ⟨Nat.le_refl _, fun x hx => by
      rcases List.mem_cons.mp hx with rfl | hx
      · exact isP_cat p1 p2
      · exact absurd hx List.not_mem_nil⟩
abbrev n__law_loop : List Str := ["stream", "many", "spots", "turn", "k"]
abbrev s__law_loop : Stmt := top 92
theorem sc__law_loop : FnScope ["stream", "many", "spots", "turn", "k"] ["stream", "many"] (defScope s__law_loop) := ⟨rfl, rfl, rfl, by decide +kernel, rfl, by decide +kernel, by decide +kernel⟩
theorem h__law_loop (B : Bl mg) (d : DefAt K mg "_law_loop" s__law_loop []) (h__law_next : Has P w K mg base CX0 "_law_next" 1 [] (spOf K (some S) (c_next S))) : Has P w K mg base CX0 "_law_loop" 2 [] (spOf K (some S) (c_rowsN S 5)) := by
  refine d.pure sc__law_loop (fun _ _ _ _ _ _ us hl => match us, hl with | [_, _], _ => rfl) 3 rfl (fun as k ⟨e, _⟩ => by rw [e]; rfl) fun f cdv A outer s H E hr => ⟨_, (pss_cons (ps_set (i := 2) sc__law_loop.nd rfl (Or.inr rfl) (pe_lc (own := [("turn", 3)]) (g := gName 3) (tt := tYes) rfl sc__law_loop.nd (pi_range1 (by rfl) B.range (pa_cons (pv 1) pa_nil)) (blkOk_by (own := [("turn", 3)]) (N := n__law_loop) (sc := defScope s__law_loop) (by decide +kernel)) (fun _ _ _ _ _ => (pg_name (i := 3) sc__law_loop.nd rfl (Or.inl rfl))) (fun _ _ _ _ _ => pts_nil) (fun _ _ _ _ _ => (pe_tup (pa_cons (pe_has h__law_next (hr.mono (by decide)) pass0 (pa_cons (pv 0) (pa_cons pe_int pa_nil))) (pa_cons (pe_has h__law_next (hr.mono (by decide)) pass0 (pa_cons (pv 0) (pa_cons pe_int pa_nil))) pa_nil))))))
      (pss_one (ps_ret (pe_lc (own := [("k", 4)]) (g := gName 4) (tt := tYes) rfl sc__law_loop.nd (pi_range1 (by rfl) B.range (pa_cons (pv 1) pa_nil)) (blkOk_by (own := [("k", 4)]) (N := n__law_loop) (sc := defScope s__law_loop) (by decide +kernel)) (fun _ _ _ _ _ => (pg_name (i := 4) sc__law_loop.nd rfl (Or.inl rfl))) (fun _ _ _ _ _ => pts_nil) (fun _ _ _ _ _ => (pe_op (kAdd (K := K)) (pe_ix (kIx (K := K)) (pv 2) (pv 4) (fun _ _ => rfl)) (pe_ix (kIx (K := K)) (pv 2) (pe_op op_sub (pv 4) pe_int) (fun _ _ => rfl)))))))), fun as k hc => ?_⟩
  try dsimp only [cxOf]
  clear hr E H s outer A cdv f d B
  obtain ⟨rfl, q⟩ := hc
  simp only [st0, List.map_cons, List.map_nil, List.replicate, List.cons_append, List.nil_append]
  walk_at "w"
  refine w_lcR ?_
  walk_at "w"
  refine ⟨by decide, by decide, fun i acc => acc.length = i ∧ ∀ d ∈ acc, isP d, ⟨rfl, fun d h => absurd h List.not_mem_nil⟩, fun i hi acc ha => ?_, fun ds hd => ?_⟩
  · refine ⟨_, g_name, rfl, t_yes ⟨fun _ => ?_, fun e => by cases e⟩⟩
    walk_at "w"
    refine ⟨_, rfl, by decide, lt_9000 (by decide) (by decide), fun r r1 r2 => ?_⟩
    walk_at "w"
    refine ⟨_, rfl, by decide, lt_9000 (by decide) (by decide), fun t t1 t2 => ?_⟩
    walk_at "w"
    refine ⟨by have := ha.1; omega, by show _ = _; rw [List.length_append, ha.1]; rfl, fun d hd => ?_⟩
    rcases List.mem_append.mp hd with h | h
    · exact ha.2 d h
    rcases List.mem_cons.mp h with rfl | h
    · exact ⟨_, _, rfl, by omega, by omega⟩
    · exact absurd h List.not_mem_nil
  · obtain ⟨hl, hp⟩ := hd
    have hl5 : ds.length = 5 := hl
    walk_at "w"
    refine w_lcR ?_
    walk_at "w"
    refine ⟨by decide, by decide, fun i acc => Rws i acc, Rws.nil, fun i hi acc ha => ?_, fun acc ha => q acc ha⟩
    refine ⟨_, g_name, rfl, t_yes ⟨fun _ => ?_, fun e => by cases e⟩⟩
    walk_at "w"
    obtain ⟨x, e1, m1⟩ := at_wrap (ds := ds) (r := (i : Int)) (by omega) (by omega)
    obtain ⟨y, e2, m2⟩ := at_wrap (ds := ds) (r := (i : Int) - 1) (by omega) (by omega)
    refine rb_ixL e1 ?_
    walk_at "w"
    refine rb_ixL e2 ?_
    refine w_cat (hp _ m1) (hp _ m2) ⟨?_, ?_⟩
    · have := ha.1
      omega
    · exact ha.app (m := 1) ⟨Nat.le_refl _, fun z hz => by
        rcases List.mem_cons.mp hz with rfl | hz
        · exact isP_cat (hp _ m1) (hp _ m2)
        · exact absurd hz List.not_mem_nil⟩
theorem isP_all {ds : List D} (h : ds.all (okP 40) = true) : ∀ d ∈ ds, isP d := fun d hd => by
  obtain ⟨x, y, e, h1, h2⟩ := okPs h hd
  exact ⟨x, y, e, h1, h2⟩
abbrev n__law_nested : List Str := ["stream", "many", "rows", "k", "a", "spots", "turn", "x", "y"]
abbrev s__law_nested : Stmt := top 94
theorem sc__law_nested : FnScope ["stream", "many", "rows", "k", "a", "spots", "turn", "x", "y"] ["stream", "many"] (defScope s__law_nested) := ⟨rfl, rfl, rfl, by decide +kernel, rfl, by decide +kernel, by decide +kernel⟩
theorem h__law_nested (B : Bl mg) (d : DefAt K mg "_law_nested" s__law_nested []) (h__law_from : Has P w K mg base CX0 "_law_from" 2 [] (spOf K (some S) (c_from S))) (h__law_sides : Has P w K mg base CX0 "_law_sides" 1 [] (spOf K none (c_sides))) (h__law_next : Has P w K mg base CX0 "_law_next" 1 [] (spOf K (some S) (c_next S))) (h__law_pick : Has P w K mg base CX0 "_law_pick" 2 [] (spOf K (some S) (c_pick S))) : Has P w K mg base CX0 "_law_nested" 3 [] (spOf K (some S) (c_rowsN S 5)) := by
  refine d.pure sc__law_nested (fun _ _ _ _ _ _ us hl => match us, hl with | [_, _], _ => rfl) 7 rfl (fun as k ⟨e, _⟩ => by rw [e]; rfl) fun f cdv A outer s H E hr => ⟨_, (pss_cons (ps_setM (i := 2) sc__law_nested.nd rfl (Or.inl rfl) (pe_lst pa_nil))
      (pss_cons (ps_for PassesOwn.never rfl (pi_range1 (by rfl) B.range (pa_cons (pe_callB (call_minG rfl) (by rfl) B.min (by decide +kernel) (pa_cons pe_int (pa_cons (pe_op op_fdivX (pv 1) pe_int) pa_nil))) pa_nil)) (pg_name (i := 3) sc__law_nested.nd rfl (Or.inl rfl)) (pss_cons (ps_set (i := 4) sc__law_nested.nd rfl (Or.inl rfl) (pe_op op_mulG pe_int (pv 3)))
      (pss_cons (ps_set (i := 5) sc__law_nested.nd rfl (Or.inl rfl) (pe_lst (pa_cons (pe_tup (pa_cons (pv 4) (pa_cons (pv 4) pa_nil))) (pa_cons (pe_tup (pa_cons (pe_op op_sub pe_int (pe_op op_mulG pe_int (pv 4))) (pa_cons (pv 4) pa_nil))) (pa_cons (pe_tup (pa_cons (pv 4) (pa_cons (pe_op op_sub pe_int (pe_op op_mulG pe_int (pv 4))) pa_nil))) pa_nil)))))
      (pss_cons (ps_if (PW.pt (pw_and (pt_cmpR op_gt (pv 3) pe_int (nomark _)) (pw_and1 (pt_cmpR (kEq (K := K) hr.units) (pe_has h__law_next (hr.mono (by decide)) pass0 (pa_cons (pv 0) (pa_cons pe_int pa_nil))) pe_int (nomark _))))) (pss_one (ps_set (i := 5) sc__law_nested.nd rfl (Or.inl rfl) (pe_op (kAdd (K := K)) (pe_lst (pa_cons (pe_has h__law_pick (hr.mono (by decide)) pass0 (pa_cons (pv 0) (pa_cons (pe_tup (pa_cons (pe_tup (pa_cons pe_int (pa_cons pe_int pa_nil))) (pa_cons (pe_tup (pa_cons pe_int (pa_cons pe_int pa_nil))) (pa_cons (pe_tup (pa_cons pe_int (pa_cons pe_int pa_nil))) pa_nil)))) pa_nil))) pa_nil)) (pe_has h__law_pick (hr.mono (by decide)) pass0 (pa_cons (pv 0) (pa_cons (pe_tup (pa_cons (pe_lst (pa_cons (pe_tup (pa_cons pe_int (pa_cons pe_int pa_nil))) (pa_cons (pe_tup (pa_cons pe_int (pa_cons pe_int pa_nil))) pa_nil))) (pa_cons (pe_lst (pa_cons (pe_tup (pa_cons pe_int (pa_cons pe_int pa_nil))) (pa_cons (pe_tup (pa_cons pe_int (pa_cons pe_int pa_nil))) pa_nil))) pa_nil))) pa_nil)))))) pss_nil)
      (pss_one (ps_setM (i := 2) sc__law_nested.nd rfl (Or.inl rfl) (pe_op (kAdd (K := K)) (pv 2) (pe_has h__law_sides (hr.mono (by decide)) pass0 (pa_cons (pv 5) pa_nil)))))))))
      (pss_cons (ps_for PassesOwn.never rfl (pi_range1 (by rfl) B.range (pa_cons (pe_op op_sub (pv 1) (pe_callB (kLen (K := K)) (by rfl) B.len (by decide +kernel) (pa_cons (pv 2) pa_nil))) pa_nil)) (pg_name (i := 6) sc__law_nested.nd rfl (Or.inl rfl)) (pss_cons (ps_set (i := 7) sc__law_nested.nd rfl (Or.inl rfl) (pe_has h__law_from (hr.mono (by decide)) pass0 (pa_cons (pv 0) (pa_cons pe_int (pa_cons pe_int pa_nil)))))
      (pss_cons (ps_set (i := 8) sc__law_nested.nd rfl (Or.inl rfl) (pe_has h__law_from (hr.mono (by decide)) pass0 (pa_cons (pv 0) (pa_cons pe_int (pa_cons pe_int pa_nil)))))
      (pss_one (ps_expr (kApp (K := K) (pv 2) (pa_cons (pe_tup (pa_cons (pv 7) (pa_cons (pv 8) (pa_cons (pv 7) (pa_cons (pv 8) pa_nil))))) pa_nil)))))))
      (pss_one (ps_ret (pv 2)))))), fun as k hc => ?_⟩
  try dsimp only [cxOf]
  clear hr E H s outer A cdv f d B
  obtain ⟨rfl, q⟩ := hc
  simp only [st0, List.map_cons, List.map_nil, List.replicate, List.cons_append, List.nil_append]
  walk_at "w"
  refine s_forR ?_
  walk_at "w"
  refine rb_c (divx (b := 9) (by decide) (by decide) (by decide) (by decide)) ?_
  walk_at "w"
  refine ⟨by decide, by decide, fun i ρ' => ∃ l s1 s2 s3 s4 s5 s6, ρ' = [some (.o (.ref S.a)), some (.i (.int 5)), some (.m l), s1, s2, s3, s4, s5, s6] ∧ Rws (3 * i) l, ⟨_, _, _, _, _, _, _, rfl, Rws.nil⟩, fun i ρ' hi ⟨l, s1, s2, s3, s4, s5, s6, hρ, hl⟩ => ?_, fun ρ' ⟨l, s1, s2, s3, s4, s5, s6, hρ, hl⟩ => ?_⟩
  · subst hρ
    have hi0 : i = 0 := by
      have : (i : Int) < 1 := hi
      omega
    subst hi0
    walk_at "w"
    refine b_mulI (mulx (a := 9) (b := 9) (by decide) (by decide) (by decide)) ?_
    walk_at "w"
    refine b_mulI (mulx (a := 9) (b := 9) (by decide) (by decide) (by decide)) ?_
    walk_at "w"
    refine b_mulI (mulx (a := 9) (b := 9) (by decide) (by decide) (by decide)) ?_
    walk_at "w"
    refine ⟨_, rfl, isP_all (by decide), by decide, by decide, fun es he => ?_⟩
    walk_at "w"
    refine ⟨by have := hl.1; have := he.1; have h3 : es.length ≤ 3 := he.1; omega, _, _, _, _, _, _, _, rfl, hl.app he⟩
  · subst hρ
    have hl3 : Rws 3 l := hl
    have hn := hl3.1
    refine s_seq (p_forR ?_)
    walk_at "w"
    refine ⟨by omega, by omega, fun i ρ' => ∃ l' s1 s2 s3 s4 s5 s6, ρ' = [some (.o (.ref S.a)), some (.i (.int 5)), some (.m l'), s1, s2, s3, s4, s5, s6] ∧ Rws (l.length + i) l', ⟨_, _, _, _, _, _, _, rfl, ⟨Nat.le_refl _, hl3.2⟩⟩, fun i ρ' hi ⟨l', s1, s2, s3, s4, s5, s6, hρ, hl⟩ => ?_, fun ρ' ⟨l', s1, s2, s3, s4, s5, s6, hρ, hl⟩ => ?_⟩
    · subst hρ
      walk_at "w"
      refine ⟨_, _, rfl, by decide, by decide, fun x x1 x2 => ?_⟩
      walk_at "w"
      refine ⟨_, _, rfl, by decide, by decide, fun y y1 y2 => ?_⟩
      walk_at "w"
      exact ⟨by have := hl.1; omega, _, _, _, _, _, _, _, rfl, hl.app (.one (by omega) (by omega) (by omega) (by omega))⟩
    · subst hρ
      walk_at "w"
      exact q _ (hl.mono (by omega))
end K88
/-! T17 -/
namespace K88
open PySem PySem.Spec PyProof.Rows L2 AL
local macro_rules | `(tactic| walk_at "bd") => `(tactic| first
  | assumption
  | (apply Sz.n; assumption)
  | (apply Sz.d; assumption)
  | ((with_reducible apply lt_mul); (case h1 => walk_at "bd"); (case h2 => walk_at "bd"))
  | ((with_reducible apply lt_addx); (case h1 => walk_at "bd"); (case h2 => walk_at "bd"))
  | ((with_reducible apply lt_subx); (case h1 => walk_at "bd"); (case h2 => walk_at "bd"))
  | ((with_reducible apply lt_neg); (case h => walk_at "bd")))
local macro_rules | `(tactic| walk_at "nz") => `(tactic| first
  | assumption
  | exact dnz _
  | ((with_reducible apply inz); (case h1 => walk_at "nz"); (case h2 => walk_at "nz")))
local macro_rules | `(tactic| walk_at "w") => `(tactic| repeat (first
  | with_reducible apply w_int
  | ((with_reducible apply w_var); (case h => exact rfl))
  | with_reducible apply wl_cons
  | with_reducible apply wl_nil
  | ((with_reducible refine And.intro (Nat.le_of_ble_eq_true ?hlen) ?_); (case hlen => exact rfl))
  | with_reducible apply w_tup
  | with_reducible apply w_op
  | with_reducible apply s_seq
  | ((with_reducible apply wa_consO); (case h => exact rfl))
  | with_reducible apply wa_cons
  | with_reducible apply wa_nil
  | with_reducible apply ru_i
  | with_reducible apply w_un
  | with_reducible apply s_asg
  | with_reducible apply w_call0
  | with_reducible apply w_callD2
  | with_reducible apply w_callD1
  | ((with_reducible apply w_callX0); (case hz => exact rfl))
  | ((with_reducible apply w_callXS); (case hz => exact rfl))
  | with_reducible apply w_callZ
  | with_reducible apply b_addI
  | ((with_reducible apply rb_ixT); (case e => exact rfl))
  | ((with_reducible apply rb_ixL); (case e => exact rfl))
  | with_reducible apply w_str
  | with_reducible apply w_lst
  | with_reducible apply w_sl
  | with_reducible apply o_none
  | with_reducible apply o_some
  | with_reducible apply sG_T
  | with_reducible apply sG_L
  | ((with_reducible apply s_app); (case e => exact rfl))
  | with_reducible apply s_drop
  | with_reducible apply w_if
  | with_reducible apply p_if
  | with_reducible apply t_test
  | with_reducible apply b_eqI
  | with_reducible apply s_next
  | with_reducible apply p_ret
  | ((with_reducible apply b_mulI); (case hc => (apply mulx; (case h1 => walk_at "bd"); (case h2 => walk_at "bd"); (case h => omega))))
  | with_reducible apply b_sub
  | with_reducible apply s_raiseK
  | with_reducible apply w_isT
  | with_reducible apply w_isL
  | with_reducible apply w_isI
  | with_reducible apply w_isB
  | with_reducible apply w_isS
  | with_reducible apply w_isN
  | with_reducible apply w_notN
  | with_reducible apply w_or
  | with_reducible apply w_and
  | with_reducible apply w_not
  | with_reducible apply w_chain
  | with_reducible apply w_cb
  | with_reducible apply t_or
  | with_reducible apply t_and
  | with_reducible apply t_not
  | with_reducible apply t_yes
  | ((with_reducible apply b_addT); (case hz => exact Nat.le_of_ble_eq_true rfl))
  | ((with_reducible apply b_addL); (case hz => exact Nat.le_of_ble_eq_true rfl))
  | with_reducible apply s_break
  | with_reducible apply rb_b
  | with_reducible apply t_truthI
  | with_reducible apply b_neI
  | with_reducible apply b_eqS
  | with_reducible apply b_eqB
  | with_reducible apply b_neB
  | with_reducible apply w_bl
  | with_reducible apply w_non
  | with_reducible apply t_B
  | with_reducible apply m_lst
  | ((with_reducible apply m_catO); (case e => exact rfl))
  | with_reducible apply m_cat
  | with_reducible apply m_list
  | with_reducible apply w_lcLU
  | with_reducible apply w_lcTU
  | with_reducible apply s_forTU
  | with_reducible apply s_forLU
  | (with_reducible apply lcU_nil)
  | (with_reducible apply unr_nil)
  | with_reducible apply unr_one
  | ((with_reducible show LcU _ _ _ _ _ _ _ _ _); (refine lcU_one rfl (Nat.lt_of_succ_le (Nat.le_of_ble_eq_true rfl)) ?_))
  | ((with_reducible show (_ = true → _) ∧ (_ = false → _)); (first | refine ybt rfl ?_ | refine ybf rfl ?_))
  | ((with_reducible show (_ = false → _) ∧ (_ = true → _)); (first | refine obt rfl ?_ | refine obf rfl ?_))
  | with_reducible apply yt
  | with_reducible apply yf
  | with_reducible apply fy
  | with_reducible apply ft
  | ((with_reducible apply f_frz); (case e => exact rfl))
  | with_reducible apply s_asgG
  | (refine Exists.intro _ (And.intro (g_lst (by repeat (first | exact gs_nil | apply gs_one)) rfl) ?_))
  | (refine Exists.intro _ (And.intro (g_tup (by repeat (first | exact gs_nil | apply gs_one)) rfl) ?_))
  | with_reducible apply c_lenL
  | with_reducible apply c_lenT
  | with_reducible apply c_listL
  | with_reducible apply c_listT
  | with_reducible apply c_tupL
  | with_reducible apply c_abs
  | with_reducible apply c_int
  | with_reducible apply c_min
  | with_reducible apply rc_gcd
  | with_reducible apply rb_b
  | (refine And.intro (Nat.lt_of_succ_le (Nat.le_of_ble_eq_true rfl)) ?_)
  | with_reducible refine Exists.intro _ (And.intro rfl ?_)
  | refine And.intro (Nat.le_of_ble_eq_true rfl) ?_
  ))
variable {P : Program} {w : World} {K : PySem.W.Frag} {mg : Str → Option Value} {base : Heap}
variable {S : Zs}
theorem cutP_take {ds : List D} {n : Nat} : cutP ds none (some (n : Int)) = ds.take n := by
  unfold cutP
  have e0 : HT.sIx ds.length 0 none = 0 := rfl
  have e1 : HT.sIx ds.length ds.length (some (n : Int)) = min n ds.length := HT.sIx_nat _ _ _
  rw [e0, e1, List.drop_zero, Nat.sub_zero]
  by_cases h : n ≤ ds.length
  · rw [Nat.min_eq_left h]
  · rw [Nat.min_eq_right (by omega), List.take_length, List.take_of_length_le (by omega)]
def okR : D → Bool
  | .tuple [.int a, .int b, .int c, .int d] => decide (a.natAbs ≤ 40) && (decide (b.natAbs ≤ 40) && (decide (c.natAbs ≤ 40) && decide (d.natAbs ≤ 40)))
  | _ => false
theorem okR_of {d : D} (h : okR d = true) : isR d := by
  match d, h with
  | .tuple [.int a, .int b, .int c, .int d], h =>
    have h2 : (decide (a.natAbs ≤ 40) && (decide (b.natAbs ≤ 40) && (decide (c.natAbs ≤ 40) && decide (d.natAbs ≤ 40)))) = true := h
    simp only [Bool.and_eq_true, decide_eq_true_eq] at h2
    obtain ⟨g1, g2, g3, g4⟩ := h2
    exact ⟨⟨a, b, c, d⟩, rfl, g1, g2, g3, g4⟩
def okL : D → Bool
  | .list ds => ds.all (okP 40) && (decide (0 < ds.length) && decide (ds.length ≤ 20))
  | _ => false
theorem okLs {es : List D} (h : es.all okL = true) {d : D} (hd : d ∈ es) : ∃ ds, d = .list ds ∧ (∀ x ∈ ds, isP x) ∧ 0 < ds.length ∧ ds.length ≤ 20 := by
  have h1 := List.all_eq_true.mp h d hd
  cases d with
  | list ds =>
    have h2 : (ds.all (okP 40) && (decide (0 < ds.length) && decide (ds.length ≤ 20))) = true := h1
    rw [Bool.and_eq_true, Bool.and_eq_true] at h2
    exact ⟨ds, rfl, isP_all h2.1, of_decide_eq_true h2.2.1, of_decide_eq_true h2.2.2⟩
  | _ => cases h1
theorem rws_all {n : Nat} {ds : List D} (h : ds.all okR = true) (hl : ds.length ≤ n) : Rws n ds := ⟨hl, fun d hd => okR_of (List.all_eq_true.mp h d hd)⟩
abbrev n__law_spiked : List Str := ["stream", "many", "rows", "turn", "spot"]
abbrev s__law_spiked : Stmt := top 95
theorem sc__law_spiked : FnScope ["stream", "many", "rows", "turn", "spot"] ["stream", "many"] (defScope s__law_spiked) := ⟨rfl, rfl, rfl, by decide +kernel, rfl, by decide +kernel, by decide +kernel⟩
theorem h__law_spiked (B : Bl mg) (d : DefAt K mg "_law_spiked" s__law_spiked []) (h__law_from : Has P w K mg base CX0 "_law_from" 2 [] (spOf K (some S) (c_from S))) (h__law_pick : Has P w K mg base CX0 "_law_pick" 2 [] (spOf K (some S) (c_pick S))) : Has P w K mg base CX0 "_law_spiked" 3 [] (spOf K (some S) (c_rowsN S 5)) := by
  refine d.pure sc__law_spiked (fun _ _ _ _ _ _ us hl => match us, hl with | [_, _], _ => rfl) 3 rfl (fun as k ⟨e, _⟩ => by rw [e]; rfl) fun f cdv A outer s H E hr => ⟨_, (pss_cons (ps_setM (i := 2) sc__law_spiked.nd rfl (Or.inl rfl) (pe_lst (pa_cons (pe_tup (pa_cons pe_int (pa_cons pe_int (pa_cons pe_int (pa_cons pe_int pa_nil))))) (pa_cons (pe_tup (pa_cons pe_int (pa_cons pe_int (pa_cons pe_int (pa_cons pe_int pa_nil))))) (pa_cons (pe_tup (pa_cons pe_int (pa_cons pe_int (pa_cons pe_int (pa_cons pe_int pa_nil))))) pa_nil)))))
      (pss_cons (ps_for PassesOwn.never rfl (pi_range1 (by rfl) B.range (pa_cons (pe_op op_sub (pv 1) pe_int) pa_nil)) (pg_name (i := 3) sc__law_spiked.nd rfl (Or.inl rfl)) (pss_cons (ps_set (i := 4) sc__law_spiked.nd rfl (Or.inl rfl) (pe_has h__law_pick (hr.mono (by decide)) pass0 (pa_cons (pv 0) (pa_cons (pe_tup (pa_cons (pe_tup (pa_cons pe_int (pa_cons pe_int pa_nil))) (pa_cons (pe_tup (pa_cons pe_int (pa_cons pe_int pa_nil))) (pa_cons (pe_tup (pa_cons pe_int (pa_cons pe_int pa_nil))) (pa_cons (pe_tup (pa_cons pe_int (pa_cons pe_int pa_nil))) (pa_cons (pe_tup (pa_cons pe_int (pa_cons pe_int pa_nil))) (pa_cons (pe_tup (pa_cons pe_int (pa_cons pe_int pa_nil))) (pa_cons (pe_tup (pa_cons pe_int (pa_cons pe_int pa_nil))) (pa_cons (pe_tup (pa_cons pe_int (pa_cons pe_int pa_nil))) pa_nil))))))))) pa_nil))))
      (pss_one (ps_expr (kApp (K := K) (pv 2) (pa_cons (pe_op (kAdd (K := K)) (pv 4) (pe_tup (pa_cons (pe_has h__law_from (hr.mono (by decide)) pass0 (pa_cons (pv 0) (pa_cons (pe_un un_neg pe_int) (pa_cons pe_int pa_nil)))) (pa_cons (pe_has h__law_from (hr.mono (by decide)) pass0 (pa_cons (pv 0) (pa_cons (pe_un un_neg pe_int) (pa_cons pe_int pa_nil)))) pa_nil)))) pa_nil))))))
      (pss_one (ps_ret (pe_slice (kSl (K := K)) (pv 2) po_none (po_some (pv 1))))))), fun as k hc => ?_⟩
  try dsimp only [cxOf]
  clear hr E H s outer A cdv f d B
  obtain ⟨rfl, q⟩ := hc
  simp only [st0, List.map_cons, List.map_nil, List.replicate, List.cons_append, List.nil_append]
  walk_at "w"
  refine s_forR ?_
  walk_at "w"
  refine ⟨by decide, by decide, fun i ρ' => ∃ l s1 s2, ρ' = [some (.o (.ref S.a)), some (.i (.int 5)), some (.m l), s1, s2] ∧ Rws (3 + i) l, ⟨_, _, _, rfl, ?_⟩, fun i ρ' hi ⟨l, s1, s2, hρ, hl⟩ => ?_, fun ρ' ⟨l, s1, s2, hρ, hl⟩ => ?_⟩
  · exact rws_all (by decide) (by decide)
  · subst hρ
    have hn := hl.1
    walk_at "w"
    refine ⟨_, _, rfl, .inl rfl, by decide, by decide, fun d hd => ?_⟩
    obtain ⟨x, y, rfl, hx, hy⟩ := okPs (b := 12) (by decide) hd
    walk_at "w"
    refine ⟨_, _, rfl, by decide, by decide, fun u u1 u2 => ?_⟩
    walk_at "w"
    refine ⟨_, _, rfl, by decide, by decide, fun v v1 v2 => ?_⟩
    walk_at "w"
    exact ⟨by omega, _, _, _, rfl, hl.app (.one (by omega) (by omega) (by omega) (by omega))⟩
  · subst hρ
    walk_at "w"
    rw [show cutP l none (some 5) = l.take 5 from cutP_take (n := 5)]
    exact q _ hl.take
abbrev n__law_grid : List Str := ["stream", "many", "a", "b", "rows", "k"]
abbrev s__law_grid : Stmt := top 96
theorem sc__law_grid : FnScope ["stream", "many", "a", "b", "rows", "k"] ["stream", "many"] (defScope s__law_grid) := ⟨rfl, rfl, rfl, by decide +kernel, rfl, by decide +kernel, by decide +kernel⟩
theorem h__law_grid (B : Bl mg) (d : DefAt K mg "_law_grid" s__law_grid []) (h__law_pick : Has P w K mg base CX0 "_law_pick" 2 [] (spOf K (some S) (c_pick S))) (h__law_next : Has P w K mg base CX0 "_law_next" 1 [] (spOf K (some S) (c_next S))) : Has P w K mg base CX0 "_law_grid" 3 [] (spOf K (some S) (c_rowsN S 5)) := by
  refine d.pure sc__law_grid (fun _ _ _ _ _ _ us hl => match us, hl with | [_, _], _ => rfl) 4 rfl (fun as k ⟨e, _⟩ => by rw [e]; rfl) fun f cdv A outer s H E hr => ⟨_, (pss_cons (ps_set (i := 2) sc__law_grid.nd rfl (Or.inl rfl) (pe_op (kAdd (K := K)) pe_int (pe_has h__law_next (hr.mono (by decide)) pass0 (pa_cons (pv 0) (pa_cons (pv 1) pa_nil)))))
      (pss_cons (ps_set (i := 3) sc__law_grid.nd rfl (Or.inl rfl) (pe_op op_sub (pv 1) (pv 2)))
      (pss_cons (ps_setM (i := 4) sc__law_grid.nd rfl (Or.inl rfl) (pe_lst pa_nil))
      (pss_cons (ps_for PassesOwn.never rfl (pi_range1 (by rfl) B.range (pa_cons (pv 2) pa_nil)) (pg_name (i := 5) sc__law_grid.nd rfl (Or.inl rfl)) (pss_one (ps_expr (kApp (K := K) (pv 4) (pa_cons (pe_tup (pa_cons (pe_has h__law_pick (hr.mono (by decide)) pass0 (pa_cons (pv 0) (pa_cons (pe_tup (pa_cons pe_int (pa_cons pe_int (pa_cons pe_int pa_nil)))) pa_nil))) (pa_cons (pe_op (kAdd (K := K)) (pv 5) pe_int) (pa_cons (pe_op op_sub (pe_op (kAdd (K := K)) (pv 3) pe_int) (pe_has h__law_pick (hr.mono (by decide)) pass0 (pa_cons (pv 0) (pa_cons (pe_tup (pa_cons pe_int (pa_cons pe_int (pa_cons pe_int pa_nil)))) pa_nil)))) (pa_cons (pe_op (kAdd (K := K)) (pv 5) pe_int) pa_nil))))) pa_nil)))))
      (pss_cons (ps_for PassesOwn.never rfl (pi_range1 (by rfl) B.range (pa_cons (pv 3) pa_nil)) (pg_name (i := 5) sc__law_grid.nd rfl (Or.inl rfl)) (pss_one (ps_expr (kApp (K := K) (pv 4) (pa_cons (pe_tup (pa_cons (pe_op (kAdd (K := K)) (pv 5) pe_int) (pa_cons (pe_has h__law_pick (hr.mono (by decide)) pass0 (pa_cons (pv 0) (pa_cons (pe_tup (pa_cons pe_int (pa_cons pe_int (pa_cons pe_int pa_nil)))) pa_nil))) (pa_cons (pe_op (kAdd (K := K)) (pv 5) pe_int) (pa_cons (pe_op op_sub (pe_op (kAdd (K := K)) (pv 2) pe_int) (pe_has h__law_pick (hr.mono (by decide)) pass0 (pa_cons (pv 0) (pa_cons (pe_tup (pa_cons pe_int (pa_cons pe_int (pa_cons pe_int pa_nil)))) pa_nil)))) pa_nil))))) pa_nil)))))
      (pss_one (ps_ret (pv 4)))))))), fun as k hc => ?_⟩
  try dsimp only [cxOf]
  clear hr E H s outer A cdv f d B
  obtain ⟨rfl, q⟩ := hc
  simp only [st0, List.map_cons, List.map_nil, List.replicate, List.cons_append, List.nil_append]
  walk_at "w"
  refine ⟨_, rfl, by decide, lt_9000 (by decide) (by decide), fun a a1 a2 => ?_⟩
  walk_at "w"
  refine s_forR ?_
  walk_at "w"
  refine ⟨by omega, by omega, fun i ρ' => ∃ l s1, ρ' = [some (.o (.ref S.a)), some (.i (.int 5)), some (.i (.int (1 + a))), some (.i (.int (5 - (1 + a)))), some (.m l), s1] ∧ Rws i l, ⟨_, _, rfl, Rws.nil⟩, fun i ρ' hi ⟨l, s1, hρ, hl⟩ => ?_, fun ρ' ⟨l, s1, hρ, hl⟩ => ?_⟩
  · subst hρ
    have hn := hl.1
    walk_at "w"
    refine ⟨_, _, rfl, .inl rfl, by decide, by decide, fun d hd => ?_⟩
    obtain ⟨x, rfl, x1, x2⟩ := okIs (lo := 0) (hi := 1) (by decide) hd
    walk_at "w"
    refine ⟨_, _, rfl, .inl rfl, by decide, by decide, fun d hd => ?_⟩
    obtain ⟨y, rfl, y1, y2⟩ := okIs (lo := 0) (hi := 1) (by decide) hd
    walk_at "w"
    exact ⟨by omega, _, _, rfl, hl.app (.one (by omega) (by omega) (by omega) (by omega))⟩
  · subst hρ
    have hn := hl.1
    refine s_seq (s_forR ?_)
    walk_at "w"
    refine ⟨by omega, by omega, fun i ρ' => ∃ l' s1, ρ' = [some (.o (.ref S.a)), some (.i (.int 5)), some (.i (.int (1 + a))), some (.i (.int (5 - (1 + a)))), some (.m l'), s1] ∧ Rws ((1 + a).toNat + i) l', ⟨_, _, rfl, hl⟩, fun i ρ' hi ⟨l', s1, hρ, hl'⟩ => ?_, fun ρ' ⟨l', s1, hρ, hl'⟩ => ?_⟩
    · subst hρ
      have hn := hl'.1
      walk_at "w"
      refine ⟨_, _, rfl, .inl rfl, by decide, by decide, fun d hd => ?_⟩
      obtain ⟨x, rfl, x1, x2⟩ := okIs (lo := 0) (hi := 1) (by decide) hd
      walk_at "w"
      refine ⟨_, _, rfl, .inl rfl, by decide, by decide, fun d hd => ?_⟩
      obtain ⟨y, rfl, y1, y2⟩ := okIs (lo := 0) (hi := 1) (by decide) hd
      walk_at "w"
      exact ⟨by omega, _, _, rfl, hl'.app (.one (by omega) (by omega) (by omega) (by omega))⟩
    · subst hρ
      walk_at "w"
      exact q _ (hl'.mono (by omega))
abbrev n__law_touching : List Str := ["stream", "many", "rows"]
abbrev s__law_touching : Stmt := top 97
theorem sc__law_touching : FnScope ["stream", "many", "rows"] ["stream", "many"] (defScope s__law_touching) := ⟨rfl, rfl, rfl, by decide +kernel, rfl, by decide +kernel, by decide +kernel⟩
theorem h__law_touching (B : Bl mg) (d : DefAt K mg "_law_touching" s__law_touching []) (h__law_scatter : Has P w K mg base CX0 "_law_scatter" 3 [] (spOf K (some S) (c_rowsN S 5))) (h__law_sides : Has P w K mg base CX0 "_law_sides" 1 [] (spOf K none (c_sides))) (h__law_pick : Has P w K mg base CX0 "_law_pick" 2 [] (spOf K (some S) (c_pick S))) : Has P w K mg base CX0 "_law_touching" 4 [] (spOf K (some S) (c_rowsN S 5)) := by
  refine d.pure sc__law_touching (fun _ _ _ _ _ _ us hl => match us, hl with | [_, _], _ => rfl) 1 rfl (fun as k ⟨e, _⟩ => by rw [e]; rfl) fun f cdv A outer s H E hr => ⟨_, (pss_cons (ps_set (i := 2) sc__law_touching.nd rfl (Or.inl rfl) (pe_has h__law_sides (hr.mono (by decide)) pass0 (pa_cons (pe_lst (pa_cons (pe_tup (pa_cons pe_int (pa_cons pe_int pa_nil))) (pa_cons (pe_tup (pa_cons pe_int (pa_cons pe_int pa_nil))) (pa_cons (pe_tup (pa_cons pe_int (pa_cons pe_int pa_nil))) pa_nil)))) pa_nil)))
      (pss_cons (ps_set (i := 2) sc__law_touching.nd rfl (Or.inl rfl) (pe_op (kAdd (K := K)) (pv 2) (pe_has h__law_sides (hr.mono (by decide)) pass0 (pa_cons (pe_has h__law_pick (hr.mono (by decide)) pass0 (pa_cons (pv 0) (pa_cons (pe_tup (pa_cons (pe_lst (pa_cons (pe_tup (pa_cons pe_int (pa_cons pe_int pa_nil))) (pa_cons (pe_tup (pa_cons pe_int (pa_cons pe_int pa_nil))) (pa_cons (pe_tup (pa_cons pe_int (pa_cons pe_int pa_nil))) pa_nil)))) (pa_cons (pe_lst (pa_cons (pe_tup (pa_cons pe_int (pa_cons pe_int pa_nil))) (pa_cons (pe_tup (pa_cons pe_int (pa_cons (pe_un un_neg pe_int) pa_nil))) (pa_cons (pe_tup (pa_cons pe_int (pa_cons (pe_un un_neg pe_int) pa_nil))) pa_nil)))) (pa_cons (pe_lst (pa_cons (pe_tup (pa_cons pe_int (pa_cons pe_int pa_nil))) (pa_cons (pe_tup (pa_cons pe_int (pa_cons pe_int pa_nil))) (pa_cons (pe_tup (pa_cons pe_int (pa_cons pe_int pa_nil))) pa_nil)))) (pa_cons (pe_lst (pa_cons (pe_tup (pa_cons pe_int (pa_cons pe_int pa_nil))) (pa_cons (pe_tup (pa_cons pe_int (pa_cons pe_int pa_nil))) (pa_cons (pe_tup (pa_cons pe_int (pa_cons (pe_un un_neg pe_int) pa_nil))) pa_nil)))) (pa_cons (pe_lst (pa_cons (pe_tup (pa_cons pe_int (pa_cons pe_int pa_nil))) (pa_cons (pe_tup (pa_cons pe_int (pa_cons pe_int pa_nil))) (pa_cons (pe_tup (pa_cons pe_int (pa_cons pe_int pa_nil))) pa_nil)))) (pa_cons (pe_lst (pa_cons (pe_tup (pa_cons pe_int (pa_cons pe_int pa_nil))) (pa_cons (pe_tup (pa_cons pe_int (pa_cons pe_int pa_nil))) (pa_cons (pe_tup (pa_cons pe_int (pa_cons pe_int pa_nil))) pa_nil)))) (pa_cons (pe_lst (pa_cons (pe_tup (pa_cons pe_int (pa_cons pe_int pa_nil))) (pa_cons (pe_tup (pa_cons pe_int (pa_cons pe_int pa_nil))) (pa_cons (pe_tup (pa_cons pe_int (pa_cons (pe_un un_neg pe_int) pa_nil))) pa_nil)))) (pa_cons (pe_lst (pa_cons (pe_tup (pa_cons pe_int (pa_cons pe_int pa_nil))) (pa_cons (pe_tup (pa_cons pe_int (pa_cons pe_int pa_nil))) (pa_cons (pe_tup (pa_cons pe_int (pa_cons pe_int pa_nil))) pa_nil)))) pa_nil))))))))) pa_nil))) pa_nil))))
      (pss_one (ps_ret (pe_slice (kSl (K := K)) (pe_op (kAdd (K := K)) (pv 2) (pe_has h__law_scatter (hr.mono (by decide)) pass0 (pa_cons (pv 0) (pa_cons (pv 1) pa_nil)))) po_none (po_some (pv 1))))))), fun as k hc => ?_⟩
  try dsimp only [cxOf]
  clear hr E H s outer A cdv f d B
  obtain ⟨rfl, q⟩ := hc
  simp only [st0, List.map_cons, List.map_nil, List.replicate, List.cons_append, List.nil_append]
  walk_at "w"
  refine ⟨_, rfl, isP_all (by decide), by decide, by decide, fun es he => ?_⟩
  walk_at "w"
  refine ⟨_, _, rfl, .inl rfl, by decide, by decide, fun d hd => ?_⟩
  have hx : ∃ ds, d = .list ds ∧ (∀ x ∈ ds, isP x) ∧ 0 < ds.length ∧ ds.length ≤ 20 := okLs (by decide) hd
  obtain ⟨ds, rfl, h1, h2, h3⟩ := hx
  walk_at "w"
  refine ⟨_, rfl, h1, h2, h3, fun fs hf => ?_⟩
  walk_at "w"
  refine b_addL ?_ ?_
  · have := he.1
    have h4 : es.length ≤ 3 := he.1
    have := hf.1
    omega
  walk_at "w"
  refine ⟨rfl, fun gs hg => ?_⟩
  refine b_addL ?_ ?_
  · have h4 : es.length ≤ 3 := he.1
    have := hf.1
    have := hg.1
    rw [List.length_append]
    omega
  walk_at "w"
  rw [show ∀ z, cutP z none (some 5) = z.take 5 from fun z => cutP_take (n := 5)]
  exact q _ ((he.app hf).app hg).take
def okC : D → Bool
  | .tuple ds => ds.all okR && decide (ds.length ≤ 20)
  | _ => false
def c_case : Con := fun as k => ∃ n : Int, as = [.i (.int n)] ∧ 0 ≤ n ∧ n < 20 ∧ ∀ ds, Rws 20 ds → k (.list ds)
theorem okCs {es : List D} (h : es.all okC = true) {d : D} (hd : d ∈ es) : ∃ ds, d = .tuple ds ∧ Rws 20 ds := by
  have h1 := List.all_eq_true.mp h d hd
  cases d with
  | tuple ds =>
    have h2 : (ds.all okR && decide (ds.length ≤ 20)) = true := h1
    rw [Bool.and_eq_true] at h2
    exact ⟨ds, rfl, rws_all h2.1 (of_decide_eq_true h2.2)⟩
  | _ => cases h1
local macro_rules | `(tactic| walk_at "c") => `(tactic| repeat (first
  | with_reducible apply w_int
  | ((with_reducible apply w_var); (case h => exact rfl))
  | with_reducible apply wl_cons
  | with_reducible apply wl_nil
  | ((with_reducible refine And.intro (Nat.le_of_ble_eq_true ?hlen) ?_); (case hlen => exact rfl))
  | with_reducible apply w_tup
  | with_reducible apply w_op
  | with_reducible apply s_seq
  | ((with_reducible apply wa_consO); (case h => exact rfl))
  | with_reducible apply wa_cons
  | with_reducible apply wa_nil
  | with_reducible apply ru_i
  | with_reducible apply w_un
  | with_reducible apply s_asg
  | with_reducible apply w_call0
  | with_reducible apply w_callD2
  | with_reducible apply w_callD1
  | ((with_reducible apply w_callX0); (case hz => exact rfl))
  | ((with_reducible apply w_callXS); (case hz => exact rfl))
  | with_reducible apply w_callZ
  | with_reducible apply b_addI
  | ((with_reducible apply rb_ixT); (case e => exact rfl))
  | ((with_reducible apply rb_ixL); (case e => exact rfl))
  | with_reducible apply w_str
  | with_reducible apply w_lst
  | with_reducible apply w_sl
  | with_reducible apply o_none
  | with_reducible apply o_some
  | with_reducible apply sG_T
  | with_reducible apply sG_L
  | ((with_reducible apply s_app); (case e => exact rfl))
  | with_reducible apply s_drop
  | with_reducible apply w_if
  | with_reducible apply p_if
  | with_reducible apply t_test
  | with_reducible apply b_eqI
  | with_reducible apply s_next
  | with_reducible apply p_ret
  | ((with_reducible apply b_mulI); (case hc => (apply mulx; (case h1 => walk_at "bd"); (case h2 => walk_at "bd"); (case h => omega))))
  | with_reducible apply b_sub
  | with_reducible apply s_raiseK
  | with_reducible apply w_isT
  | with_reducible apply w_isL
  | with_reducible apply w_isI
  | with_reducible apply w_isB
  | with_reducible apply w_isS
  | with_reducible apply w_isN
  | with_reducible apply w_notN
  | with_reducible apply w_or
  | with_reducible apply w_and
  | with_reducible apply w_not
  | with_reducible apply w_chain
  | with_reducible apply w_cb
  | with_reducible apply t_or
  | with_reducible apply t_and
  | with_reducible apply t_not
  | with_reducible apply t_yes
  | ((with_reducible apply b_addT); (case hz => exact Nat.le_of_ble_eq_true rfl))
  | ((with_reducible apply b_addL); (case hz => exact Nat.le_of_ble_eq_true rfl))
  | with_reducible apply s_break
  | with_reducible apply rb_b
  | with_reducible apply t_truthI
  | with_reducible apply b_neI
  | with_reducible apply b_eqS
  | with_reducible apply b_eqB
  | with_reducible apply b_neB
  | with_reducible apply w_bl
  | with_reducible apply w_non
  | with_reducible apply t_B
  | with_reducible apply m_lst
  | ((with_reducible apply m_catO); (case e => exact rfl))
  | with_reducible apply m_cat
  | with_reducible apply m_list
  | with_reducible apply w_lcLU
  | with_reducible apply w_lcTU
  | with_reducible apply s_forTU
  | with_reducible apply s_forLU
  | (with_reducible apply lcU_nil)
  | (with_reducible apply unr_nil)
  | with_reducible apply unr_one
  | ((with_reducible show LcU _ _ _ _ _ _ _ _ _); (refine lcU_one rfl (Nat.lt_of_succ_le (Nat.le_of_ble_eq_true rfl)) ?_))
  | ((with_reducible show (_ = true → _) ∧ (_ = false → _)); (first | refine ybt rfl ?_ | refine ybf rfl ?_))
  | ((with_reducible show (_ = false → _) ∧ (_ = true → _)); (first | refine obt rfl ?_ | refine obf rfl ?_))
  | with_reducible apply yt
  | with_reducible apply yf
  | with_reducible apply fy
  | with_reducible apply ft
  | ((with_reducible apply f_frz); (case e => exact rfl))
  | with_reducible apply s_asgG
  | (refine Exists.intro _ (And.intro (g_lst (by repeat (first | exact gs_nil | apply gs_one)) rfl) ?_))
  | (refine Exists.intro _ (And.intro (g_tup (by repeat (first | exact gs_nil | apply gs_one)) rfl) ?_))
  | with_reducible apply c_lenL
  | with_reducible apply c_lenT
  | with_reducible apply c_listL
  | with_reducible apply c_listT
  | with_reducible apply c_tupL
  | with_reducible apply c_abs
  | with_reducible apply c_int
  | with_reducible apply c_min
  | with_reducible apply rc_gcd
  | with_reducible apply rb_b
  | (refine And.intro (Nat.lt_of_succ_le (Nat.le_of_ble_eq_true rfl)) ?_)
  | with_reducible refine Exists.intro _ (And.intro rfl ?_)
  | refine And.intro (Nat.le_of_ble_eq_true rfl) ?_
  | ((with_reducible apply b_addT); (case hz => (first | omega | (simp only [List.length_append, List.length_cons, List.length_nil]; omega))))
  | ((with_reducible apply b_addL); (case hz => (first | omega | (simp only [List.length_append, List.length_cons, List.length_nil]; omega))))
  ))
def isC (d : D) : Prop := ∃ ds, d = .tuple ds ∧ Rws 20 ds
theorem rb_inL {Γ : Gam} {ds : List D} {r : Int} {k : D → Prop} {P : D → Prop} (h0 : 0 ≤ r) (h1 : r < (ds.length : Int)) (hP : ∀ d ∈ ds, P d) (q : ∀ d, P d → k d) : RB Γ (rIx Γ.K) (.list ds) (.int r) k := by
  obtain ⟨d, e, hd⟩ := at_in h0 h1
  exact rb_ixL e (q d (hP d hd))
theorem isC_lit {d : D} (h : okC d = true) : isC d := by
  cases d with
  | tuple ds =>
    have h2 : (ds.all okR && decide (ds.length ≤ 20)) = true := h
    rw [Bool.and_eq_true] at h2
    exact ⟨ds, rfl, rws_all h2.1 (of_decide_eq_true h2.2)⟩
  | _ => cases h
theorem isC_of {ds : List D} (h : Rws 20 ds) : isC (.tuple ds) := ⟨ds, rfl, h⟩
abbrev n__law_case : List Str := ["number", "ring", "wedge", "cases"]
abbrev s__law_case : Stmt := top 98
theorem sc__law_case : FnScope ["number", "ring", "wedge", "cases"] ["number"] (defScope s__law_case) := ⟨rfl, rfl, rfl, by decide +kernel, rfl, by decide +kernel, by decide +kernel⟩
theorem h__law_case (B : Bl mg) (d : DefAt K mg "_law_case" s__law_case []) (h__law_sides : Has P w K mg base CX0 "_law_sides" 1 [] (spOf K none (c_sides))) : Has P w K mg base CX0 "_law_case" 2 [] (spOf K none (c_case)) := by
  refine d.pure sc__law_case (fun _ _ _ _ _ _ us hl => match us, hl with | [_], _ => rfl) 3 rfl (fun as k ⟨_, e, _⟩ => by rw [e]; rfl) fun f cdv A outer s H E hr => ⟨_, (pss_cons (ps_set (i := 1) sc__law_case.nd rfl (Or.inl rfl) (pe_tup (pa_cons (pe_tup (pa_cons pe_int (pa_cons pe_int (pa_cons pe_int (pa_cons pe_int pa_nil))))) (pa_cons (pe_tup (pa_cons pe_int (pa_cons pe_int (pa_cons pe_int (pa_cons pe_int pa_nil))))) (pa_cons (pe_tup (pa_cons pe_int (pa_cons pe_int (pa_cons pe_int (pa_cons pe_int pa_nil))))) (pa_cons (pe_tup (pa_cons pe_int (pa_cons pe_int (pa_cons pe_int (pa_cons pe_int pa_nil))))) pa_nil))))))
      (pss_cons (ps_set (i := 2) sc__law_case.nd rfl (Or.inl rfl) (pe_tup (pa_cons (pe_tup (pa_cons pe_int (pa_cons pe_int (pa_cons pe_int (pa_cons pe_int pa_nil))))) (pa_cons (pe_tup (pa_cons pe_int (pa_cons pe_int (pa_cons pe_int (pa_cons pe_int pa_nil))))) (pa_cons (pe_tup (pa_cons pe_int (pa_cons pe_int (pa_cons pe_int (pa_cons pe_int pa_nil))))) pa_nil)))))
      (pss_cons (ps_setM (i := 3) sc__law_case.nd rfl (Or.inl rfl) (pe_lst (pa_cons (pe_tup pa_nil) (pa_cons (pe_tup (pa_cons (pe_tup (pa_cons pe_int (pa_cons pe_int (pa_cons pe_int (pa_cons pe_int pa_nil))))) pa_nil)) (pa_cons (pe_tup (pa_cons (pe_tup (pa_cons pe_int (pa_cons pe_int (pa_cons pe_int (pa_cons pe_int pa_nil))))) (pa_cons (pe_tup (pa_cons pe_int (pa_cons pe_int (pa_cons pe_int (pa_cons (pe_un un_neg pe_int) pa_nil))))) pa_nil))) (pa_cons (pe_tup (pa_cons (pe_tup (pa_cons pe_int (pa_cons pe_int (pa_cons pe_int (pa_cons pe_int pa_nil))))) (pa_cons (pe_tup (pa_cons pe_int (pa_cons pe_int (pa_cons pe_int (pa_cons pe_int pa_nil))))) (pa_cons (pe_tup (pa_cons pe_int (pa_cons pe_int (pa_cons pe_int (pa_cons (pe_un un_neg pe_int) pa_nil))))) pa_nil)))) pa_nil))))))
      (pss_cons (ps_setM (i := 3) sc__law_case.nd rfl (Or.inl rfl) (pe_op (kAdd (K := K)) (pv 3) (pe_lst (pa_cons (pe_tup (pa_cons (pe_tup (pa_cons (pe_un un_neg pe_int) (pa_cons (pe_un un_neg pe_int) (pa_cons pe_int (pa_cons pe_int pa_nil))))) (pa_cons (pe_tup (pa_cons (pe_un un_neg pe_int) (pa_cons pe_int (pa_cons pe_int (pa_cons (pe_un un_neg pe_int) pa_nil))))) pa_nil))) (pa_cons (pe_op (kAdd (K := K)) (pv 2) (pe_tup (pa_cons (pe_tup (pa_cons pe_int (pa_cons pe_int (pa_cons pe_int (pa_cons pe_int pa_nil))))) pa_nil))) (pa_cons (pe_op (kAdd (K := K)) (pv 2) (pe_tup (pa_cons (pe_tup (pa_cons pe_int (pa_cons pe_int (pa_cons pe_int (pa_cons pe_int pa_nil))))) (pa_cons (pe_tup (pa_cons pe_int (pa_cons pe_int (pa_cons pe_int (pa_cons pe_int pa_nil))))) (pa_cons (pe_tup (pa_cons pe_int (pa_cons pe_int (pa_cons pe_int (pa_cons pe_int pa_nil))))) pa_nil))))) pa_nil))))))
      (pss_cons (ps_expr (kApp (K := K) (pv 3) (pa_cons (pe_callTy (kTup (K := K)) (by rfl) B.tuple (by decide +kernel) (pa_cons (pe_has h__law_sides (hr.mono (by decide)) pass0 (pa_cons (pe_lst (pa_cons (pe_tup (pa_cons pe_int (pa_cons pe_int pa_nil))) (pa_cons (pe_tup (pa_cons pe_int (pa_cons pe_int pa_nil))) (pa_cons (pe_tup (pa_cons pe_int (pa_cons pe_int pa_nil))) (pa_cons (pe_tup (pa_cons pe_int (pa_cons pe_int pa_nil))) (pa_cons (pe_tup (pa_cons (pe_un un_neg pe_int) (pa_cons pe_int pa_nil))) (pa_cons (pe_tup (pa_cons (pe_un un_neg pe_int) (pa_cons pe_int pa_nil))) (pa_cons (pe_tup (pa_cons pe_int (pa_cons (pe_un un_neg pe_int) pa_nil))) (pa_cons (pe_tup (pa_cons pe_int (pa_cons (pe_un un_neg pe_int) pa_nil))) pa_nil))))))))) pa_nil)) pa_nil)) pa_nil)))
      (pss_cons (ps_expr (kApp (K := K) (pv 3) (pa_cons (pe_tup (pa_cons (pe_tup (pa_cons (pe_un un_neg pe_int) (pa_cons pe_int (pa_cons pe_int (pa_cons pe_int pa_nil))))) (pa_cons (pe_tup (pa_cons pe_int (pa_cons pe_int (pa_cons pe_int (pa_cons pe_int pa_nil))))) (pa_cons (pe_tup (pa_cons pe_int (pa_cons pe_int (pa_cons (pe_un un_neg pe_int) (pa_cons pe_int pa_nil))))) (pa_cons (pe_tup (pa_cons (pe_un un_neg pe_int) (pa_cons pe_int (pa_cons pe_int (pa_cons pe_int pa_nil))))) (pa_cons (pe_tup (pa_cons pe_int (pa_cons pe_int (pa_cons pe_int (pa_cons pe_int pa_nil))))) (pa_cons (pe_tup (pa_cons pe_int (pa_cons pe_int (pa_cons (pe_un un_neg pe_int) (pa_cons pe_int pa_nil))))) pa_nil))))))) pa_nil)))
      (pss_cons (ps_expr (kApp (K := K) (pv 3) (pa_cons (pe_op (kAdd (K := K)) (pe_op (kAdd (K := K)) (pv 1) (pe_callTy (kTup (K := K)) (by rfl) B.tuple (by decide +kernel) (pa_cons (pe_has h__law_sides (hr.mono (by decide)) pass0 (pa_cons (pe_lst (pa_cons (pe_tup (pa_cons pe_int (pa_cons pe_int pa_nil))) (pa_cons (pe_tup (pa_cons pe_int (pa_cons pe_int pa_nil))) (pa_cons (pe_tup (pa_cons pe_int (pa_cons pe_int pa_nil))) (pa_cons (pe_tup (pa_cons pe_int (pa_cons pe_int pa_nil))) pa_nil))))) pa_nil)) pa_nil))) (pe_tup (pa_cons (pe_tup (pa_cons pe_int (pa_cons pe_int (pa_cons pe_int (pa_cons pe_int pa_nil))))) (pa_cons (pe_tup (pa_cons pe_int (pa_cons pe_int (pa_cons pe_int (pa_cons pe_int pa_nil))))) (pa_cons (pe_tup (pa_cons pe_int (pa_cons pe_int (pa_cons pe_int (pa_cons pe_int pa_nil))))) pa_nil))))) pa_nil)))
      (pss_cons (ps_expr (kApp (K := K) (pv 3) (pa_cons (pe_op (kAdd (K := K)) (pe_callTy (kTup (K := K)) (by rfl) B.tuple (by decide +kernel) (pa_cons (pe_has h__law_sides (hr.mono (by decide)) pass0 (pa_cons (pe_lst (pa_cons (pe_tup (pa_cons (pe_un un_neg pe_int) (pa_cons (pe_un un_neg pe_int) pa_nil))) (pa_cons (pe_tup (pa_cons pe_int (pa_cons (pe_un un_neg pe_int) pa_nil))) (pa_cons (pe_tup (pa_cons pe_int (pa_cons pe_int pa_nil))) (pa_cons (pe_tup (pa_cons (pe_un un_neg pe_int) (pa_cons pe_int pa_nil))) pa_nil))))) pa_nil)) pa_nil)) (pe_tup (pa_cons (pe_tup (pa_cons pe_int (pa_cons pe_int (pa_cons pe_int (pa_cons pe_int pa_nil))))) (pa_cons (pe_tup (pa_cons pe_int (pa_cons pe_int (pa_cons pe_int (pa_cons (pe_un un_neg pe_int) pa_nil))))) pa_nil)))) pa_nil)))
      (pss_cons (ps_setM (i := 3) sc__law_case.nd rfl (Or.inl rfl) (pe_op (kAdd (K := K)) (pv 3) (pe_lst (pa_cons (pe_op (kAdd (K := K)) (pv 1) (pe_tup (pa_cons (pe_tup (pa_cons pe_int (pa_cons pe_int (pa_cons pe_int (pa_cons pe_int pa_nil))))) pa_nil))) (pa_cons (pe_callTy (kTup (K := K)) (by rfl) B.tuple (by decide +kernel) (pa_cons (pe_has h__law_sides (hr.mono (by decide)) pass0 (pa_cons (pe_lst (pa_cons (pe_tup (pa_cons pe_int (pa_cons pe_int pa_nil))) (pa_cons (pe_tup (pa_cons pe_int (pa_cons pe_int pa_nil))) (pa_cons (pe_tup (pa_cons pe_int (pa_cons pe_int pa_nil))) (pa_cons (pe_tup (pa_cons pe_int (pa_cons pe_int pa_nil))) pa_nil))))) pa_nil)) pa_nil)) (pa_cons (pe_tup (pa_cons (pe_tup (pa_cons pe_int (pa_cons (pe_un un_neg pe_int) (pa_cons pe_int (pa_cons pe_int pa_nil))))) (pa_cons (pe_tup (pa_cons pe_int (pa_cons pe_int (pa_cons pe_int (pa_cons pe_int pa_nil))))) pa_nil))) pa_nil))))))
      (pss_cons (ps_setM (i := 3) sc__law_case.nd rfl (Or.inl rfl) (pe_op (kAdd (K := K)) (pv 3) (pe_lst (pa_cons (pe_tup (pa_cons (pe_tup (pa_cons pe_int (pa_cons pe_int (pa_cons pe_int (pa_cons pe_int pa_nil))))) (pa_cons (pe_tup (pa_cons pe_int (pa_cons pe_int (pa_cons pe_int (pa_cons pe_int pa_nil))))) (pa_cons (pe_tup (pa_cons pe_int (pa_cons pe_int (pa_cons pe_int (pa_cons pe_int pa_nil))))) pa_nil)))) (pa_cons (pe_tup (pa_cons (pe_tup (pa_cons pe_int (pa_cons pe_int (pa_cons pe_int (pa_cons pe_int pa_nil))))) (pa_cons (pe_tup (pa_cons pe_int (pa_cons pe_int (pa_cons pe_int (pa_cons pe_int pa_nil))))) (pa_cons (pe_tup (pa_cons pe_int (pa_cons pe_int (pa_cons pe_int (pa_cons pe_int pa_nil))))) pa_nil)))) (pa_cons (pe_op (kAdd (K := K)) (pv 1) (pe_tup (pa_cons (pe_tup (pa_cons pe_int (pa_cons pe_int (pa_cons pe_int (pa_cons pe_int pa_nil))))) pa_nil))) pa_nil))))))
      (pss_cons (ps_setM (i := 3) sc__law_case.nd rfl (Or.inl rfl) (pe_op (kAdd (K := K)) (pv 3) (pe_lst (pa_cons (pe_tup (pa_cons (pe_tup (pa_cons pe_int (pa_cons pe_int (pa_cons pe_int (pa_cons pe_int pa_nil))))) (pa_cons (pe_tup (pa_cons pe_int (pa_cons pe_int (pa_cons pe_int (pa_cons pe_int pa_nil))))) (pa_cons (pe_tup (pa_cons pe_int (pa_cons pe_int (pa_cons pe_int (pa_cons pe_int pa_nil))))) pa_nil)))) (pa_cons (pe_op (kAdd (K := K)) (pv 1) (pe_callTy (kTup (K := K)) (by rfl) B.tuple (by decide +kernel) (pa_cons (pe_has h__law_sides (hr.mono (by decide)) pass0 (pa_cons (pe_lst (pa_cons (pe_tup (pa_cons pe_int (pa_cons pe_int pa_nil))) (pa_cons (pe_tup (pa_cons pe_int (pa_cons pe_int pa_nil))) (pa_cons (pe_tup (pa_cons pe_int (pa_cons pe_int pa_nil))) (pa_cons (pe_tup (pa_cons pe_int (pa_cons pe_int pa_nil))) pa_nil))))) pa_nil)) pa_nil))) pa_nil)))))
      (pss_cons (ps_expr (kApp (K := K) (pv 3) (pa_cons (pe_op (kAdd (K := K)) (pe_op (kAdd (K := K)) (pe_callTy (kTup (K := K)) (by rfl) B.tuple (by decide +kernel) (pa_cons (pe_has h__law_sides (hr.mono (by decide)) pass0 (pa_cons (pe_lst (pa_cons (pe_tup (pa_cons pe_int (pa_cons pe_int pa_nil))) (pa_cons (pe_tup (pa_cons pe_int (pa_cons pe_int pa_nil))) (pa_cons (pe_tup (pa_cons pe_int (pa_cons pe_int pa_nil))) (pa_cons (pe_tup (pa_cons pe_int (pa_cons pe_int pa_nil))) pa_nil))))) pa_nil)) pa_nil)) (pe_callTy (kTup (K := K)) (by rfl) B.tuple (by decide +kernel) (pa_cons (pe_has h__law_sides (hr.mono (by decide)) pass0 (pa_cons (pe_lst (pa_cons (pe_tup (pa_cons pe_int (pa_cons pe_int pa_nil))) (pa_cons (pe_tup (pa_cons pe_int (pa_cons pe_int pa_nil))) (pa_cons (pe_tup (pa_cons pe_int (pa_cons pe_int pa_nil))) pa_nil)))) pa_nil)) pa_nil))) (pe_tup (pa_cons (pe_tup (pa_cons pe_int (pa_cons pe_int (pa_cons pe_int (pa_cons pe_int pa_nil))))) pa_nil))) pa_nil)))
      (pss_one (ps_ret (pe_callTy (kList (K := K)) (by rfl) B.list (by decide +kernel) (pa_cons (pe_ix (kIx (K := K)) (pv 3) (pv 0) (fun _ _ => rfl)) pa_nil)))))))))))))))), fun as k hc => ?_⟩
  try dsimp only [cxOf]
  clear hr E H s outer A cdv f d B
  obtain ⟨n, rfl, h0, h1, q⟩ := hc
  simp only [st0, List.map_cons, List.map_nil, List.replicate, List.cons_append, List.nil_append]
  walk_at "w"
  refine ⟨_, rfl, isP_all (by decide), by decide, by decide, fun e1 he1 => ?_⟩
  have n1 : e1.length ≤ 8 := he1.1
  have r1 : Rws 8 e1 := he1
  clear he1
  walk_at "c"
  refine ⟨_, rfl, isP_all (by decide), by decide, by decide, fun e2 he2 => ?_⟩
  have n2 : e2.length ≤ 4 := he2.1
  have r2 : Rws 4 e2 := he2
  clear he2
  walk_at "c"
  refine ⟨_, rfl, isP_all (by decide), by decide, by decide, fun e3 he3 => ?_⟩
  have n3 : e3.length ≤ 4 := he3.1
  have r3 : Rws 4 e3 := he3
  clear he3
  walk_at "c"
  refine ⟨_, rfl, isP_all (by decide), by decide, by decide, fun e4 he4 => ?_⟩
  have n4 : e4.length ≤ 4 := he4.1
  have r4 : Rws 4 e4 := he4
  clear he4
  walk_at "c"
  refine ⟨_, rfl, isP_all (by decide), by decide, by decide, fun e5 he5 => ?_⟩
  have n5 : e5.length ≤ 4 := he5.1
  have r5 : Rws 4 e5 := he5
  clear he5
  walk_at "c"
  refine ⟨_, rfl, isP_all (by decide), by decide, by decide, fun e6 he6 => ?_⟩
  have n6 : e6.length ≤ 4 := he6.1
  have r6 : Rws 4 e6 := he6
  clear he6
  walk_at "c"
  refine ⟨_, rfl, isP_all (by decide), by decide, by decide, fun e7 he7 => ?_⟩
  have n7 : e7.length ≤ 3 := he7.1
  have r7 : Rws 3 e7 := he7
  clear he7
  walk_at "c"
  refine rb_inL (P := isC) h0 (by exact h1) ?_ fun d hc => ?_
  · skip
    repeat' (first | refine List.forall_mem_append.mpr ⟨?_, ?_⟩ | refine List.forall_mem_cons.mpr ⟨?_, ?_⟩ | exact fun _ h => absurd h List.not_mem_nil)
    all_goals first
      | exact isC_of (r1.mono (by decide))
      | exact isC_of (r4.mono (by decide))
      | exact isC_of ((((rws_all (n := 4) (by decide) (by decide)).app r2).app (rws_all (n := 3) (by decide) (by decide))).mono (by decide))
      | exact isC_of ((r3.app (rws_all (n := 2) (by decide) (by decide))).mono (by decide))
      | exact isC_of (((rws_all (n := 4) (by decide) (by decide)).app r5).mono (by decide))
      | exact isC_of (((r6.app r7).app (rws_all (n := 1) (by decide) (by decide))).mono (by decide))
      | (refine isC_lit ?_; decide)
  obtain ⟨ds, rfl, hr⟩ := hc
  walk_at "c"
  exact q _ hr
end K88
/-! T18 -/
namespace K88
open PySem PySem.Spec PyProof.Rows L2 AL
local macro_rules | `(tactic| walk_at "bd") => `(tactic| first
  | assumption
  | (apply Sz.n; assumption)
  | (apply Sz.d; assumption)
  | ((with_reducible apply lt_mul); (case h1 => walk_at "bd"); (case h2 => walk_at "bd"))
  | ((with_reducible apply lt_addx); (case h1 => walk_at "bd"); (case h2 => walk_at "bd"))
  | ((with_reducible apply lt_subx); (case h1 => walk_at "bd"); (case h2 => walk_at "bd"))
  | ((with_reducible apply lt_neg); (case h => walk_at "bd")))
local macro_rules | `(tactic| walk_at "nz") => `(tactic| first
  | assumption
  | exact dnz _
  | ((with_reducible apply inz); (case h1 => walk_at "nz"); (case h2 => walk_at "nz")))
local macro_rules | `(tactic| walk_at "w") => `(tactic| repeat (first
  | with_reducible apply w_int
  | ((with_reducible apply w_var); (case h => exact rfl))
  | with_reducible apply wl_cons
  | with_reducible apply wl_nil
  | ((with_reducible refine And.intro (Nat.le_of_ble_eq_true ?hlen) ?_); (case hlen => exact rfl))
  | with_reducible apply w_tup
  | with_reducible apply w_op
  | with_reducible apply s_seq
  | ((with_reducible apply wa_consO); (case h => exact rfl))
  | with_reducible apply wa_cons
  | with_reducible apply wa_nil
  | with_reducible apply ru_i
  | with_reducible apply w_un
  | with_reducible apply s_asg
  | with_reducible apply w_call0
  | with_reducible apply w_callD2
  | with_reducible apply w_callD1
  | ((with_reducible apply w_callX0); (case hz => exact rfl))
  | ((with_reducible apply w_callXS); (case hz => exact rfl))
  | with_reducible apply w_callZ
  | with_reducible apply b_addI
  | ((with_reducible apply rb_ixT); (case e => exact rfl))
  | ((with_reducible apply rb_ixL); (case e => exact rfl))
  | with_reducible apply w_str
  | with_reducible apply w_lst
  | with_reducible apply w_sl
  | with_reducible apply o_none
  | with_reducible apply o_some
  | with_reducible apply sG_T
  | with_reducible apply sG_L
  | ((with_reducible apply s_app); (case e => exact rfl))
  | with_reducible apply s_drop
  | with_reducible apply w_if
  | with_reducible apply p_if
  | with_reducible apply t_test
  | with_reducible apply b_eqI
  | with_reducible apply s_next
  | with_reducible apply p_ret
  | ((with_reducible apply b_mulI); (case hc => (apply mulx; (case h1 => walk_at "bd"); (case h2 => walk_at "bd"); (case h => omega))))
  | with_reducible apply b_sub
  | with_reducible apply s_raiseK
  | with_reducible apply w_isT
  | with_reducible apply w_isL
  | with_reducible apply w_isI
  | with_reducible apply w_isB
  | with_reducible apply w_isS
  | with_reducible apply w_isN
  | with_reducible apply w_notN
  | with_reducible apply w_or
  | with_reducible apply w_and
  | with_reducible apply w_not
  | with_reducible apply w_chain
  | with_reducible apply w_cb
  | with_reducible apply t_or
  | with_reducible apply t_and
  | with_reducible apply t_not
  | with_reducible apply t_yes
  | ((with_reducible apply b_addT); (case hz => exact Nat.le_of_ble_eq_true rfl))
  | ((with_reducible apply b_addL); (case hz => exact Nat.le_of_ble_eq_true rfl))
  | with_reducible apply s_break
  | with_reducible apply rb_b
  | with_reducible apply t_truthI
  | with_reducible apply b_neI
  | with_reducible apply b_eqS
  | with_reducible apply b_eqB
  | with_reducible apply b_neB
  | with_reducible apply w_bl
  | with_reducible apply w_non
  | with_reducible apply t_B
  | with_reducible apply m_lst
  | ((with_reducible apply m_catO); (case e => exact rfl))
  | with_reducible apply m_cat
  | with_reducible apply m_list
  | with_reducible apply w_lcLU
  | with_reducible apply w_lcTU
  | with_reducible apply s_forTU
  | (with_reducible apply lcU_nil)
  | (with_reducible apply unr_nil)
  | with_reducible apply unr_one
  | ((with_reducible show LcU _ _ _ _ _ _ _ _ _); (refine lcU_one rfl (Nat.lt_of_succ_le (Nat.le_of_ble_eq_true rfl)) ?_))
  | ((with_reducible show (_ = true → _) ∧ (_ = false → _)); (first | refine ybt rfl ?_ | refine ybf rfl ?_))
  | ((with_reducible show (_ = false → _) ∧ (_ = true → _)); (first | refine obt rfl ?_ | refine obf rfl ?_))
  | with_reducible apply yt
  | with_reducible apply yf
  | with_reducible apply fy
  | with_reducible apply ft
  | ((with_reducible apply f_frz); (case e => exact rfl))
  | with_reducible apply s_asgG
  | (refine Exists.intro _ (And.intro (g_lst (by repeat (first | exact gs_nil | apply gs_one)) rfl) ?_))
  | (refine Exists.intro _ (And.intro (g_tup (by repeat (first | exact gs_nil | apply gs_one)) rfl) ?_))
  | with_reducible apply c_lenL
  | with_reducible apply c_lenT
  | with_reducible apply c_listL
  | with_reducible apply c_listT
  | with_reducible apply c_tupL
  | with_reducible apply c_abs
  | with_reducible apply c_int
  | with_reducible apply c_min
  | with_reducible apply rc_gcd
  | with_reducible apply rb_b
  | (refine And.intro (Nat.lt_of_succ_le (Nat.le_of_ble_eq_true rfl)) ?_)
  | with_reducible refine Exists.intro _ (And.intro rfl ?_)
  | refine And.intro (Nat.le_of_ble_eq_true rfl) ?_
  ))
variable {P : Program} {w : World} {K : PySem.W.Frag} {mg : Str → Option Value} {base : Heap}
variable {S : Zs}
abbrev n__law_rows : List Str := ["stream", "many", "kind", "rows"]
abbrev s__law_rows : Stmt := top 99
theorem sc__law_rows : FnScope ["stream", "many", "kind", "rows"] ["stream", "many"] (defScope s__law_rows) := ⟨rfl, rfl, rfl, by decide +kernel, rfl, by decide +kernel, by decide +kernel⟩
theorem h__law_rows (B : Bl mg) (d : DefAt K mg "_law_rows" s__law_rows []) (h__law_touching : Has P w K mg base CX0 "_law_touching" 4 [] (spOf K (some S) (c_rowsN S 5))) (h__law_scatter : Has P w K mg base CX0 "_law_scatter" 3 [] (spOf K (some S) (c_rowsN S 5))) (h__law_grid : Has P w K mg base CX0 "_law_grid" 3 [] (spOf K (some S) (c_rowsN S 5))) (h__law_spiked : Has P w K mg base CX0 "_law_spiked" 3 [] (spOf K (some S) (c_rowsN S 5))) (h__law_nested : Has P w K mg base CX0 "_law_nested" 3 [] (spOf K (some S) (c_rowsN S 5))) (h__law_loop : Has P w K mg base CX0 "_law_loop" 2 [] (spOf K (some S) (c_rowsN S 5))) (h__law_onto : Has P w K mg base CX0 "_law_onto" 3 [] (spOf K (some S) (c_rowsN S 5))) (h__law_star : Has P w K mg base CX0 "_law_star" 3 [] (spOf K (some S) (c_rowsN S 5))) (h__law_case : Has P w K mg base CX0 "_law_case" 2 [] (spOf K none (c_case))) (h__law_next : Has P w K mg base CX0 "_law_next" 1 [] (spOf K (some S) (c_next S))) : Has P w K mg base CX0 "_law_rows" 5 [] (spOf K (some S) (c_rowsN S 5)) := by
  refine d.pure sc__law_rows (fun _ _ _ _ _ _ us hl => match us, hl with | [_, _], _ => rfl) 2 rfl (fun as k ⟨e, _⟩ => by rw [e]; rfl) fun f cdv A outer s H E hr => ⟨_, (pss_cons (ps_set (i := 2) sc__law_rows.nd rfl (Or.inl rfl) (pe_has h__law_next (hr.mono (by decide)) pass0 (pa_cons (pv 0) (pa_cons pe_int pa_nil))))
      (pss_cons (ps_if (pt_cmpR (kEq (K := K) hr.units) (pv 2) pe_int (nomark _)) (pss_cons (ps_set (i := 3) sc__law_rows.nd rfl (Or.inl rfl) (pe_has h__law_case (hr.mono (by decide)) pass0 (pa_cons (pe_has h__law_next (hr.mono (by decide)) pass0 (pa_cons (pv 0) (pa_cons pe_int pa_nil))) pa_nil)))
      (pss_one (ps_ret (pe_ifExp (pt_cmpR op_le (pe_callB (kLen (K := K)) (by rfl) B.len (by decide +kernel) (pa_cons (pv 3) pa_nil)) (pv 1) (nomark _)) (pv 3) (pe_has h__law_scatter (hr.mono (by decide)) pass0 (pa_cons (pv 0) (pa_cons (pv 1) pa_nil))))))) pss_nil)
      (pss_cons (ps_if (pt_cmpR (kEq (K := K) hr.units) (pv 2) pe_int (nomark _)) (pss_one (ps_ret (pe_has h__law_star (hr.mono (by decide)) pass0 (pa_cons (pv 0) (pa_cons (pv 1) pa_nil))))) pss_nil)
      (pss_cons (ps_if (pt_cmpR (kEq (K := K) hr.units) (pv 2) pe_int (nomark _)) (pss_one (ps_ret (pe_has h__law_onto (hr.mono (by decide)) pass0 (pa_cons (pv 0) (pa_cons (pv 1) pa_nil))))) pss_nil)
      (pss_cons (ps_if (pt_cmpR (kEq (K := K) hr.units) (pv 2) pe_int (nomark _)) (pss_one (ps_ret (pe_has h__law_loop (hr.mono (by decide)) pass0 (pa_cons (pv 0) (pa_cons (pv 1) pa_nil))))) pss_nil)
      (pss_cons (ps_if (pt_cmpR (kEq (K := K) hr.units) (pv 2) pe_int (nomark _)) (pss_one (ps_ret (pe_has h__law_nested (hr.mono (by decide)) pass0 (pa_cons (pv 0) (pa_cons (pv 1) pa_nil))))) pss_nil)
      (pss_cons (ps_if (pt_cmpR (kEq (K := K) hr.units) (pv 2) pe_int (nomark _)) (pss_one (ps_ret (pe_has h__law_spiked (hr.mono (by decide)) pass0 (pa_cons (pv 0) (pa_cons (pv 1) pa_nil))))) pss_nil)
      (pss_cons (ps_if (pt_cmpR (kEq (K := K) hr.units) (pv 2) pe_int (nomark _)) (pss_one (ps_ret (pe_has h__law_grid (hr.mono (by decide)) pass0 (pa_cons (pv 0) (pa_cons (pv 1) pa_nil))))) pss_nil)
      (pss_one (ps_ret (pe_ifExp (pt_cmpR op_lt (pv 2) pe_int (nomark _)) (pe_has h__law_touching (hr.mono (by decide)) pass0 (pa_cons (pv 0) (pa_cons (pv 1) pa_nil))) (pe_has h__law_scatter (hr.mono (by decide)) pass0 (pa_cons (pv 0) (pa_cons (pv 1) pa_nil)))))))))))))), fun as k hc => ?_⟩
  try dsimp only [cxOf]
  clear hr E H s outer A cdv f d B
  obtain ⟨rfl, q⟩ := hc
  simp only [st0, List.map_cons, List.map_nil, List.replicate, List.cons_append, List.nil_append]
  walk_at "w"
  refine ⟨_, rfl, by decide, lt_9000 (by decide) (by decide), fun kind kind1 kind2 => ?_⟩
  walk_at "w"
  refine yn (fun hk => ?_) (fun hk => ?_)
  · walk_at "w"
    refine ⟨_, rfl, by decide, lt_9000 (by decide) (by decide), fun c c1 c2 => ?_⟩
    walk_at "w"
    refine ⟨c, rfl, c1, c2, fun ds hds => ?_⟩
    walk_at "w"
    refine yn (fun h => ?_) (fun h => ?_)
    · walk_at "w"
      exact q ds ⟨by omega, hds.2⟩
    · walk_at "w"
      exact ⟨rfl, fun ds hd => q ds hd⟩
  walk_at "w"
  refine yn (fun hk => ?_) (fun hk => ?_)
  · walk_at "w"
    exact ⟨rfl, fun ds hd => q ds hd⟩
  walk_at "w"
  refine yn (fun hk => ?_) (fun hk => ?_)
  · walk_at "w"
    exact ⟨rfl, fun ds hd => q ds hd⟩
  walk_at "w"
  refine yn (fun hk => ?_) (fun hk => ?_)
  · walk_at "w"
    exact ⟨rfl, fun ds hd => q ds hd⟩
  walk_at "w"
  refine yn (fun hk => ?_) (fun hk => ?_)
  · walk_at "w"
    exact ⟨rfl, fun ds hd => q ds hd⟩
  walk_at "w"
  refine yn (fun hk => ?_) (fun hk => ?_)
  · walk_at "w"
    exact ⟨rfl, fun ds hd => q ds hd⟩
  walk_at "w"
  refine yn (fun hk => ?_) (fun hk => ?_)
  · walk_at "w"
    exact ⟨rfl, fun ds hd => q ds hd⟩
  walk_at "w"
  refine yn (fun hk => ?_) (fun hk => ?_)
  · walk_at "w"
    exact ⟨rfl, fun ds hd => q ds hd⟩
  · walk_at "w"
    exact ⟨rfl, fun ds hd => q ds hd⟩
structure Mv (a b c d e f : Int) : Prop where
  a : a.natAbs ≤ 2
  b : b.natAbs ≤ 1
  c : c.natAbs ≤ 1
  d : d.natAbs ≤ 1
  e : e.natAbs ≤ 6
  f : f.natAbs ≤ 6
abbrev i6D (a b c d e f : Int) : D := .tuple [.int a, .int b, .int c, .int d, .int e, .int f]
def c_laid : Con := fun as k => ∃ (ds : List D) (a b c d e f n : Int), as = [.i (.list ds), .i (i6D a b c d e f), .i (.int n)] ∧ Rws 6 ds ∧ Mv a b c d e f ∧ 1 ≤ n ∧ n ≤ 5 ∧ ∀ l : List Sg, l.length ≤ 6 → (∀ s ∈ l, SSz 7 s) → k (.list (l.map sgD))
theorem nm {x y : Int} {a b : Nat} (h1 : x.natAbs ≤ a) (h2 : y.natAbs ≤ b) : (x * y).natAbs ≤ a * b := by rw [Int.natAbs_mul]; exact Nat.mul_le_mul h1 h2
theorem laid_b {x y e : Int} {a b : Nat} (h1 : x.natAbs ≤ a * 40) (h2 : y.natAbs ≤ b * 40) (h3 : e.natAbs ≤ 6) (ha : a ≤ 2) (hb : b ≤ 1) : (x + y + e).natAbs < 2 ^ 7 := by
  have : a * 40 ≤ 80 := Nat.mul_le_mul_right 40 ha
  have : b * 40 ≤ 40 := Nat.mul_le_mul_right 40 hb
  omega
theorem lt_pow {x : Int} {a b : Nat} (h : x.natAbs ≤ a) (l : a < 2 ^ b) : x.natAbs < 2 ^ b := Nat.lt_of_le_of_lt h l
abbrev n__law_laid : List Str := ["rows", "move", "part", "found", "r", "ends", "k", "x", "y"]
abbrev s__law_laid : Stmt := top 100
theorem sc__law_laid : FnScope ["rows", "move", "part", "found", "r", "ends", "k", "x", "y"] ["rows", "move", "part"] (defScope s__law_laid) := ⟨rfl, rfl, rfl, by decide +kernel, rfl, by decide +kernel, by decide +kernel⟩
theorem h__law_laid (B : Bl mg) (d : DefAt K mg "_law_laid" s__law_laid []) (h__law_frac : Has P w K mg base CX0 "_law_frac" 2 [] (spOf K none (c_reduced))) : Has P w K mg base CX0 "_law_laid" 3 [] (spOf K none (c_laid)) := by
  refine d.pure sc__law_laid (fun _ _ _ _ _ _ us hl => match us, hl with | [_, _, _], _ => rfl) 6 rfl (fun as k ⟨_, _, _, _, _, _, _, _, e, _⟩ => by rw [e]; rfl) fun f cdv A outer s H E hr => ⟨_, (pss_cons (ps_setM (i := 3) sc__law_laid.nd rfl (Or.inl rfl) (pe_lst pa_nil))
      (pss_cons (ps_for PassesOwn.never rfl (kiList (K := K) (pv 0)) (pg_name (i := 4) sc__law_laid.nd rfl (Or.inl rfl)) (pss_cons (ps_setM (i := 5) sc__law_laid.nd rfl (Or.inl rfl) (pe_lst pa_nil))
      (pss_cons (ps_for PassesOwn.never rfl (kiTup (K := K) (pe_tup (pa_cons pe_int (pa_cons pe_int pa_nil)))) (pg_name (i := 6) sc__law_laid.nd rfl (Or.inl rfl)) (pss_cons (ps_set (i := 7) sc__law_laid.nd rfl (Or.inl rfl) (pe_op (kAdd (K := K)) (pe_op (kAdd (K := K)) (pe_op op_mulG (pe_ix (kIx (K := K)) (pv 1) pe_int (fun _ _ => rfl)) (pe_ix (kIx (K := K)) (pv 4) (pv 6) (fun _ _ => rfl))) (pe_op op_mulG (pe_ix (kIx (K := K)) (pv 1) pe_int (fun _ _ => rfl)) (pe_ix (kIx (K := K)) (pv 4) (pe_op (kAdd (K := K)) (pv 6) pe_int) (fun _ _ => rfl)))) (pe_ix (kIx (K := K)) (pv 1) pe_int (fun _ _ => rfl))))
      (pss_cons (ps_set (i := 8) sc__law_laid.nd rfl (Or.inl rfl) (pe_op (kAdd (K := K)) (pe_op (kAdd (K := K)) (pe_op op_mulG (pe_ix (kIx (K := K)) (pv 1) pe_int (fun _ _ => rfl)) (pe_ix (kIx (K := K)) (pv 4) (pv 6) (fun _ _ => rfl))) (pe_op op_mulG (pe_ix (kIx (K := K)) (pv 1) pe_int (fun _ _ => rfl)) (pe_ix (kIx (K := K)) (pv 4) (pe_op (kAdd (K := K)) (pv 6) pe_int) (fun _ _ => rfl)))) (pe_ix (kIx (K := K)) (pv 1) pe_int (fun _ _ => rfl))))
      (pss_one (ps_expr (kApp (K := K) (pv 5) (pa_cons (pe_tup (pa_cons (pe_has h__law_frac (hr.mono (by decide)) pass0 (pa_cons (pv 7) (pa_cons (pv 2) pa_nil))) (pa_cons (pe_has h__law_frac (hr.mono (by decide)) pass0 (pa_cons (pv 8) (pa_cons (pv 2) pa_nil))) pa_nil))) pa_nil)))))))
      (pss_frz 5 (pss_one (ps_expr (kApp (K := K) (pv 3) (pa_cons (pe_tup (pa_cons (pe_ix (kIx (K := K)) (pv 5) pe_int (fun _ _ => rfl)) (pa_cons (pe_ix (kIx (K := K)) (pv 5) pe_int (fun _ _ => rfl)) pa_nil))) pa_nil))))))))
      (pss_one (ps_ret (pv 3))))), fun as k hc => ?_⟩
  try dsimp only [cxOf]
  clear hr E H s outer A cdv f d B
  obtain ⟨ds, a, b, c, d, e, f, n, rfl, hr, hm, n1, n2, q⟩ := hc
  obtain ⟨ma, mb, mc, md, me, mf⟩ := hm
  simp only [st0, List.map_cons, List.map_nil, List.replicate, List.cons_append, List.nil_append]
  walk_at "w"
  refine s_forL ?_
  walk_at "w"
  refine ⟨fun i ρ' => ∃ (l : List Sg) (s1 s2 s3 s4 s5 : Option AV), ρ' = [some (.i (.list ds)), some (.i (i6D a b c d e f)), some (.i (.int n)), some (.m (l.map sgD)), s1, s2, s3, s4, s5] ∧ l.length = i ∧ ∀ s ∈ l, SSz 7 s, ⟨[], _, _, _, _, _, rfl, rfl, fun s hs => absurd hs List.not_mem_nil⟩, fun i x ρ' hx ⟨l, s1, s2, s3, s4, s5, hρ, hl, hz⟩ => ?_, fun ρ' ⟨l, s1, s2, s3, s4, s5, hρ, hl, hz⟩ => ?_⟩
  · subst hρ
    obtain ⟨⟨u, v, y, z⟩, rfl, hu, hv, hy, hz2⟩ := hr.2 x (List.mem_of_getElem? hx)
    have hi : i < ds.length := (List.getElem?_eq_some_iff.mp hx).1
    have hn := hr.1
    have hn7 : n.natAbs < 2 ^ 7 := lt_pow (a := 5) (by omega) (by decide)
    have hn9 : n.natAbs < 2 ^ 9000 := lt_9000 (by omega) (by omega)
    have n0 : n ≠ 0 := by omega
    have hiL : l.length < 100000 := by omega
    have hu : u.natAbs ≤ 40 := hu
    have hv : v.natAbs ≤ 40 := hv
    have hy : y.natAbs ≤ 40 := hy
    have hz2 : z.natAbs ≤ 40 := hz2
    have pa := lt_pow (b := 2) ma (by decide)
    have pb := lt_pow (b := 2) mb (by decide)
    have pc := lt_pow (b := 2) mc (by decide)
    have pd := lt_pow (b := 2) md (by decide)
    have pu := lt_pow (b := 6) hu (by decide)
    have pv := lt_pow (b := 6) hv (by decide)
    have py := lt_pow (b := 6) hy (by decide)
    have pz := lt_pow (b := 6) hz2 (by decide)
    have b1 := nm ma hu
    have b2 := nm mb hv
    have b3 := nm mc hu
    have b4 := nm md hv
    have b5 := nm ma hy
    have b6 := nm mb hz2
    have b7 := nm mc hy
    have b8 := nm md hz2
    have g1 : Sz 7 (Rat.divInt (a * u + b * v + e) n) := szd n1 (laid_b b1 b2 me (by decide) (by decide)) hn7
    have g2 : Sz 7 (Rat.divInt (c * u + d * v + f) n) := szd n1 (laid_b b3 b4 mf (by decide) (by decide)) hn7
    have g3 : Sz 7 (Rat.divInt (a * y + b * z + e) n) := szd n1 (laid_b b5 b6 me (by decide) (by decide)) hn7
    have g4 : Sz 7 (Rat.divInt (c * y + d * z + f) n) := szd n1 (laid_b b7 b8 mf (by decide) (by decide)) hn7
    refine ⟨_, g_name, ?_⟩
    walk_at "w"
    refine ⟨_, _, rfl, n0, hn9, ?_⟩
    walk_at "w"
    refine ⟨_, _, rfl, n0, hn9, ?_⟩
    walk_at "w"
    refine ⟨_, _, rfl, n0, hn9, ?_⟩
    walk_at "w"
    refine ⟨_, _, rfl, n0, hn9, ?_⟩
    walk_at "w"
    exact ⟨by rw [List.length_map]; exact hiL, l ++ [⟨⟨Rat.divInt (a * u + b * v + e) n, Rat.divInt (c * u + d * v + f) n⟩, ⟨Rat.divInt (a * y + b * z + e) n, Rat.divInt (c * y + d * z + f) n⟩⟩], _, _, _, _, _, by rw [List.map_append]; rfl, by rw [List.length_append, hl]; rfl, fun s hs => (List.mem_append.mp hs).elim (hz s) fun hs => by
      have e' : s = (⟨⟨Rat.divInt (a * u + b * v + e) n, Rat.divInt (c * u + d * v + f) n⟩, ⟨Rat.divInt (a * y + b * z + e) n, Rat.divInt (c * y + d * z + f) n⟩⟩ : Sg) := by simpa using hs
      rw [e']
      exact ⟨⟨g1, g2⟩, ⟨g3, g4⟩⟩⟩
  · subst hρ
    walk_at "w"
    exact q l (by rw [hl]; exact hr.1) hz
def okMv : D → Bool
  | .tuple [.int a, .int b, .int c, .int d] => decide (a.natAbs ≤ 2) && (decide (b.natAbs ≤ 1) && (decide (c.natAbs ≤ 1) && decide (d.natAbs ≤ 1)))
  | _ => false
theorem okMvs {ds : List D} (h : ds.all okMv = true) {x : D} (hd : x ∈ ds) : ∃ a b c d : Int, x = .tuple [.int a, .int b, .int c, .int d] ∧ a.natAbs ≤ 2 ∧ b.natAbs ≤ 1 ∧ c.natAbs ≤ 1 ∧ d.natAbs ≤ 1 := by
  have h1 := List.all_eq_true.mp h x hd
  match x, h1 with
  | .tuple [.int a, .int b, .int c, .int d], h1 =>
    have h2 : (decide (a.natAbs ≤ 2) && (decide (b.natAbs ≤ 1) && (decide (c.natAbs ≤ 1) && decide (d.natAbs ≤ 1)))) = true := h1
    simp only [Bool.and_eq_true, decide_eq_true_eq] at h2
    exact ⟨a, b, c, d, rfl, h2.1, h2.2.1, h2.2.2.1, h2.2.2.2⟩
def c_move (s : Zs) : Con := fun as k => as = [.o (.ref s.a)] ∧ ∀ a b c d e f : Int, Mv a b c d e f → k (i6D a b c d e f)
abbrev n__law_move : List Str := ["stream", "turn"]
abbrev s__law_move : Stmt := top 101
theorem sc__law_move : FnScope ["stream", "turn"] ["stream"] (defScope s__law_move) := ⟨rfl, rfl, rfl, by decide +kernel, rfl, by decide +kernel, by decide +kernel⟩
theorem h__law_move (B : Bl mg) (d : DefAt K mg "_law_move" s__law_move []) (h__law_from : Has P w K mg base CX0 "_law_from" 2 [] (spOf K (some S) (c_from S))) (h__law_pick : Has P w K mg base CX0 "_law_pick" 2 [] (spOf K (some S) (c_pick S))) : Has P w K mg base CX0 "_law_move" 3 [] (spOf K (some S) (c_move S)) := by
  refine d.pure sc__law_move (fun _ _ _ _ _ _ us hl => match us, hl with | [_], _ => rfl) 1 rfl (fun as k ⟨e, _⟩ => by rw [e]; rfl) fun f cdv A outer s H E hr => ⟨_, (pss_cons (ps_set (i := 1) sc__law_move.nd rfl (Or.inl rfl) (pe_has h__law_pick (hr.mono (by decide)) pass0 (pa_cons (pv 0) (pa_cons (pe_tup (pa_cons (pe_tup (pa_cons pe_int (pa_cons pe_int (pa_cons pe_int (pa_cons pe_int pa_nil))))) (pa_cons (pe_tup (pa_cons pe_int (pa_cons pe_int (pa_cons pe_int (pa_cons pe_int pa_nil))))) (pa_cons (pe_tup (pa_cons pe_int (pa_cons (pe_un un_neg pe_int) (pa_cons pe_int (pa_cons pe_int pa_nil))))) (pa_cons (pe_tup (pa_cons pe_int (pa_cons pe_int (pa_cons pe_int (pa_cons pe_int pa_nil))))) (pa_cons (pe_tup (pa_cons pe_int (pa_cons pe_int (pa_cons pe_int (pa_cons pe_int pa_nil))))) (pa_cons (pe_tup (pa_cons (pe_un un_neg pe_int) (pa_cons pe_int (pa_cons pe_int (pa_cons pe_int pa_nil))))) pa_nil))))))) pa_nil))))
      (pss_one (ps_ret (pe_op (kAdd (K := K)) (pv 1) (pe_tup (pa_cons (pe_has h__law_from (hr.mono (by decide)) pass0 (pa_cons (pv 0) (pa_cons (pe_un un_neg pe_int) (pa_cons pe_int pa_nil)))) (pa_cons (pe_has h__law_from (hr.mono (by decide)) pass0 (pa_cons (pv 0) (pa_cons (pe_un un_neg pe_int) (pa_cons pe_int pa_nil)))) pa_nil))))))), fun as k hc => ?_⟩
  try dsimp only [cxOf]
  clear hr E H s outer A cdv f d B
  obtain ⟨rfl, q⟩ := hc
  simp only [st0, List.map_cons, List.map_nil, List.replicate, List.cons_append, List.nil_append]
  walk_at "w"
  refine ⟨_, _, rfl, .inl rfl, by decide, by decide, fun d hd => ?_⟩
  obtain ⟨a, b, c, d, rfl, ha, hb, hcc, hd⟩ := okMvs (by decide) hd
  walk_at "w"
  refine ⟨_, _, rfl, by decide, by decide, fun e e1 e2 => ?_⟩
  walk_at "w"
  refine ⟨_, _, rfl, by decide, by decide, fun f f1 f2 => ?_⟩
  walk_at "w"
  exact q a b c d e f ⟨ha, hb, hcc, hd, by omega, by omega⟩
def c_mixed (s : Zs) : Con := fun as k => ∃ l : List Sg, as = [.o (.ref s.a), .i (.list (l.map sgD))] ∧ l.length ≤ 6 ∧ (∀ s ∈ l, SSz 7 s) ∧ ∀ l' : List Sg, l'.length ≤ 6 → (∀ s ∈ l', SSz 7 s) → k (.list (l'.map sgD))
abbrev n__law_mixed : List Str := ["stream", "drawing", "found", "s"]
abbrev s__law_mixed : Stmt := top 102
theorem sc__law_mixed : FnScope ["stream", "drawing", "found", "s"] ["stream", "drawing"] (defScope s__law_mixed) := ⟨rfl, rfl, rfl, by decide +kernel, rfl, by decide +kernel, by decide +kernel⟩
theorem h__law_mixed (B : Bl mg) (d : DefAt K mg "_law_mixed" s__law_mixed []) (h__law_shuffled : Has P w K mg base CX0 "_law_shuffled" 2 [] (spOf K (some S) (c_shuf S))) (h__law_next : Has P w K mg base CX0 "_law_next" 1 [] (spOf K (some S) (c_next S))) : Has P w K mg base CX0 "_law_mixed" 3 [] (spOf K (some S) (c_mixed S)) := by
  refine d.pure sc__law_mixed (fun _ _ _ _ _ _ us hl => match us, hl with | [_, _], _ => rfl) 2 rfl (fun as k ⟨_, e, _⟩ => by rw [e]; rfl) fun f cdv A outer s H E hr => ⟨_, (pss_cons (ps_setM (i := 2) sc__law_mixed.nd rfl (Or.inl rfl) (pe_lst pa_nil))
      (pss_cons (ps_for PassesOwn.never rfl (kiList (K := K) (pe_has h__law_shuffled (hr.mono (by decide)) pass0 (pa_cons (pv 0) (pa_cons (pv 1) pa_nil)))) (pg_name (i := 3) sc__law_mixed.nd rfl (Or.inl rfl)) (pss_one (ps_expr (kApp (K := K) (pv 2) (pa_cons (pe_ifExp (pt_cmpR (kEq (K := K) hr.units) (pe_has h__law_next (hr.mono (by decide)) pass0 (pa_cons (pv 0) (pa_cons pe_int pa_nil))) pe_int (nomark _)) (pe_tup (pa_cons (pe_ix (kIx (K := K)) (pv 3) pe_int (fun _ _ => rfl)) (pa_cons (pe_ix (kIx (K := K)) (pv 3) pe_int (fun _ _ => rfl)) pa_nil))) (pv 3)) pa_nil)))))
      (pss_one (ps_ret (pv 2))))), fun as k hc => ?_⟩
  try dsimp only [cxOf]
  clear hr E H s outer A cdv f d B
  obtain ⟨l0, rfl, hl0, hz0, q⟩ := hc
  simp only [st0, List.map_cons, List.map_nil, List.replicate, List.cons_append, List.nil_append]
  walk_at "w"
  refine s_forL ?_
  walk_at "w"
  refine ⟨_, rfl, by rw [List.length_map]; omega, fun es he => ?_⟩
  obtain ⟨l1, hp, rfl⟩ := perm_map he.symm l0 rfl
  have hl1 : l1.length ≤ 6 := by rw [← hp.length_eq]; exact hl0
  have hz1 : ∀ s ∈ l1, SSz 7 s := fun s hs => hz0 s (hp.symm.subset hs)
  walk_at "w"
  refine ⟨fun i ρ' => ∃ (l : List Sg) (s1 : Option AV), ρ' = [some (.o (.ref S.a)), some (.i (.list (l0.map sgD))), some (.m (l.map sgD)), s1] ∧ l.length = i ∧ ∀ s ∈ l, SSz 7 s, ⟨[], _, rfl, rfl, fun s hs => absurd hs List.not_mem_nil⟩, fun i x ρ' hx ⟨l, s1, hρ, hl, hz⟩ => ?_, fun ρ' ⟨l, s1, hρ, hl, hz⟩ => ?_⟩
  · subst hρ
    have hi : i < (l1.map sgD).length := (List.getElem?_eq_some_iff.mp hx).1
    rw [List.length_map] at hi
    obtain ⟨s, hs, rfl⟩ := List.mem_map.mp (List.mem_of_getElem? hx)
    have hss := hz1 s hs
    refine ⟨_, g_name, ?_⟩
    walk_at "w"
    refine ⟨_, rfl, by decide, lt_9000 (by decide) (by decide), fun r r1 r2 => ?_⟩
    walk_at "w"
    refine yn (fun h => ?_) (fun h => ?_)
    · walk_at "w"
      exact ⟨by rw [List.length_map]; omega, l ++ [⟨s.q, s.p⟩], _, by rw [List.map_append]; rfl, by rw [List.length_append, hl]; rfl, fun x hx => (List.mem_append.mp hx).elim (hz x) fun hx => by
        have e : x = ⟨s.q, s.p⟩ := by simpa using hx
        rw [e]
        exact ⟨hss.2, hss.1⟩⟩
    · walk_at "w"
      exact ⟨by rw [List.length_map]; omega, l ++ [s], _, by rw [List.map_append]; rfl, by rw [List.length_append, hl]; rfl, fun x hx => (List.mem_append.mp hx).elim (hz x) fun hx => by
        have e : x = s := by simpa using hx
        rw [e]
        exact hss⟩
  · subst hρ
    walk_at "w"
    exact q l (by rw [List.length_map] at hl; omega) hz
def c_drawing (s : Zs) : Con := fun as k => as = [.o (.ref s.a), .i (.int 5)] ∧ ∀ l : List Sg, l.length ≤ 6 → (∀ s ∈ l, SSz 7 s) → k (.list (l.map sgD))
abbrev n__law_drawing : List Str := ["stream", "many", "rows"]
abbrev s__law_drawing : Stmt := top 103
theorem sc__law_drawing : FnScope ["stream", "many", "rows"] ["stream", "many"] (defScope s__law_drawing) := ⟨rfl, rfl, rfl, by decide +kernel, rfl, by decide +kernel, by decide +kernel⟩
theorem h__law_drawing (B : Bl mg) (d : DefAt K mg "_law_drawing" s__law_drawing []) (h__law_mixed : Has P w K mg base CX0 "_law_mixed" 3 [] (spOf K (some S) (c_mixed S))) (h__law_laid : Has P w K mg base CX0 "_law_laid" 3 [] (spOf K none (c_laid))) (h__law_pick : Has P w K mg base CX0 "_law_pick" 2 [] (spOf K (some S) (c_pick S))) (h__law_move : Has P w K mg base CX0 "_law_move" 3 [] (spOf K (some S) (c_move S))) (h__law_next : Has P w K mg base CX0 "_law_next" 1 [] (spOf K (some S) (c_next S))) (h__law_rows : Has P w K mg base CX0 "_law_rows" 5 [] (spOf K (some S) (c_rowsN S 5))) : Has P w K mg base CX0 "_law_drawing" 6 [] (spOf K (some S) (c_drawing S)) := by
  refine d.pure sc__law_drawing (fun _ _ _ _ _ _ us hl => match us, hl with | [_, _], _ => rfl) 1 rfl (fun as k ⟨e, _⟩ => by rw [e]; rfl) fun f cdv A outer s H E hr => ⟨_, (pss_cons (ps_set (i := 2) sc__law_drawing.nd rfl (Or.inl rfl) (pe_has h__law_rows (hr.mono (by decide)) pass0 (pa_cons (pv 0) (pa_cons (pv 1) pa_nil))))
      (pss_cons (ps_if (PW.pt (pw_and (pt_cmpR op_lt pe_int (pe_callB (kLen (K := K)) (by rfl) B.len (by decide +kernel) (pa_cons (pv 2) pa_nil)) (nomark _)) (pw_and (pt_cmpR op_lt (pe_callB (kLen (K := K)) (by rfl) B.len (by decide +kernel) (pa_cons (pv 2) pa_nil)) (pv 1) (nomark _)) (pw_and1 (pt_cmpR (kEq (K := K) hr.units) (pe_has h__law_next (hr.mono (by decide)) pass0 (pa_cons (pv 0) (pa_cons pe_int pa_nil))) pe_int (nomark _)))))) (pss_one (ps_set (i := 2) sc__law_drawing.nd rfl (Or.inl rfl) (pe_op (kAdd (K := K)) (pv 2) (pe_lst (pa_cons (pe_has h__law_pick (hr.mono (by decide)) pass0 (pa_cons (pv 0) (pa_cons (pv 2) pa_nil))) pa_nil))))) pss_nil)
      (pss_one (ps_ret (pe_has h__law_mixed (hr.mono (by decide)) pass0 (pa_cons (pv 0) (pa_cons (pe_has h__law_laid (hr.mono (by decide)) pass0 (pa_cons (pv 2) (pa_cons (pe_has h__law_move (hr.mono (by decide)) pass0 (pa_cons (pv 0) pa_nil)) (pa_cons (pe_has h__law_pick (hr.mono (by decide)) pass0 (pa_cons (pv 0) (pa_cons (pe_tup (pa_cons pe_int (pa_cons pe_int (pa_cons pe_int (pa_cons pe_int (pa_cons pe_int (pa_cons pe_int pa_nil))))))) pa_nil))) pa_nil)))) pa_nil))))))), fun as k hc => ?_⟩
  try dsimp only [cxOf]
  clear hr E H s outer A cdv f d B
  obtain ⟨rfl, q⟩ := hc
  simp only [st0, List.map_cons, List.map_nil, List.replicate, List.cons_append, List.nil_append]
  walk_at "w"
  refine ⟨rfl, fun ds hr => ?_⟩
  have hn := hr.1
  walk_at "w"
  refine yn (fun g1 => ?_) (fun g1 => ?_)
  · walk_at "w"
    refine yn (fun g2 => ?_) (fun g2 => ?_)
    · walk_at "w"
      refine ⟨_, rfl, by decide, lt_9000 (by decide) (by decide), fun r r1 r2 => ?_⟩
      walk_at "w"
      refine yn (fun g3 => ?_) (fun g3 => ?_)
      · walk_at "w"
        refine ⟨_, _, rfl, .inr rfl, by omega, by omega, fun x hx => ?_⟩
        walk_at "w"
        refine b_addL (by show _ + 1 ≤ _; omega) ?_
        walk_at "w"
        refine ⟨rfl, fun a b c d e f hm => ?_⟩
        walk_at "w"
        refine ⟨_, _, rfl, .inl rfl, by decide, by decide, fun y hy => ?_⟩
        obtain ⟨n, rfl, n1, n2⟩ := okIs (lo := 1) (hi := 5) (by decide) hy
        walk_at "w"
        refine ⟨_, _, _, _, _, _, _, _, rfl, hr.app (m := 1) ⟨Nat.le_refl _, fun z hz => by rw [show z = x from by simpa using hz]; exact hr.2 x hx⟩, hm, n1, n2, fun l hl hz => ?_⟩
        walk_at "w"
        exact ⟨l, rfl, hl, hz, fun l' h1 h2 => q l' h1 h2⟩
      · walk_at "w"
        refine ⟨rfl, fun a b c d e f hm => ?_⟩
        walk_at "w"
        refine ⟨_, _, rfl, .inl rfl, by decide, by decide, fun y hy => ?_⟩
        obtain ⟨n, rfl, n1, n2⟩ := okIs (lo := 1) (hi := 5) (by decide) hy
        walk_at "w"
        refine ⟨_, _, _, _, _, _, _, _, rfl, hr.mono (by decide), hm, n1, n2, fun l hl hz => ?_⟩
        walk_at "w"
        exact ⟨l, rfl, hl, hz, fun l' h1 h2 => q l' h1 h2⟩
    · walk_at "w"
      refine ⟨rfl, fun a b c d e f hm => ?_⟩
      walk_at "w"
      refine ⟨_, _, rfl, .inl rfl, by decide, by decide, fun y hy => ?_⟩
      obtain ⟨n, rfl, n1, n2⟩ := okIs (lo := 1) (hi := 5) (by decide) hy
      walk_at "w"
      refine ⟨_, _, _, _, _, _, _, _, rfl, hr.mono (by decide), hm, n1, n2, fun l hl hz => ?_⟩
      walk_at "w"
      exact ⟨l, rfl, hl, hz, fun l' h1 h2 => q l' h1 h2⟩
  · walk_at "w"
    refine ⟨rfl, fun a b c d e f hm => ?_⟩
    walk_at "w"
    refine ⟨_, _, rfl, .inl rfl, by decide, by decide, fun y hy => ?_⟩
    obtain ⟨n, rfl, n1, n2⟩ := okIs (lo := 1) (hi := 5) (by decide) hy
    walk_at "w"
    refine ⟨_, _, _, _, _, _, _, _, rfl, hr.mono (by decide), hm, n1, n2, fun l hl hz => ?_⟩
    walk_at "w"
    exact ⟨l, rfl, hl, hz, fun l' h1 h2 => q l' h1 h2⟩
end K88
/-! T19 -/
namespace K88
open PySem PySem.Spec PyProof.Rows L2 AL
local macro_rules | `(tactic| walk_at "bd") => `(tactic| first
  | assumption
  | (apply Sz.n; assumption)
  | (apply Sz.d; assumption)
  | ((with_reducible apply lt_mul); (case h1 => walk_at "bd"); (case h2 => walk_at "bd"))
  | ((with_reducible apply lt_addx); (case h1 => walk_at "bd"); (case h2 => walk_at "bd"))
  | ((with_reducible apply lt_subx); (case h1 => walk_at "bd"); (case h2 => walk_at "bd"))
  | ((with_reducible apply lt_neg); (case h => walk_at "bd")))
local macro_rules | `(tactic| walk_at "nz") => `(tactic| first
  | assumption
  | exact dnz _
  | ((with_reducible apply inz); (case h1 => walk_at "nz"); (case h2 => walk_at "nz")))
local macro_rules | `(tactic| walk_at "w") => `(tactic| repeat (first
  | with_reducible apply w_int
  | ((with_reducible apply w_var); (case h => exact rfl))
  | with_reducible apply wl_cons
  | with_reducible apply wl_nil
  | ((with_reducible refine And.intro (Nat.le_of_ble_eq_true ?hlen) ?_); (case hlen => exact rfl))
  | with_reducible apply w_tup
  | with_reducible apply w_op
  | with_reducible apply s_seq
  | ((with_reducible apply wa_consO); (case h => exact rfl))
  | with_reducible apply wa_cons
  | with_reducible apply wa_nil
  | with_reducible apply ru_i
  | with_reducible apply w_un
  | with_reducible apply s_asg
  | with_reducible apply w_call0
  | with_reducible apply w_callD2
  | with_reducible apply w_callD1
  | ((with_reducible apply w_callX0); (case hz => exact rfl))
  | ((with_reducible apply w_callXS); (case hz => exact rfl))
  | with_reducible apply w_callZ
  | with_reducible apply b_addI
  | ((with_reducible apply rb_ixT); (case e => exact rfl))
  | ((with_reducible apply rb_ixL); (case e => exact rfl))
  | with_reducible apply w_str
  | with_reducible apply w_lst
  | with_reducible apply w_sl
  | with_reducible apply o_none
  | with_reducible apply o_some
  | with_reducible apply sG_T
  | with_reducible apply sG_L
  | ((with_reducible apply s_app); (case e => exact rfl))
  | with_reducible apply s_drop
  | with_reducible apply w_if
  | with_reducible apply p_if
  | with_reducible apply t_test
  | with_reducible apply b_eqI
  | with_reducible apply s_next
  | with_reducible apply p_ret
  | ((with_reducible apply b_mulI); (case hc => (apply mulx; (case h1 => walk_at "bd"); (case h2 => walk_at "bd"); (case h => omega))))
  | with_reducible apply b_sub
  | with_reducible apply s_raiseK
  | with_reducible apply w_isT
  | with_reducible apply w_isL
  | with_reducible apply w_isI
  | with_reducible apply w_isB
  | with_reducible apply w_isS
  | with_reducible apply w_isN
  | with_reducible apply w_notN
  | with_reducible apply w_or
  | with_reducible apply w_and
  | with_reducible apply w_not
  | with_reducible apply w_chain
  | with_reducible apply w_cb
  | with_reducible apply t_or
  | with_reducible apply t_and
  | with_reducible apply t_not
  | with_reducible apply t_yes
  | ((with_reducible apply b_addT); (case hz => exact Nat.le_of_ble_eq_true rfl))
  | ((with_reducible apply b_addL); (case hz => exact Nat.le_of_ble_eq_true rfl))
  | with_reducible apply s_break
  | with_reducible apply rb_b
  | with_reducible apply t_truthI
  | with_reducible apply b_neI
  | with_reducible apply b_eqS
  | with_reducible apply b_eqB
  | with_reducible apply b_neB
  | with_reducible apply w_bl
  | with_reducible apply w_non
  | with_reducible apply t_B
  | with_reducible apply m_lst
  | ((with_reducible apply m_catO); (case e => exact rfl))
  | with_reducible apply m_cat
  | with_reducible apply m_list
  | with_reducible apply w_lcLU
  | with_reducible apply w_lcTU
  | with_reducible apply s_forTU
  | with_reducible apply s_forLU
  | (with_reducible apply lcU_nil)
  | (with_reducible apply unr_nil)
  | with_reducible apply unr_one
  | ((with_reducible show LcU _ _ _ _ _ _ _ _ _); (refine lcU_one rfl (Nat.lt_of_succ_le (Nat.le_of_ble_eq_true rfl)) ?_))
  | ((with_reducible show (_ = true → _) ∧ (_ = false → _)); (first | refine ybt rfl ?_ | refine ybf rfl ?_))
  | ((with_reducible show (_ = false → _) ∧ (_ = true → _)); (first | refine obt rfl ?_ | refine obf rfl ?_))
  | with_reducible apply yt
  | with_reducible apply yf
  | with_reducible apply fy
  | with_reducible apply ft
  | ((with_reducible apply f_frz); (case e => exact rfl))
  | with_reducible apply s_asgG
  | (refine Exists.intro _ (And.intro (g_lst (by repeat (first | exact gs_nil | apply gs_one)) rfl) ?_))
  | (refine Exists.intro _ (And.intro (g_tup (by repeat (first | exact gs_nil | apply gs_one)) rfl) ?_))
  | with_reducible apply c_lenL
  | with_reducible apply c_lenT
  | with_reducible apply c_listL
  | with_reducible apply c_listT
  | with_reducible apply c_tupL
  | with_reducible apply c_abs
  | with_reducible apply c_int
  | with_reducible apply c_min
  | with_reducible apply rc_gcd
  | with_reducible apply rb_b
  | (refine And.intro (Nat.lt_of_succ_le (Nat.le_of_ble_eq_true rfl)) ?_)
  | with_reducible refine Exists.intro _ (And.intro rfl ?_)
  | refine And.intro (Nat.le_of_ble_eq_true rfl) ?_
  ))
variable {P : Program} {w : World} {K : PySem.W.Frag} {mg : Str → Option Value} {base : Heap}
/-- data of at most n rows within one another, no list above 1000 -/
def dep : Nat → D → Bool
  | _, .none => true
  | _, .bool _ => true
  | _, .int _ => true
  | _, .str _ => true
  | n + 1, .list ds => decide (ds.length ≤ 1000) && ds.all (dep n)
  | n + 1, .tuple ds => decide (ds.length ≤ 1000) && ds.all (dep n)
  | _, _ => false
theorem dep_L {n : Nat} {ds : List D} (h : dep (n + 1) (.list ds) = true) : ds.length ≤ 1000 ∧ ∀ d ∈ ds, dep n d = true := by
  have h2 : (decide (ds.length ≤ 1000) && ds.all (dep n)) = true := h
  rw [Bool.and_eq_true] at h2
  exact ⟨of_decide_eq_true h2.1, List.all_eq_true.mp h2.2⟩
theorem dep_T {n : Nat} {ds : List D} (h : dep (n + 1) (.tuple ds) = true) : ds.length ≤ 1000 ∧ ∀ d ∈ ds, dep n d = true := dep_L (n := n) h
theorem dep_up {n : Nat} : ∀ {d : D}, dep n d = true → dep (n + 1) d = true := by
  induction n with
  | zero =>
    intro d h
    cases d with
    | list ds => cases h
    | tuple ds => cases h
    | dict es => cases h
    | _ => rfl
  | succ n ih =>
    intro d h
    cases d with
    | list ds =>
      obtain ⟨h1, h2⟩ := dep_L h
      show (decide (ds.length ≤ 1000) && ds.all (dep (n + 1))) = true
      rw [Bool.and_eq_true]
      exact ⟨decide_eq_true h1, List.all_eq_true.mpr fun d hd => ih (h2 d hd)⟩
    | tuple ds =>
      obtain ⟨h1, h2⟩ := dep_L (ds := ds) h
      show (decide (ds.length ≤ 1000) && ds.all (dep (n + 1))) = true
      rw [Bool.and_eq_true]
      exact ⟨decide_eq_true h1, List.all_eq_true.mpr fun d hd => ih (h2 d hd)⟩
    | dict es => cases h
    | _ => rfl
def c_same (n : Nat) : Con := fun as k => ∃ d, as = [.i d, .i d] ∧ dep n d = true ∧ k (.bool true)
def c_copy (n : Nat) : Con := fun as k => ∃ d, as = [.i d] ∧ dep n d = true ∧ k d
abbrev n__law_same : List Str := ["actual", "due", "at"]
abbrev s__law_same : Stmt := top 79
theorem sc__law_same : FnScope ["actual", "due", "at"] ["actual", "due"] (defScope s__law_same) := ⟨rfl, rfl, rfl, by decide +kernel, rfl, by decide +kernel, by decide +kernel⟩
theorem same0 (B : Bl mg) (d : DefAt K mg "_law_same" s__law_same []) : Has P w K mg base CX0 "_law_same" 1 [] (spOf K none (c_same 0)) := by
  refine d.pure sc__law_same (fun _ _ _ _ _ _ us hl => match us, hl with | [_, _], _ => rfl) 1 rfl (fun as k ⟨_, e, _⟩ => by rw [e]; rfl) fun f cdv A outer s H E hr => ⟨_, (pss_cons (ps_if (PW.pt (pw_or (pt_val (pe_callB (kIsi (K := K)) (by rfl) B.isinstance (by decide +kernel) (pa_cons (pv 1) (pa_cons (pe_bltn (v := .ty "tuple") (by rfl) B.tuple (by decide +kernel) rfl) pa_nil)))) (pw_or1 (pt_val (pe_callB (kIsi (K := K)) (by rfl) B.isinstance (by decide +kernel) (pa_cons (pv 1) (pa_cons (pe_bltn (v := .ty "list") (by rfl) B.list (by decide +kernel) rfl) pa_nil))))))) (pss_cons (ps_if (PW.pt (pw_or (pt_cmpR (kNe (K := K) hr.units) (pe_callB (kIsi (K := K)) (by rfl) B.isinstance (by decide +kernel) (pa_cons (pv 0) (pa_cons (pe_bltn (v := .ty "tuple") (by rfl) B.tuple (by decide +kernel) rfl) pa_nil))) (pe_callB (kIsi (K := K)) (by rfl) B.isinstance (by decide +kernel) (pa_cons (pv 1) (pa_cons (pe_bltn (v := .ty "tuple") (by rfl) B.tuple (by decide +kernel) rfl) pa_nil))) (nomark _)) (pw_or (pt_cmpR (kNe (K := K) hr.units) (pe_callB (kIsi (K := K)) (by rfl) B.isinstance (by decide +kernel) (pa_cons (pv 0) (pa_cons (pe_bltn (v := .ty "list") (by rfl) B.list (by decide +kernel) rfl) pa_nil))) (pe_callB (kIsi (K := K)) (by rfl) B.isinstance (by decide +kernel) (pa_cons (pv 1) (pa_cons (pe_bltn (v := .ty "list") (by rfl) B.list (by decide +kernel) rfl) pa_nil))) (nomark _)) (pw_or1 (pt_cmpR (kNe (K := K) hr.units) (pe_callB (kLen (K := K)) (by rfl) B.len (by decide +kernel) (pa_cons (pv 0) pa_nil)) (pe_callB (kLen (K := K)) (by rfl) B.len (by decide +kernel) (pa_cons (pv 1) pa_nil)) (nomark _)))))) (pss_one (ps_ret pe_bl)) pss_nil)
      (pss_one (ps_ret (pe_cmpR (kEq (K := K) hr.units) (pe_callB (kLen (K := K)) (by rfl) B.len (by decide +kernel) (pa_cons (pe_lc (own := [("at", 2)]) (g := gName 2) rfl sc__law_same.nd (pi_range1 (by rfl) B.range (pa_cons (pe_callB (kLen (K := K)) (by rfl) B.len (by decide +kernel) (pa_cons (pv 1) pa_nil)) pa_nil)) (blkOk_by (own := [("at", 2)]) (N := n__law_same) (sc := defScope s__law_same) (by decide +kernel)) (fun _ _ _ _ _ => (pg_name (i := 2) sc__law_same.nd rfl (Or.inl rfl))) (fun _ _ _ _ _ => pts_one (pt_not (pt_val pe_no))) (fun _ _ _ _ _ => pe_int)) pa_nil)) pe_int (nomark _))))) pss_nil)
      (pss_cons (ps_if (pt_val (pe_callB (kIsi (K := K)) (by rfl) B.isinstance (by decide +kernel) (pa_cons (pv 1) (pa_cons (pe_bltn (v := .ty "bool") (by rfl) B.bool (by decide +kernel) rfl) pa_nil)))) (pss_one (ps_ret (pe_and (pe_callB (kIsi (K := K)) (by rfl) B.isinstance (by decide +kernel) (pa_cons (pv 0) (pa_cons (pe_bltn (v := .ty "bool") (by rfl) B.bool (by decide +kernel) rfl) pa_nil))) (pe_one (pe_cmpR (kEq (K := K) hr.units) (pv 0) (pv 1) (nomark _)))))) pss_nil)
      (pss_cons (ps_if (pt_val (pe_callB (kIsi (K := K)) (by rfl) B.isinstance (by decide +kernel) (pa_cons (pv 1) (pa_cons (pe_bltn (v := .ty "str") (by rfl) B.str (by decide +kernel) rfl) pa_nil)))) (pss_one (ps_ret (pe_and (pe_callB (kIsi (K := K)) (by rfl) B.isinstance (by decide +kernel) (pa_cons (pv 0) (pa_cons (pe_bltn (v := .ty "str") (by rfl) B.str (by decide +kernel) rfl) pa_nil))) (pe_one (pe_cmpR (kEq (K := K) hr.units) (pv 0) (pv 1) (nomark _)))))) pss_nil)
      (pss_cons (ps_if (pt_val (pe_callB (kIsi (K := K)) (by rfl) B.isinstance (by decide +kernel) (pa_cons (pv 1) (pa_cons (pe_bltn (v := .ty "int") (by rfl) B.int (by decide +kernel) rfl) pa_nil)))) (pss_one (ps_ret (pe_and (pe_callB (kIsi (K := K)) (by rfl) B.isinstance (by decide +kernel) (pa_cons (pv 0) (pa_cons (pe_bltn (v := .ty "int") (by rfl) B.int (by decide +kernel) rfl) pa_nil))) (pe_and (pe_not (pe_callB (kIsi (K := K)) (by rfl) B.isinstance (by decide +kernel) (pa_cons (pv 0) (pa_cons (pe_bltn (v := .ty "bool") (by rfl) B.bool (by decide +kernel) rfl) pa_nil)))) (pe_one (pe_cmpR (kEq (K := K) hr.units) (pv 0) (pv 1) (nomark _))))))) pss_nil)
      (pss_one (ps_ret (pe_cmp (pc_isN (pv 0)) rfl))))))), fun as k hc => ?_⟩
  try dsimp only [cxOf]
  clear hr E H s outer A cdv f d B
  obtain ⟨d, rfl, hd, q⟩ := hc
  simp only [st0, List.map_cons, List.map_nil, List.replicate, List.cons_append, List.nil_append]
  cases d with
  | none =>
    walk_at "w"
    exact q
  | bool b =>
    walk_at "w"
    rw [decide_eq_true rfl]
    exact q
  | int i =>
    walk_at "w"
    rw [decide_eq_true rfl]
    exact q
  | str s =>
    walk_at "w"
    rw [decide_eq_true rfl]
    exact q
  | dict es => cases hd
  | list ds => cases hd
  | tuple ds => cases hd
theorem atI_nth {ds : List D} {i : Nat} (h : i < ds.length) : atI ds (i : Int) = some ds[i] := by
  have e : ixN ds.length (i : Int) = some i := by
    unfold ixN
    rw [if_pos (by omega), if_pos (by omega)]
    rfl
  unfold atI
  rw [e]
  exact List.getElem?_eq_getElem h
theorem same1 (B : Bl mg) (d : DefAt K mg "_law_same" s__law_same []) {j n : Nat} (h__law_same : Has P w K mg base CX0 "_law_same" j [] (spOf K none (c_same n))) : Has P w K mg base CX0 "_law_same" (j + 1) [] (spOf K none (c_same (n + 1))) := by
  refine d.pure sc__law_same (fun _ _ _ _ _ _ us hl => match us, hl with | [_, _], _ => rfl) 1 rfl (fun as k ⟨_, e, _⟩ => by rw [e]; rfl) fun f cdv A outer s H E hr => ⟨_, (pss_cons (ps_if (PW.pt (pw_or (pt_val (pe_callB (kIsi (K := K)) (by rfl) B.isinstance (by decide +kernel) (pa_cons (pv 1) (pa_cons (pe_bltn (v := .ty "tuple") (by rfl) B.tuple (by decide +kernel) rfl) pa_nil)))) (pw_or1 (pt_val (pe_callB (kIsi (K := K)) (by rfl) B.isinstance (by decide +kernel) (pa_cons (pv 1) (pa_cons (pe_bltn (v := .ty "list") (by rfl) B.list (by decide +kernel) rfl) pa_nil))))))) (pss_cons (ps_if (PW.pt (pw_or (pt_cmpR (kNe (K := K) hr.units) (pe_callB (kIsi (K := K)) (by rfl) B.isinstance (by decide +kernel) (pa_cons (pv 0) (pa_cons (pe_bltn (v := .ty "tuple") (by rfl) B.tuple (by decide +kernel) rfl) pa_nil))) (pe_callB (kIsi (K := K)) (by rfl) B.isinstance (by decide +kernel) (pa_cons (pv 1) (pa_cons (pe_bltn (v := .ty "tuple") (by rfl) B.tuple (by decide +kernel) rfl) pa_nil))) (nomark _)) (pw_or (pt_cmpR (kNe (K := K) hr.units) (pe_callB (kIsi (K := K)) (by rfl) B.isinstance (by decide +kernel) (pa_cons (pv 0) (pa_cons (pe_bltn (v := .ty "list") (by rfl) B.list (by decide +kernel) rfl) pa_nil))) (pe_callB (kIsi (K := K)) (by rfl) B.isinstance (by decide +kernel) (pa_cons (pv 1) (pa_cons (pe_bltn (v := .ty "list") (by rfl) B.list (by decide +kernel) rfl) pa_nil))) (nomark _)) (pw_or1 (pt_cmpR (kNe (K := K) hr.units) (pe_callB (kLen (K := K)) (by rfl) B.len (by decide +kernel) (pa_cons (pv 0) pa_nil)) (pe_callB (kLen (K := K)) (by rfl) B.len (by decide +kernel) (pa_cons (pv 1) pa_nil)) (nomark _)))))) (pss_one (ps_ret pe_bl)) pss_nil)
      (pss_one (ps_ret (pe_cmpR (kEq (K := K) hr.units) (pe_callB (kLen (K := K)) (by rfl) B.len (by decide +kernel) (pa_cons (pe_lc (own := [("at", 2)]) (g := gName 2) rfl sc__law_same.nd (pi_range1 (by rfl) B.range (pa_cons (pe_callB (kLen (K := K)) (by rfl) B.len (by decide +kernel) (pa_cons (pv 1) pa_nil)) pa_nil)) (blkOk_by (own := [("at", 2)]) (N := n__law_same) (sc := defScope s__law_same) (by decide +kernel)) (fun _ _ _ _ _ => (pg_name (i := 2) sc__law_same.nd rfl (Or.inl rfl))) (fun _ _ _ _ _ => pts_one (pt_not (pt_val (pe_has h__law_same hr pass0 (pa_cons (pe_ix (kIx (K := K)) (pv 0) (pv 2) (fun _ _ => rfl)) (pa_cons (pe_ix (kIx (K := K)) (pv 1) (pv 2) (fun _ _ => rfl)) pa_nil)))))) (fun _ _ _ _ _ => pe_int)) pa_nil)) pe_int (nomark _))))) pss_nil)
      (pss_cons (ps_if (pt_val (pe_callB (kIsi (K := K)) (by rfl) B.isinstance (by decide +kernel) (pa_cons (pv 1) (pa_cons (pe_bltn (v := .ty "bool") (by rfl) B.bool (by decide +kernel) rfl) pa_nil)))) (pss_one (ps_ret (pe_and (pe_callB (kIsi (K := K)) (by rfl) B.isinstance (by decide +kernel) (pa_cons (pv 0) (pa_cons (pe_bltn (v := .ty "bool") (by rfl) B.bool (by decide +kernel) rfl) pa_nil))) (pe_one (pe_cmpR (kEq (K := K) hr.units) (pv 0) (pv 1) (nomark _)))))) pss_nil)
      (pss_cons (ps_if (pt_val (pe_callB (kIsi (K := K)) (by rfl) B.isinstance (by decide +kernel) (pa_cons (pv 1) (pa_cons (pe_bltn (v := .ty "str") (by rfl) B.str (by decide +kernel) rfl) pa_nil)))) (pss_one (ps_ret (pe_and (pe_callB (kIsi (K := K)) (by rfl) B.isinstance (by decide +kernel) (pa_cons (pv 0) (pa_cons (pe_bltn (v := .ty "str") (by rfl) B.str (by decide +kernel) rfl) pa_nil))) (pe_one (pe_cmpR (kEq (K := K) hr.units) (pv 0) (pv 1) (nomark _)))))) pss_nil)
      (pss_cons (ps_if (pt_val (pe_callB (kIsi (K := K)) (by rfl) B.isinstance (by decide +kernel) (pa_cons (pv 1) (pa_cons (pe_bltn (v := .ty "int") (by rfl) B.int (by decide +kernel) rfl) pa_nil)))) (pss_one (ps_ret (pe_and (pe_callB (kIsi (K := K)) (by rfl) B.isinstance (by decide +kernel) (pa_cons (pv 0) (pa_cons (pe_bltn (v := .ty "int") (by rfl) B.int (by decide +kernel) rfl) pa_nil))) (pe_and (pe_not (pe_callB (kIsi (K := K)) (by rfl) B.isinstance (by decide +kernel) (pa_cons (pv 0) (pa_cons (pe_bltn (v := .ty "bool") (by rfl) B.bool (by decide +kernel) rfl) pa_nil)))) (pe_one (pe_cmpR (kEq (K := K) hr.units) (pv 0) (pv 1) (nomark _))))))) pss_nil)
      (pss_one (ps_ret (pe_cmp (pc_isN (pv 0)) rfl))))))), fun as k hc => ?_⟩
  try dsimp only [cxOf]
  clear hr E H s outer A cdv f d B
  obtain ⟨d, rfl, hd, q⟩ := hc
  simp only [st0, List.map_cons, List.map_nil, List.replicate, List.cons_append, List.nil_append]
  cases d with
  | none =>
    walk_at "w"
    exact q
  | bool b =>
    walk_at "w"
    rw [decide_eq_true rfl]
    exact q
  | int i =>
    walk_at "w"
    rw [decide_eq_true rfl]
    exact q
  | str s =>
    walk_at "w"
    rw [decide_eq_true rfl]
    exact q
  | dict es => cases hd
  | list ds =>
    obtain ⟨hl, ha⟩ := dep_L hd
    walk_at "w"
    refine ybf (by simp) ?_
    walk_at "w"
    refine w_lcR ?_
    walk_at "w"
    refine ⟨by omega, by omega, fun i acc => acc = [], rfl, fun i hi acc ha0 => ?_, fun acc hz => ?_⟩
    · subst ha0
      have hi2 : i < ds.length := by omega
      refine ⟨_, g_name, rfl, ?_⟩
      walk_at "w"
      refine rb_ixL (atI_nth hi2) ?_
      walk_at "w"
      refine rb_ixL (atI_nth hi2) ?_
      walk_at "w"
      exact ⟨_, rfl, ha _ (List.getElem_mem hi2), _, rfl, (fun e => nomatch e), fun _ => rfl⟩
    · subst hz
      walk_at "w"
      exact q
  | tuple ds =>
    obtain ⟨hl, ha⟩ := dep_T hd
    walk_at "w"
    refine ybf (by simp) ?_
    walk_at "w"
    refine w_lcR ?_
    walk_at "w"
    refine ⟨by omega, by omega, fun i acc => acc = [], rfl, fun i hi acc ha0 => ?_, fun acc hz => ?_⟩
    · subst ha0
      have hi2 : i < ds.length := by omega
      refine ⟨_, g_name, rfl, ?_⟩
      walk_at "w"
      refine rb_ixT (atI_nth hi2) ?_
      walk_at "w"
      refine rb_ixT (atI_nth hi2) ?_
      walk_at "w"
      exact ⟨_, rfl, ha _ (List.getElem_mem hi2), _, rfl, (fun e => nomatch e), fun _ => rfl⟩
    · subst hz
      walk_at "w"
      exact q
theorem h__law_same (B : Bl mg) (d : DefAt K mg "_law_same" s__law_same []) : ∀ n, Has P w K mg base CX0 "_law_same" (n + 1) [] (spOf K none (c_same n))
  | 0 => same0 B d
  | n + 1 => same1 B d (h__law_same B d n)
abbrev n__law_copy : List Str := ["value", "item"]
abbrev s__law_copy : Stmt := top 80
theorem sc__law_copy : FnScope ["value", "item"] ["value"] (defScope s__law_copy) := ⟨rfl, rfl, rfl, by decide +kernel, rfl, by decide +kernel, by decide +kernel⟩
theorem copy0 (B : Bl mg) (d : DefAt K mg "_law_copy" s__law_copy []) : Has P w K mg base CX0 "_law_copy" 1 [] (spOf K none (c_copy 0)) := by
  refine d.pure sc__law_copy (fun _ _ _ _ _ _ us hl => match us, hl with | [_], _ => rfl) 1 rfl (fun as k ⟨_, e, _⟩ => by rw [e]; rfl) fun f cdv A outer s H E hr => ⟨_, (pss_cons (ps_if (pt_val (pe_callB (kIsi (K := K)) (by rfl) B.isinstance (by decide +kernel) (pa_cons (pv 0) (pa_cons (pe_bltn (v := .ty "list") (by rfl) B.list (by decide +kernel) rfl) pa_nil)))) (pss_one (ps_ret (pe_lc (own := [("item", 1)]) (g := gName 1) (tt := tYes) rfl sc__law_copy.nd (kiList (K := K) (pv 0)) (blkOk_by (own := [("item", 1)]) (N := n__law_copy) (sc := defScope s__law_copy) (by decide +kernel)) (fun _ _ _ _ _ => (pg_name (i := 1) sc__law_copy.nd rfl (Or.inl rfl))) (fun _ _ _ _ _ => pts_nil) (fun _ _ _ _ _ => pe_no)))) pss_nil)
      (pss_one (ps_ret (pe_ifExp (pt_val (pe_callB (kIsi (K := K)) (by rfl) B.isinstance (by decide +kernel) (pa_cons (pv 0) (pa_cons (pe_bltn (v := .ty "tuple") (by rfl) B.tuple (by decide +kernel) rfl) pa_nil)))) (pe_callTy (kTup (K := K)) (by rfl) B.tuple (by decide +kernel) (pa_cons (pe_lc (own := [("item", 1)]) (g := gName 1) (tt := tYes) rfl sc__law_copy.nd (kiTup (K := K) (pv 0)) (blkOk_by (own := [("item", 1)]) (N := n__law_copy) (sc := defScope s__law_copy) (by decide +kernel)) (fun _ _ _ _ _ => (pg_name (i := 1) sc__law_copy.nd rfl (Or.inl rfl))) (fun _ _ _ _ _ => pts_nil) (fun _ _ _ _ _ => pe_no)) pa_nil)) (pv 0))))), fun as k hc => ?_⟩
  try dsimp only [cxOf]
  clear hr E H s outer A cdv f d B
  obtain ⟨d, rfl, hd, q⟩ := hc
  simp only [st0, List.map_cons, List.map_nil, List.replicate, List.cons_append, List.nil_append]
  cases d with
  | none =>
    walk_at "w"
    exact q
  | bool b =>
    walk_at "w"
    exact q
  | int i =>
    walk_at "w"
    exact q
  | str s =>
    walk_at "w"
    exact q
  | dict es => cases hd
  | list ds => cases hd
  | tuple ds => cases hd
theorem copy1 (B : Bl mg) (d : DefAt K mg "_law_copy" s__law_copy []) {j n : Nat} (h__law_copy : Has P w K mg base CX0 "_law_copy" j [] (spOf K none (c_copy n))) : Has P w K mg base CX0 "_law_copy" (j + 1) [] (spOf K none (c_copy (n + 1))) := by
  refine d.pure sc__law_copy (fun _ _ _ _ _ _ us hl => match us, hl with | [_], _ => rfl) 1 rfl (fun as k ⟨_, e, _⟩ => by rw [e]; rfl) fun f cdv A outer s H E hr => ⟨_, (pss_cons (ps_if (pt_val (pe_callB (kIsi (K := K)) (by rfl) B.isinstance (by decide +kernel) (pa_cons (pv 0) (pa_cons (pe_bltn (v := .ty "list") (by rfl) B.list (by decide +kernel) rfl) pa_nil)))) (pss_one (ps_ret (pe_lc (own := [("item", 1)]) (g := gName 1) (tt := tYes) rfl sc__law_copy.nd (kiList (K := K) (pv 0)) (blkOk_by (own := [("item", 1)]) (N := n__law_copy) (sc := defScope s__law_copy) (by decide +kernel)) (fun _ _ _ _ _ => (pg_name (i := 1) sc__law_copy.nd rfl (Or.inl rfl))) (fun _ _ _ _ _ => pts_nil) (fun _ _ _ _ _ => (pe_has h__law_copy hr pass0 (pa_cons (pv 1) pa_nil)))))) pss_nil)
      (pss_one (ps_ret (pe_ifExp (pt_val (pe_callB (kIsi (K := K)) (by rfl) B.isinstance (by decide +kernel) (pa_cons (pv 0) (pa_cons (pe_bltn (v := .ty "tuple") (by rfl) B.tuple (by decide +kernel) rfl) pa_nil)))) (pe_callTy (kTup (K := K)) (by rfl) B.tuple (by decide +kernel) (pa_cons (pe_lc (own := [("item", 1)]) (g := gName 1) (tt := tYes) rfl sc__law_copy.nd (kiTup (K := K) (pv 0)) (blkOk_by (own := [("item", 1)]) (N := n__law_copy) (sc := defScope s__law_copy) (by decide +kernel)) (fun _ _ _ _ _ => (pg_name (i := 1) sc__law_copy.nd rfl (Or.inl rfl))) (fun _ _ _ _ _ => pts_nil) (fun _ _ _ _ _ => (pe_has h__law_copy hr pass0 (pa_cons (pv 1) pa_nil)))) pa_nil)) (pv 0))))), fun as k hc => ?_⟩
  try dsimp only [cxOf]
  clear hr E H s outer A cdv f d B
  obtain ⟨d, rfl, hd, q⟩ := hc
  simp only [st0, List.map_cons, List.map_nil, List.replicate, List.cons_append, List.nil_append]
  cases d with
  | none =>
    walk_at "w"
    exact q
  | bool b =>
    walk_at "w"
    exact q
  | int i =>
    walk_at "w"
    exact q
  | str s =>
    walk_at "w"
    exact q
  | dict es => cases hd
  | list ds =>
    obtain ⟨hl, ha⟩ := dep_L hd
    walk_at "w"
    refine lcU_map (fun d => d) rfl (fun d hdm => ?_) (by omega) ?_
    · walk_at "w"
      exact ⟨_, rfl, ha d hdm, rfl⟩
    · rw [List.map_id']
      walk_at "w"
      exact q
  | tuple ds =>
    obtain ⟨hl, ha⟩ := dep_T hd
    walk_at "w"
    refine lcU_map (fun d => d) rfl (fun d hdm => ?_) (by omega) ?_
    · walk_at "w"
      exact ⟨_, rfl, ha d hdm, rfl⟩
    · rw [List.map_id']
      walk_at "w"
      exact q
theorem h__law_copy (B : Bl mg) (d : DefAt K mg "_law_copy" s__law_copy []) : ∀ n, Has P w K mg base CX0 "_law_copy" (n + 1) [] (spOf K none (c_copy n))
  | 0 => copy0 B d
  | n + 1 => copy1 B d (h__law_copy B d n)
end K88
/-! E4 -/
namespace AL
open PySem PySem.Spec PyProof.Rows L2
def tTry (K : PySem.W.Frag) (c : Value) (i : Nat) (ts : Addr → Value → Option Addr → TS) (tb : WX → TS) : TS := fun D σ H => tb (wAs K c i ts (fun _ _ _ _ => False) D) D σ H
theorem ps_tryM {X : Cx} {K : PySem.W.Frag} {x n : Str} {c : Value} {i : Nat} {body suite : List Stmt} {b0 : Stmt} {np pos pos2 : Pos} {tb : WX → TS} {ts : Addr → Value → Option Addr → TS} (hs : X.stack = X.env :: X.outer) (hf : X.env.frame = some X.env.locals) (hN : X.N.Nodup) (hi : X.N[i]? = some n) (hln : X.env.kindOf n = some .local) (hc : Names X x c)
    (hb : ∀ (W : WX) (pn : List PinT) (xe : Value → Shared → Prop), Takes (X.tr pn xe) W → PassesOwn (model X.prog X.w) X.A X.env xe → PSs (X.tr pn xe) body (tb W))
    (hsu : ∀ (a : Addr) (oe : Obj) (cls : Value) (d : Option Addr) (pn : List PinT), Zc cls d oe → (∃ z, oe.data = .fields z) → PSs (X.suite a ((a, oe) :: pn)) (b0 :: suite) (ts a cls d)) (hK : X.K = K := by rfl) :
    PS X (.Try body [.ExceptHandler (some (.Name x np)) (some n) (b0 :: suite) pos2] [] [] pos) (tTry K c i ts tb) := hK ▸ L2.ps_try_as hs hf hN hi hln hc (Wout := fun _ _ _ _ => False) (fun u s' ⟨_, _, _, _, _, _, _, _, _, _, _, _, _, _, _, _, z⟩ => z.elim) hb hsu
theorem s_tryM {Γ : Gam} {ρ : Rho} {nx bk ct : Rho → Prop} {rt : D → Prop} {tb : WX → TS} {ts : Addr → Value → Option Addr → TS} {i : Nat} {c : Value} (xe1 : AExc → Prop) (hi : i < ρ.length)
    (hs : ∀ ex, xe1 ex → PySem.W.exmOne Γ.K (.ref ex.cls) c = some true ∧ ∀ a dd (D' : Ends) (σ' : L2.St) F' H', Wd Γ.z F' H' → F' dd = some (.xd ex.fs) → σ'[i]? = some (some (.ref a)) →
      (∀ v d F2 H2, Wd Γ.z F2 H2 → Stp Γ.z F' H' F2 H2 → Dq Γ.K F2 v d → rt d → D'.rt v H2) → ts a (.ref ex.cls) (some dd) D' σ' H')
    (hb : ∀ (X1 : XK) (W : WX), (∀ C dd H' σ, σ.length = ρ.length → X1 C dd H' → W C dd σ H') → WS (Γ.wx X1 xe1) (tb W) ρ nx rt bk ct) :
    WS Γ (tTry Γ.K c i ts tb) ρ nx rt bk ct := s_try xe1 hi hs hb
end AL
/-! T20 -/
namespace K88
open PySem PySem.Spec PyProof.Rows L2 AL
theorem m_indexB {Γ : Gam} {k : D → Prop} {ds : List D} {d z : D} (j : Nat) (h1 : SeqAt.shaped (.list ds) = true) (h2 : SeqAt.shaped d = true) (hz : ds[j]? = some z) (e : PyData.eqv z d = true) (no : (ds.take j).all (fun z => !PyData.eqv z d) = true) (q : k (.int (j : Int))) :
    RM Γ "list" (rIndexD Γ.K) (.list ds) [d] k := m_index j h1 h2 hz e (fun m z' hm e' => by
  have h := List.all_eq_true.mp no z' (List.mem_of_getElem? (by rw [List.getElem?_take_of_lt hm]; exact e'))
  simpa using h) q
theorem w_isR {Γ : Gam} {ρ : Rho} {k : D → Prop} {C a dd X : Addr} {b : Bool} {fs : List (Str × V)} {j : Nat} (h : ρ[j]? = some (some (.x (.ref a) dd fs))) (e : PySem.W.kitOne Γ.K (.ref C) (.ref X) = some b) (q : k (.bool b)) : AL.WE Γ (tCB (rIsQ Γ.K C a dd) (tCons (tVar j) (tCons (tC (.ref X)) tNil))) ρ k := w_isQ (c := .ref X) (cv := .ref X) h (fun u r => r) e q
theorem w_isV {Γ : Gam} {ρ : Rho} {k : D → Prop} {C a dd : Addr} {X : String} {b : Bool} {fs : List (Str × V)} {j : Nat} (h : ρ[j]? = some (some (.x (.ref a) dd fs))) (e : PySem.W.kitOne Γ.K (.ref C) (.type X) = some b) (q : k (.bool b)) : AL.WE Γ (tCB (rIsQ Γ.K C a dd) (tCons (tVar j) (tCons (tC (.ty X)) tNil))) ρ k := w_isQ (c := .ty X) (cv := .type X) h (fun u r => r) e q
local macro_rules | `(tactic| walk_at "bd") => `(tactic| first
  | assumption
  | (apply Sz.n; assumption)
  | (apply Sz.d; assumption)
  | ((with_reducible apply lt_mul); (case h1 => walk_at "bd"); (case h2 => walk_at "bd"))
  | ((with_reducible apply lt_addx); (case h1 => walk_at "bd"); (case h2 => walk_at "bd"))
  | ((with_reducible apply lt_subx); (case h1 => walk_at "bd"); (case h2 => walk_at "bd"))
  | ((with_reducible apply lt_neg); (case h => walk_at "bd")))
local macro_rules | `(tactic| walk_at "nz") => `(tactic| first
  | assumption
  | exact dnz _
  | ((with_reducible apply inz); (case h1 => walk_at "nz"); (case h2 => walk_at "nz")))
local macro_rules | `(tactic| walk_at "w") => `(tactic| repeat (first
  | with_reducible apply w_int
  | ((with_reducible apply w_var); (case h => exact rfl))
  | with_reducible apply wl_cons
  | with_reducible apply wl_nil
  | ((with_reducible refine And.intro (Nat.le_of_ble_eq_true ?hlen) ?_); (case hlen => exact rfl))
  | with_reducible apply w_tup
  | with_reducible apply w_op
  | with_reducible apply s_seq
  | ((with_reducible apply wa_consO); (case h => exact rfl))
  | with_reducible apply wa_cons
  | with_reducible apply wa_nil
  | with_reducible apply ru_i
  | with_reducible apply w_un
  | with_reducible apply s_asg
  | with_reducible apply w_call0
  | with_reducible apply w_callD2
  | with_reducible apply w_callD1
  | ((with_reducible apply w_callX0); (case hz => exact rfl))
  | ((with_reducible apply w_callXS); (case hz => exact rfl))
  | with_reducible apply w_callZ
  | with_reducible apply b_addI
  | ((with_reducible apply rb_ixT); (case e => exact rfl))
  | ((with_reducible apply rb_ixL); (case e => exact rfl))
  | with_reducible apply w_str
  | with_reducible apply w_lst
  | with_reducible apply w_sl
  | with_reducible apply o_none
  | with_reducible apply o_some
  | with_reducible apply sG_T
  | with_reducible apply sG_L
  | ((with_reducible apply s_app); (case e => exact rfl))
  | with_reducible apply s_drop
  | with_reducible apply w_if
  | with_reducible apply p_if
  | with_reducible apply t_test
  | with_reducible apply b_eqI
  | with_reducible apply s_next
  | with_reducible apply p_ret
  | ((with_reducible apply b_mulI); (case hc => (apply mulx; (case h1 => walk_at "bd"); (case h2 => walk_at "bd"); (case h => omega))))
  | with_reducible apply b_sub
  | with_reducible apply s_raiseK
  | with_reducible apply w_isT
  | with_reducible apply w_isL
  | with_reducible apply w_isI
  | with_reducible apply w_isB
  | with_reducible apply w_isS
  | with_reducible apply w_isN
  | with_reducible apply w_notN
  | with_reducible apply w_or
  | with_reducible apply w_and
  | with_reducible apply w_not
  | with_reducible apply w_chain
  | with_reducible apply w_bmL
  | with_reducible apply w_bmS
  | ((with_reducible apply w_isR); (case h => exact rfl); (case e => assumption))
  | ((with_reducible apply w_isV); (case h => exact rfl); (case e => assumption))
  | with_reducible apply w_cb
  | with_reducible apply t_or
  | with_reducible apply t_and
  | with_reducible apply t_not
  | with_reducible apply t_yes
  | ((with_reducible apply b_addT); (case hz => exact Nat.le_of_ble_eq_true rfl))
  | ((with_reducible apply b_addL); (case hz => exact Nat.le_of_ble_eq_true rfl))
  | with_reducible apply s_break
  | with_reducible apply rb_b
  | with_reducible apply t_truthI
  | with_reducible apply b_neI
  | with_reducible apply b_eqS
  | with_reducible apply b_eqB
  | with_reducible apply b_neB
  | with_reducible apply w_bl
  | with_reducible apply w_non
  | with_reducible apply t_B
  | with_reducible apply m_lst
  | ((with_reducible apply m_catO); (case e => exact rfl))
  | with_reducible apply m_cat
  | with_reducible apply m_list
  | with_reducible apply w_lcLU
  | with_reducible apply w_lcTU
  | with_reducible apply s_forTU
  | with_reducible apply s_forLU
  | (with_reducible apply lcU_nil)
  | (with_reducible apply unr_nil)
  | with_reducible apply unr_one
  | ((with_reducible show LcU _ _ _ _ _ _ _ _ _); (refine lcU_one rfl (Nat.lt_of_succ_le (Nat.le_of_ble_eq_true rfl)) ?_))
  | ((with_reducible show (_ = true → _) ∧ (_ = false → _)); (first | refine ybt rfl ?_ | refine ybf rfl ?_))
  | ((with_reducible show (_ = false → _) ∧ (_ = true → _)); (first | refine obt rfl ?_ | refine obf rfl ?_))
  | with_reducible apply yt
  | with_reducible apply yf
  | with_reducible apply fy
  | with_reducible apply ft
  | ((with_reducible apply f_frz); (case e => exact rfl))
  | with_reducible apply s_asgG
  | (refine Exists.intro _ (And.intro (g_lst (by repeat (first | exact gs_nil | apply gs_one)) rfl) ?_))
  | (refine Exists.intro _ (And.intro (g_tup (by repeat (first | exact gs_nil | apply gs_one)) rfl) ?_))
  | with_reducible apply c_lenL
  | with_reducible apply c_lenT
  | with_reducible apply c_listL
  | with_reducible apply c_listT
  | with_reducible apply c_tupL
  | with_reducible apply c_abs
  | with_reducible apply c_int
  | with_reducible apply c_min
  | with_reducible apply rc_gcd
  | with_reducible apply rb_b
  | (refine And.intro (Nat.lt_of_succ_le (Nat.le_of_ble_eq_true rfl)) ?_)
  | with_reducible refine Exists.intro _ (And.intro rfl ?_)
  | refine And.intro (Nat.le_of_ble_eq_true rfl) ?_
  ))
variable {P : Program} {w : World} {K : PySem.W.Frag} {mg : Str → Option Value} {base : Heap}
abbrev ecls : List Str := ["BadNumber", "BadSegment", "BadValue", "TooMany", "TooLong", "NoSuch", "Endless", "NoWay", "Near", "BadText", "NotMap", "NothingToUndo", "NothingToRedo", "MapError"]
def raisedD (nm : Str) (fs : List D) : D := .list [.str "raised", .str nm, .tuple fs]
/-- what the law tells of a refusal -/
def ErK (cl : Str → Addr) (ex : AExc) (k : D → Prop) : Prop := (∃ nm : Str, ex = ⟨cl "BadValue", [("name", .str nm)]⟩ ∧ k (raisedD "BadValue" [.str nm])) ∨ (∃ i : Int, ex = ⟨cl "BadSegment", [("index", .int i)]⟩ ∧ k (raisedD "BadSegment" [.int i])) ∨ (∃ nm : Str, ex = ⟨cl "TooMany", [("word", .str nm)]⟩ ∧ k (raisedD "TooMany" [.str nm])) ∨ (∃ nm : Str, ex = ⟨cl "TooLong", [("word", .str nm)]⟩ ∧ k (raisedD "TooLong" [.str nm]))
def c_err (cl : Str → Addr) : ConE := fun c fs k => ∃ a, c = .ref a ∧ ErK cl ⟨a, fs⟩ k
abbrev n__law_error : List Str := ["e", "names", "fits", "name"]
abbrev s__law_error : Stmt := top 81
theorem sc__law_error : FnScope ["e", "names", "fits", "name"] ["e"] (defScope s__law_error) := ⟨rfl, rfl, rfl, by decide +kernel, rfl, by decide +kernel, by decide +kernel⟩
theorem err_BadValue (B : Bl mg) (bv : mg "ValueError" = none) {cl : Str → Addr} (gc : ∀ x, x ∈ ecls → mg x = some (.ref (cl x))) (F : ErrF K cl ecls (cl "BadValue") "name" [false, false, true, false, false, false, false, false, false, false, false, false, false, true]) {f : Addr} (cdv : Value) (A : Around) (out : List Env) (s : Shared) (H : Hp) (Q : VK) (E : XK) (a : Addr) (oe : Obj) {dd : Addr} (hz : Zc (.ref (cl "BadValue")) (some dd) oe) (hf : ∃ z, oe.data = .fields z) (hr : L2H.RoomH 0 (A.deeper (envOfC "_law_error" (defScope s__law_error) s.heap.objs.size f cdv)))
    {Fh : Hp} {k : D → Prop} {nm : Str} (w0 : Wd none Fh H) (hx : Fh dd = some (.xd [("name", .str nm)])) (q0 : k (raisedD "BadValue" [.str nm])) (q : ∀ v e F' H', Wd none F' H' → Stp none Fh H F' H' → Dq K F' v e → k e → Q v H') :
    ∃ t, PSs (L2H.cxH CX0 P w K mg base n__law_error "_law_error" (defScope s__law_error) f cdv A out s H E (a, oe)) (defBody s__law_error) t ∧ t { nx := fun _ H' => Q .non H', rt := Q } (L2.start n__law_error [.ref a]) H := by
  refine ⟨_, (pss_cons (ps_set (i := 1) sc__law_error.nd rfl (Or.inl rfl) pe_str)
      (pss_cons (ps_set (i := 2) sc__law_error.nd rfl (Or.inl rfl) (pe_lst (pa_cons (pe_callB (call_isQ (K := K) F.ec List.mem_cons_self hz hf) (by rfl) B.isinstance (by decide +kernel) (pa_cons (pv 0) (pa_cons (pe_gref (gc "BadNumber" (by decide))) pa_nil))) (pa_cons (pe_callB (call_isQ (K := K) F.ec List.mem_cons_self hz hf) (by rfl) B.isinstance (by decide +kernel) (pa_cons (pv 0) (pa_cons (pe_gref (gc "BadSegment" (by decide))) pa_nil))) (pa_cons (pe_callB (call_isQ (K := K) F.ec List.mem_cons_self hz hf) (by rfl) B.isinstance (by decide +kernel) (pa_cons (pv 0) (pa_cons (pe_gref (gc "BadValue" (by decide))) pa_nil))) (pa_cons (pe_callB (call_isQ (K := K) F.ec List.mem_cons_self hz hf) (by rfl) B.isinstance (by decide +kernel) (pa_cons (pv 0) (pa_cons (pe_gref (gc "TooMany" (by decide))) pa_nil))) (pa_cons (pe_callB (call_isQ (K := K) F.ec List.mem_cons_self hz hf) (by rfl) B.isinstance (by decide +kernel) (pa_cons (pv 0) (pa_cons (pe_gref (gc "TooLong" (by decide))) pa_nil))) pa_nil)))))))
      (pss_cons (ps_set (i := 2) sc__law_error.nd rfl (Or.inl rfl) (pe_op (kAdd (K := K)) (pv 2) (pe_lst (pa_cons (pe_callB (call_isQ (K := K) F.ec List.mem_cons_self hz hf) (by rfl) B.isinstance (by decide +kernel) (pa_cons (pv 0) (pa_cons (pe_gref (gc "NoSuch" (by decide))) pa_nil))) (pa_cons (pe_callB (call_isQ (K := K) F.ec List.mem_cons_self hz hf) (by rfl) B.isinstance (by decide +kernel) (pa_cons (pv 0) (pa_cons (pe_gref (gc "Endless" (by decide))) pa_nil))) (pa_cons (pe_callB (call_isQ (K := K) F.ec List.mem_cons_self hz hf) (by rfl) B.isinstance (by decide +kernel) (pa_cons (pv 0) (pa_cons (pe_gref (gc "NoWay" (by decide))) pa_nil))) (pa_cons (pe_callB (call_isQ (K := K) F.ec List.mem_cons_self hz hf) (by rfl) B.isinstance (by decide +kernel) (pa_cons (pv 0) (pa_cons (pe_gref (gc "Near" (by decide))) pa_nil))) (pa_cons (pe_callB (call_isQ (K := K) F.ec List.mem_cons_self hz hf) (by rfl) B.isinstance (by decide +kernel) (pa_cons (pv 0) (pa_cons (pe_gref (gc "BadText" (by decide))) pa_nil))) pa_nil))))))))
      (pss_cons (ps_set (i := 2) sc__law_error.nd rfl (Or.inl rfl) (pe_op (kAdd (K := K)) (pv 2) (pe_lst (pa_cons (pe_callB (call_isQ (K := K) F.ec List.mem_cons_self hz hf) (by rfl) B.isinstance (by decide +kernel) (pa_cons (pv 0) (pa_cons (pe_gref (gc "NotMap" (by decide))) pa_nil))) (pa_cons (pe_callB (call_isQ (K := K) F.ec List.mem_cons_self hz hf) (by rfl) B.isinstance (by decide +kernel) (pa_cons (pv 0) (pa_cons (pe_gref (gc "NothingToUndo" (by decide))) pa_nil))) (pa_cons (pe_callB (call_isQ (K := K) F.ec List.mem_cons_self hz hf) (by rfl) B.isinstance (by decide +kernel) (pa_cons (pv 0) (pa_cons (pe_gref (gc "NothingToRedo" (by decide))) pa_nil))) pa_nil))))))
      (pss_cons (ps_if (PW.pt (pw_or (pt_cmpR (kNe (K := K) hr.units) (kCnt (K := K) hr.u65 (pv 2) (pa_cons pe_bl pa_nil)) pe_int (nomark _)) (pw_or (pt_not (pt_val (pe_callB (call_isQ (K := K) F.ec List.mem_cons_self hz hf) (by rfl) B.isinstance (by decide +kernel) (pa_cons (pv 0) (pa_cons (pe_gref (gc "MapError" (by decide))) pa_nil))))) (pw_or1 (pt_not (pt_val (pe_callB (call_isQ (K := K) F.ec List.mem_cons_self hz hf) (by rfl) B.isinstance (by decide +kernel) (pa_cons (pv 0) (pa_cons (pe_bltn (v := .ty "ValueError") (by rfl) bv (by decide +kernel) rfl) pa_nil))))))))) (pss_one (ps_ret (pe_lst (pa_cons pe_str (pa_cons pe_str (pa_cons (pe_tup pa_nil) pa_nil)))))) pss_nil)
      (pss_cons (ps_set (i := 3) sc__law_error.nd rfl (Or.inl rfl) (pe_ix (kIx (K := K)) (kSplit (K := K) (pv 1) (pa_cons pe_str pa_nil)) (kIdx (K := K) hr.u65 (pv 2) (pa_cons pe_bl pa_nil)) (fun _ _ => rfl)))
      (pss_cons (ps_if (pt_cmpR (kIn (K := K)) (pv 3) (pe_tup (pa_cons pe_str (pa_cons pe_str (pa_cons pe_str pa_nil)))) rfl) (pss_one (ps_ret (pe_lst (pa_cons pe_str (pa_cons (pv 3) (pa_cons (pe_ifExp (pt_cmpR (kEq (K := K) hr.units) (pv 3) pe_str (nomark _)) (pe_tup (pa_cons pe_no pa_nil)) (pe_ifExp (pt_cmpR (kEq (K := K) hr.units) (pv 3) pe_str (nomark _)) (pe_tup (pa_cons (pe_xg (K := K) F.ec F.no List.mem_cons_self hz hf (pv 0)) pa_nil)) (pe_tup (pa_cons pe_no pa_nil)))) pa_nil)))))) pss_nil)
      (pss_cons (ps_if (pt_cmpR (kIn (K := K)) (pv 3) (pe_tup (pa_cons pe_str (pa_cons pe_str (pa_cons pe_str pa_nil)))) rfl) (pss_one (ps_ret (pe_lst (pa_cons pe_str (pa_cons (pv 3) (pa_cons (pe_ifExp (pt_cmpR (kEq (K := K) hr.units) (pv 3) pe_str (nomark _)) (pe_tup (pa_cons pe_no pa_nil)) (pe_tup (pa_cons pe_no pa_nil))) pa_nil)))))) pss_nil)
      (pss_cons (ps_if (pt_cmpR (kIn (K := K)) (pv 3) (pe_tup (pa_cons pe_str (pa_cons pe_str pa_nil))) rfl) (pss_one (ps_ret (pe_lst (pa_cons pe_str (pa_cons (pv 3) (pa_cons (pe_ifExp (pt_cmpR (kEq (K := K) hr.units) (pv 3) pe_str (nomark _)) (pe_tup (pa_cons pe_no (pa_cons pe_no pa_nil))) (pe_tup (pa_cons pe_no (pa_cons pe_no pa_nil)))) pa_nil)))))) pss_nil)
      (pss_one (ps_ret (pe_lst (pa_cons pe_str (pa_cons (pv 3) (pa_cons (pe_tup pa_nil) pa_nil))))))))))))))), enterE (E := E) w0 hx q 3 rfl ?_⟩
  clear hr hf hz q hx w0
  have i0 : PySem.W.kitOne K (.ref (cl "BadValue")) (.ref (cl "BadNumber")) = some false := F.is 0 "BadNumber" rfl
  have i1 : PySem.W.kitOne K (.ref (cl "BadValue")) (.ref (cl "BadSegment")) = some false := F.is 1 "BadSegment" rfl
  have i2 : PySem.W.kitOne K (.ref (cl "BadValue")) (.ref (cl "BadValue")) = some true := F.is 2 "BadValue" rfl
  have i3 : PySem.W.kitOne K (.ref (cl "BadValue")) (.ref (cl "TooMany")) = some false := F.is 3 "TooMany" rfl
  have i4 : PySem.W.kitOne K (.ref (cl "BadValue")) (.ref (cl "TooLong")) = some false := F.is 4 "TooLong" rfl
  have i5 : PySem.W.kitOne K (.ref (cl "BadValue")) (.ref (cl "NoSuch")) = some false := F.is 5 "NoSuch" rfl
  have i6 : PySem.W.kitOne K (.ref (cl "BadValue")) (.ref (cl "Endless")) = some false := F.is 6 "Endless" rfl
  have i7 : PySem.W.kitOne K (.ref (cl "BadValue")) (.ref (cl "NoWay")) = some false := F.is 7 "NoWay" rfl
  have i8 : PySem.W.kitOne K (.ref (cl "BadValue")) (.ref (cl "Near")) = some false := F.is 8 "Near" rfl
  have i9 : PySem.W.kitOne K (.ref (cl "BadValue")) (.ref (cl "BadText")) = some false := F.is 9 "BadText" rfl
  have i10 : PySem.W.kitOne K (.ref (cl "BadValue")) (.ref (cl "NotMap")) = some false := F.is 10 "NotMap" rfl
  have i11 : PySem.W.kitOne K (.ref (cl "BadValue")) (.ref (cl "NothingToUndo")) = some false := F.is 11 "NothingToUndo" rfl
  have i12 : PySem.W.kitOne K (.ref (cl "BadValue")) (.ref (cl "NothingToRedo")) = some false := F.is 12 "NothingToRedo" rfl
  have i13 : PySem.W.kitOne K (.ref (cl "BadValue")) (.ref (cl "MapError")) = some true := F.is 13 "MapError" rfl
  have iv := F.ve
  clear F gc
  simp only [st0, List.map_cons, List.map_nil, List.replicate, List.cons_append, List.nil_append]
  walk_at "w"
  refine m_countN 1 (by decide) (by decide) (by decide) ?_
  walk_at "w"
  try (refine obf (by decide) ?_)
  walk_at "w"
  refine m_split (by decide +kernel) (by decide +kernel) (ys := ["BadNumber", "BadSegment", "BadValue", "TooMany", "TooLong", "NoSuch", "Endless", "NoWay", "Near", "BadText", "NotMap", "NothingToUndo", "NothingToRedo"]) (by decide +kernel) ?_
  walk_at "w"
  refine m_indexB 2 (by decide) (by decide) rfl (by decide) (by decide) ?_
  walk_at "w"
  refine b_inSb ["BadSegment", "BadValue", "NotMap"] true (by decide) ?_
  walk_at "w"
  refine w_xg rfl rfl (.str _) ?_
  walk_at "w"
  exact q0
theorem err_BadSegment (B : Bl mg) (bv : mg "ValueError" = none) {cl : Str → Addr} (gc : ∀ x, x ∈ ecls → mg x = some (.ref (cl x))) (F : ErrF K cl ecls (cl "BadSegment") "index" [false, true, false, false, false, false, false, false, false, false, false, false, false, true]) {f : Addr} (cdv : Value) (A : Around) (out : List Env) (s : Shared) (H : Hp) (Q : VK) (E : XK) (a : Addr) (oe : Obj) {dd : Addr} (hz : Zc (.ref (cl "BadSegment")) (some dd) oe) (hf : ∃ z, oe.data = .fields z) (hr : L2H.RoomH 0 (A.deeper (envOfC "_law_error" (defScope s__law_error) s.heap.objs.size f cdv)))
    {Fh : Hp} {k : D → Prop} {i : Int} (w0 : Wd none Fh H) (hx : Fh dd = some (.xd [("index", .int i)])) (q0 : k (raisedD "BadSegment" [.int i])) (q : ∀ v e F' H', Wd none F' H' → Stp none Fh H F' H' → Dq K F' v e → k e → Q v H') :
    ∃ t, PSs (L2H.cxH CX0 P w K mg base n__law_error "_law_error" (defScope s__law_error) f cdv A out s H E (a, oe)) (defBody s__law_error) t ∧ t { nx := fun _ H' => Q .non H', rt := Q } (L2.start n__law_error [.ref a]) H := by
  refine ⟨_, (pss_cons (ps_set (i := 1) sc__law_error.nd rfl (Or.inl rfl) pe_str)
      (pss_cons (ps_set (i := 2) sc__law_error.nd rfl (Or.inl rfl) (pe_lst (pa_cons (pe_callB (call_isQ (K := K) F.ec List.mem_cons_self hz hf) (by rfl) B.isinstance (by decide +kernel) (pa_cons (pv 0) (pa_cons (pe_gref (gc "BadNumber" (by decide))) pa_nil))) (pa_cons (pe_callB (call_isQ (K := K) F.ec List.mem_cons_self hz hf) (by rfl) B.isinstance (by decide +kernel) (pa_cons (pv 0) (pa_cons (pe_gref (gc "BadSegment" (by decide))) pa_nil))) (pa_cons (pe_callB (call_isQ (K := K) F.ec List.mem_cons_self hz hf) (by rfl) B.isinstance (by decide +kernel) (pa_cons (pv 0) (pa_cons (pe_gref (gc "BadValue" (by decide))) pa_nil))) (pa_cons (pe_callB (call_isQ (K := K) F.ec List.mem_cons_self hz hf) (by rfl) B.isinstance (by decide +kernel) (pa_cons (pv 0) (pa_cons (pe_gref (gc "TooMany" (by decide))) pa_nil))) (pa_cons (pe_callB (call_isQ (K := K) F.ec List.mem_cons_self hz hf) (by rfl) B.isinstance (by decide +kernel) (pa_cons (pv 0) (pa_cons (pe_gref (gc "TooLong" (by decide))) pa_nil))) pa_nil)))))))
      (pss_cons (ps_set (i := 2) sc__law_error.nd rfl (Or.inl rfl) (pe_op (kAdd (K := K)) (pv 2) (pe_lst (pa_cons (pe_callB (call_isQ (K := K) F.ec List.mem_cons_self hz hf) (by rfl) B.isinstance (by decide +kernel) (pa_cons (pv 0) (pa_cons (pe_gref (gc "NoSuch" (by decide))) pa_nil))) (pa_cons (pe_callB (call_isQ (K := K) F.ec List.mem_cons_self hz hf) (by rfl) B.isinstance (by decide +kernel) (pa_cons (pv 0) (pa_cons (pe_gref (gc "Endless" (by decide))) pa_nil))) (pa_cons (pe_callB (call_isQ (K := K) F.ec List.mem_cons_self hz hf) (by rfl) B.isinstance (by decide +kernel) (pa_cons (pv 0) (pa_cons (pe_gref (gc "NoWay" (by decide))) pa_nil))) (pa_cons (pe_callB (call_isQ (K := K) F.ec List.mem_cons_self hz hf) (by rfl) B.isinstance (by decide +kernel) (pa_cons (pv 0) (pa_cons (pe_gref (gc "Near" (by decide))) pa_nil))) (pa_cons (pe_callB (call_isQ (K := K) F.ec List.mem_cons_self hz hf) (by rfl) B.isinstance (by decide +kernel) (pa_cons (pv 0) (pa_cons (pe_gref (gc "BadText" (by decide))) pa_nil))) pa_nil))))))))
      (pss_cons (ps_set (i := 2) sc__law_error.nd rfl (Or.inl rfl) (pe_op (kAdd (K := K)) (pv 2) (pe_lst (pa_cons (pe_callB (call_isQ (K := K) F.ec List.mem_cons_self hz hf) (by rfl) B.isinstance (by decide +kernel) (pa_cons (pv 0) (pa_cons (pe_gref (gc "NotMap" (by decide))) pa_nil))) (pa_cons (pe_callB (call_isQ (K := K) F.ec List.mem_cons_self hz hf) (by rfl) B.isinstance (by decide +kernel) (pa_cons (pv 0) (pa_cons (pe_gref (gc "NothingToUndo" (by decide))) pa_nil))) (pa_cons (pe_callB (call_isQ (K := K) F.ec List.mem_cons_self hz hf) (by rfl) B.isinstance (by decide +kernel) (pa_cons (pv 0) (pa_cons (pe_gref (gc "NothingToRedo" (by decide))) pa_nil))) pa_nil))))))
      (pss_cons (ps_if (PW.pt (pw_or (pt_cmpR (kNe (K := K) hr.units) (kCnt (K := K) hr.u65 (pv 2) (pa_cons pe_bl pa_nil)) pe_int (nomark _)) (pw_or (pt_not (pt_val (pe_callB (call_isQ (K := K) F.ec List.mem_cons_self hz hf) (by rfl) B.isinstance (by decide +kernel) (pa_cons (pv 0) (pa_cons (pe_gref (gc "MapError" (by decide))) pa_nil))))) (pw_or1 (pt_not (pt_val (pe_callB (call_isQ (K := K) F.ec List.mem_cons_self hz hf) (by rfl) B.isinstance (by decide +kernel) (pa_cons (pv 0) (pa_cons (pe_bltn (v := .ty "ValueError") (by rfl) bv (by decide +kernel) rfl) pa_nil))))))))) (pss_one (ps_ret (pe_lst (pa_cons pe_str (pa_cons pe_str (pa_cons (pe_tup pa_nil) pa_nil)))))) pss_nil)
      (pss_cons (ps_set (i := 3) sc__law_error.nd rfl (Or.inl rfl) (pe_ix (kIx (K := K)) (kSplit (K := K) (pv 1) (pa_cons pe_str pa_nil)) (kIdx (K := K) hr.u65 (pv 2) (pa_cons pe_bl pa_nil)) (fun _ _ => rfl)))
      (pss_cons (ps_if (pt_cmpR (kIn (K := K)) (pv 3) (pe_tup (pa_cons pe_str (pa_cons pe_str (pa_cons pe_str pa_nil)))) rfl) (pss_one (ps_ret (pe_lst (pa_cons pe_str (pa_cons (pv 3) (pa_cons (pe_ifExp (pt_cmpR (kEq (K := K) hr.units) (pv 3) pe_str (nomark _)) (pe_tup (pa_cons (pe_xg (K := K) F.ec F.no List.mem_cons_self hz hf (pv 0)) pa_nil)) (pe_ifExp (pt_cmpR (kEq (K := K) hr.units) (pv 3) pe_str (nomark _)) (pe_tup (pa_cons pe_no pa_nil)) (pe_tup (pa_cons pe_no pa_nil)))) pa_nil)))))) pss_nil)
      (pss_cons (ps_if (pt_cmpR (kIn (K := K)) (pv 3) (pe_tup (pa_cons pe_str (pa_cons pe_str (pa_cons pe_str pa_nil)))) rfl) (pss_one (ps_ret (pe_lst (pa_cons pe_str (pa_cons (pv 3) (pa_cons (pe_ifExp (pt_cmpR (kEq (K := K) hr.units) (pv 3) pe_str (nomark _)) (pe_tup (pa_cons pe_no pa_nil)) (pe_tup (pa_cons pe_no pa_nil))) pa_nil)))))) pss_nil)
      (pss_cons (ps_if (pt_cmpR (kIn (K := K)) (pv 3) (pe_tup (pa_cons pe_str (pa_cons pe_str pa_nil))) rfl) (pss_one (ps_ret (pe_lst (pa_cons pe_str (pa_cons (pv 3) (pa_cons (pe_ifExp (pt_cmpR (kEq (K := K) hr.units) (pv 3) pe_str (nomark _)) (pe_tup (pa_cons pe_no (pa_cons pe_no pa_nil))) (pe_tup (pa_cons pe_no (pa_cons pe_no pa_nil)))) pa_nil)))))) pss_nil)
      (pss_one (ps_ret (pe_lst (pa_cons pe_str (pa_cons (pv 3) (pa_cons (pe_tup pa_nil) pa_nil))))))))))))))), enterE (E := E) w0 hx q 3 rfl ?_⟩
  clear hr hf hz q hx w0
  have i0 : PySem.W.kitOne K (.ref (cl "BadSegment")) (.ref (cl "BadNumber")) = some false := F.is 0 "BadNumber" rfl
  have i1 : PySem.W.kitOne K (.ref (cl "BadSegment")) (.ref (cl "BadSegment")) = some true := F.is 1 "BadSegment" rfl
  have i2 : PySem.W.kitOne K (.ref (cl "BadSegment")) (.ref (cl "BadValue")) = some false := F.is 2 "BadValue" rfl
  have i3 : PySem.W.kitOne K (.ref (cl "BadSegment")) (.ref (cl "TooMany")) = some false := F.is 3 "TooMany" rfl
  have i4 : PySem.W.kitOne K (.ref (cl "BadSegment")) (.ref (cl "TooLong")) = some false := F.is 4 "TooLong" rfl
  have i5 : PySem.W.kitOne K (.ref (cl "BadSegment")) (.ref (cl "NoSuch")) = some false := F.is 5 "NoSuch" rfl
  have i6 : PySem.W.kitOne K (.ref (cl "BadSegment")) (.ref (cl "Endless")) = some false := F.is 6 "Endless" rfl
  have i7 : PySem.W.kitOne K (.ref (cl "BadSegment")) (.ref (cl "NoWay")) = some false := F.is 7 "NoWay" rfl
  have i8 : PySem.W.kitOne K (.ref (cl "BadSegment")) (.ref (cl "Near")) = some false := F.is 8 "Near" rfl
  have i9 : PySem.W.kitOne K (.ref (cl "BadSegment")) (.ref (cl "BadText")) = some false := F.is 9 "BadText" rfl
  have i10 : PySem.W.kitOne K (.ref (cl "BadSegment")) (.ref (cl "NotMap")) = some false := F.is 10 "NotMap" rfl
  have i11 : PySem.W.kitOne K (.ref (cl "BadSegment")) (.ref (cl "NothingToUndo")) = some false := F.is 11 "NothingToUndo" rfl
  have i12 : PySem.W.kitOne K (.ref (cl "BadSegment")) (.ref (cl "NothingToRedo")) = some false := F.is 12 "NothingToRedo" rfl
  have i13 : PySem.W.kitOne K (.ref (cl "BadSegment")) (.ref (cl "MapError")) = some true := F.is 13 "MapError" rfl
  have iv := F.ve
  clear F gc
  simp only [st0, List.map_cons, List.map_nil, List.replicate, List.cons_append, List.nil_append]
  walk_at "w"
  refine m_countN 1 (by decide) (by decide) (by decide) ?_
  walk_at "w"
  try (refine obf (by decide) ?_)
  walk_at "w"
  refine m_split (by decide +kernel) (by decide +kernel) (ys := ["BadNumber", "BadSegment", "BadValue", "TooMany", "TooLong", "NoSuch", "Endless", "NoWay", "Near", "BadText", "NotMap", "NothingToUndo", "NothingToRedo"]) (by decide +kernel) ?_
  walk_at "w"
  refine m_indexB 1 (by decide) (by decide) rfl (by decide) (by decide) ?_
  walk_at "w"
  refine b_inSb ["BadSegment", "BadValue", "NotMap"] true (by decide) ?_
  walk_at "w"
  refine w_xg rfl rfl (.int _) ?_
  walk_at "w"
  exact q0
theorem err_TooMany (B : Bl mg) (bv : mg "ValueError" = none) {cl : Str → Addr} (gc : ∀ x, x ∈ ecls → mg x = some (.ref (cl x))) (F : ErrF K cl ecls (cl "TooMany") "word" [false, false, false, true, false, false, false, false, false, false, false, false, false, true]) {f : Addr} (cdv : Value) (A : Around) (out : List Env) (s : Shared) (H : Hp) (Q : VK) (E : XK) (a : Addr) (oe : Obj) {dd : Addr} (hz : Zc (.ref (cl "TooMany")) (some dd) oe) (hf : ∃ z, oe.data = .fields z) (hr : L2H.RoomH 0 (A.deeper (envOfC "_law_error" (defScope s__law_error) s.heap.objs.size f cdv)))
    {Fh : Hp} {k : D → Prop} {nm : Str} (w0 : Wd none Fh H) (hx : Fh dd = some (.xd [("word", .str nm)])) (q0 : k (raisedD "TooMany" [.str nm])) (q : ∀ v e F' H', Wd none F' H' → Stp none Fh H F' H' → Dq K F' v e → k e → Q v H') :
    ∃ t, PSs (L2H.cxH CX0 P w K mg base n__law_error "_law_error" (defScope s__law_error) f cdv A out s H E (a, oe)) (defBody s__law_error) t ∧ t { nx := fun _ H' => Q .non H', rt := Q } (L2.start n__law_error [.ref a]) H := by
  refine ⟨_, (pss_cons (ps_set (i := 1) sc__law_error.nd rfl (Or.inl rfl) pe_str)
      (pss_cons (ps_set (i := 2) sc__law_error.nd rfl (Or.inl rfl) (pe_lst (pa_cons (pe_callB (call_isQ (K := K) F.ec List.mem_cons_self hz hf) (by rfl) B.isinstance (by decide +kernel) (pa_cons (pv 0) (pa_cons (pe_gref (gc "BadNumber" (by decide))) pa_nil))) (pa_cons (pe_callB (call_isQ (K := K) F.ec List.mem_cons_self hz hf) (by rfl) B.isinstance (by decide +kernel) (pa_cons (pv 0) (pa_cons (pe_gref (gc "BadSegment" (by decide))) pa_nil))) (pa_cons (pe_callB (call_isQ (K := K) F.ec List.mem_cons_self hz hf) (by rfl) B.isinstance (by decide +kernel) (pa_cons (pv 0) (pa_cons (pe_gref (gc "BadValue" (by decide))) pa_nil))) (pa_cons (pe_callB (call_isQ (K := K) F.ec List.mem_cons_self hz hf) (by rfl) B.isinstance (by decide +kernel) (pa_cons (pv 0) (pa_cons (pe_gref (gc "TooMany" (by decide))) pa_nil))) (pa_cons (pe_callB (call_isQ (K := K) F.ec List.mem_cons_self hz hf) (by rfl) B.isinstance (by decide +kernel) (pa_cons (pv 0) (pa_cons (pe_gref (gc "TooLong" (by decide))) pa_nil))) pa_nil)))))))
      (pss_cons (ps_set (i := 2) sc__law_error.nd rfl (Or.inl rfl) (pe_op (kAdd (K := K)) (pv 2) (pe_lst (pa_cons (pe_callB (call_isQ (K := K) F.ec List.mem_cons_self hz hf) (by rfl) B.isinstance (by decide +kernel) (pa_cons (pv 0) (pa_cons (pe_gref (gc "NoSuch" (by decide))) pa_nil))) (pa_cons (pe_callB (call_isQ (K := K) F.ec List.mem_cons_self hz hf) (by rfl) B.isinstance (by decide +kernel) (pa_cons (pv 0) (pa_cons (pe_gref (gc "Endless" (by decide))) pa_nil))) (pa_cons (pe_callB (call_isQ (K := K) F.ec List.mem_cons_self hz hf) (by rfl) B.isinstance (by decide +kernel) (pa_cons (pv 0) (pa_cons (pe_gref (gc "NoWay" (by decide))) pa_nil))) (pa_cons (pe_callB (call_isQ (K := K) F.ec List.mem_cons_self hz hf) (by rfl) B.isinstance (by decide +kernel) (pa_cons (pv 0) (pa_cons (pe_gref (gc "Near" (by decide))) pa_nil))) (pa_cons (pe_callB (call_isQ (K := K) F.ec List.mem_cons_self hz hf) (by rfl) B.isinstance (by decide +kernel) (pa_cons (pv 0) (pa_cons (pe_gref (gc "BadText" (by decide))) pa_nil))) pa_nil))))))))
      (pss_cons (ps_set (i := 2) sc__law_error.nd rfl (Or.inl rfl) (pe_op (kAdd (K := K)) (pv 2) (pe_lst (pa_cons (pe_callB (call_isQ (K := K) F.ec List.mem_cons_self hz hf) (by rfl) B.isinstance (by decide +kernel) (pa_cons (pv 0) (pa_cons (pe_gref (gc "NotMap" (by decide))) pa_nil))) (pa_cons (pe_callB (call_isQ (K := K) F.ec List.mem_cons_self hz hf) (by rfl) B.isinstance (by decide +kernel) (pa_cons (pv 0) (pa_cons (pe_gref (gc "NothingToUndo" (by decide))) pa_nil))) (pa_cons (pe_callB (call_isQ (K := K) F.ec List.mem_cons_self hz hf) (by rfl) B.isinstance (by decide +kernel) (pa_cons (pv 0) (pa_cons (pe_gref (gc "NothingToRedo" (by decide))) pa_nil))) pa_nil))))))
      (pss_cons (ps_if (PW.pt (pw_or (pt_cmpR (kNe (K := K) hr.units) (kCnt (K := K) hr.u65 (pv 2) (pa_cons pe_bl pa_nil)) pe_int (nomark _)) (pw_or (pt_not (pt_val (pe_callB (call_isQ (K := K) F.ec List.mem_cons_self hz hf) (by rfl) B.isinstance (by decide +kernel) (pa_cons (pv 0) (pa_cons (pe_gref (gc "MapError" (by decide))) pa_nil))))) (pw_or1 (pt_not (pt_val (pe_callB (call_isQ (K := K) F.ec List.mem_cons_self hz hf) (by rfl) B.isinstance (by decide +kernel) (pa_cons (pv 0) (pa_cons (pe_bltn (v := .ty "ValueError") (by rfl) bv (by decide +kernel) rfl) pa_nil))))))))) (pss_one (ps_ret (pe_lst (pa_cons pe_str (pa_cons pe_str (pa_cons (pe_tup pa_nil) pa_nil)))))) pss_nil)
      (pss_cons (ps_set (i := 3) sc__law_error.nd rfl (Or.inl rfl) (pe_ix (kIx (K := K)) (kSplit (K := K) (pv 1) (pa_cons pe_str pa_nil)) (kIdx (K := K) hr.u65 (pv 2) (pa_cons pe_bl pa_nil)) (fun _ _ => rfl)))
      (pss_cons (ps_if (pt_cmpR (kIn (K := K)) (pv 3) (pe_tup (pa_cons pe_str (pa_cons pe_str (pa_cons pe_str pa_nil)))) rfl) (pss_one (ps_ret (pe_lst (pa_cons pe_str (pa_cons (pv 3) (pa_cons (pe_ifExp (pt_cmpR (kEq (K := K) hr.units) (pv 3) pe_str (nomark _)) (pe_tup (pa_cons pe_no pa_nil)) (pe_ifExp (pt_cmpR (kEq (K := K) hr.units) (pv 3) pe_str (nomark _)) (pe_tup (pa_cons pe_no pa_nil)) (pe_tup (pa_cons pe_no pa_nil)))) pa_nil)))))) pss_nil)
      (pss_cons (ps_if (pt_cmpR (kIn (K := K)) (pv 3) (pe_tup (pa_cons pe_str (pa_cons pe_str (pa_cons pe_str pa_nil)))) rfl) (pss_one (ps_ret (pe_lst (pa_cons pe_str (pa_cons (pv 3) (pa_cons (pe_ifExp (pt_cmpR (kEq (K := K) hr.units) (pv 3) pe_str (nomark _)) (pe_tup (pa_cons pe_no pa_nil)) (pe_tup (pa_cons (pe_xg (K := K) F.ec F.no List.mem_cons_self hz hf (pv 0)) pa_nil))) pa_nil)))))) pss_nil)
      (pss_cons (ps_if (pt_cmpR (kIn (K := K)) (pv 3) (pe_tup (pa_cons pe_str (pa_cons pe_str pa_nil))) rfl) (pss_one (ps_ret (pe_lst (pa_cons pe_str (pa_cons (pv 3) (pa_cons (pe_ifExp (pt_cmpR (kEq (K := K) hr.units) (pv 3) pe_str (nomark _)) (pe_tup (pa_cons pe_no (pa_cons pe_no pa_nil))) (pe_tup (pa_cons pe_no (pa_cons pe_no pa_nil)))) pa_nil)))))) pss_nil)
      (pss_one (ps_ret (pe_lst (pa_cons pe_str (pa_cons (pv 3) (pa_cons (pe_tup pa_nil) pa_nil))))))))))))))), enterE (E := E) w0 hx q 3 rfl ?_⟩
  clear hr hf hz q hx w0
  have i0 : PySem.W.kitOne K (.ref (cl "TooMany")) (.ref (cl "BadNumber")) = some false := F.is 0 "BadNumber" rfl
  have i1 : PySem.W.kitOne K (.ref (cl "TooMany")) (.ref (cl "BadSegment")) = some false := F.is 1 "BadSegment" rfl
  have i2 : PySem.W.kitOne K (.ref (cl "TooMany")) (.ref (cl "BadValue")) = some false := F.is 2 "BadValue" rfl
  have i3 : PySem.W.kitOne K (.ref (cl "TooMany")) (.ref (cl "TooMany")) = some true := F.is 3 "TooMany" rfl
  have i4 : PySem.W.kitOne K (.ref (cl "TooMany")) (.ref (cl "TooLong")) = some false := F.is 4 "TooLong" rfl
  have i5 : PySem.W.kitOne K (.ref (cl "TooMany")) (.ref (cl "NoSuch")) = some false := F.is 5 "NoSuch" rfl
  have i6 : PySem.W.kitOne K (.ref (cl "TooMany")) (.ref (cl "Endless")) = some false := F.is 6 "Endless" rfl
  have i7 : PySem.W.kitOne K (.ref (cl "TooMany")) (.ref (cl "NoWay")) = some false := F.is 7 "NoWay" rfl
  have i8 : PySem.W.kitOne K (.ref (cl "TooMany")) (.ref (cl "Near")) = some false := F.is 8 "Near" rfl
  have i9 : PySem.W.kitOne K (.ref (cl "TooMany")) (.ref (cl "BadText")) = some false := F.is 9 "BadText" rfl
  have i10 : PySem.W.kitOne K (.ref (cl "TooMany")) (.ref (cl "NotMap")) = some false := F.is 10 "NotMap" rfl
  have i11 : PySem.W.kitOne K (.ref (cl "TooMany")) (.ref (cl "NothingToUndo")) = some false := F.is 11 "NothingToUndo" rfl
  have i12 : PySem.W.kitOne K (.ref (cl "TooMany")) (.ref (cl "NothingToRedo")) = some false := F.is 12 "NothingToRedo" rfl
  have i13 : PySem.W.kitOne K (.ref (cl "TooMany")) (.ref (cl "MapError")) = some true := F.is 13 "MapError" rfl
  have iv := F.ve
  clear F gc
  simp only [st0, List.map_cons, List.map_nil, List.replicate, List.cons_append, List.nil_append]
  walk_at "w"
  refine m_countN 1 (by decide) (by decide) (by decide) ?_
  walk_at "w"
  try (refine obf (by decide) ?_)
  walk_at "w"
  refine m_split (by decide +kernel) (by decide +kernel) (ys := ["BadNumber", "BadSegment", "BadValue", "TooMany", "TooLong", "NoSuch", "Endless", "NoWay", "Near", "BadText", "NotMap", "NothingToUndo", "NothingToRedo"]) (by decide +kernel) ?_
  walk_at "w"
  refine m_indexB 3 (by decide) (by decide) rfl (by decide) (by decide) ?_
  walk_at "w"
  refine b_inSb ["BadSegment", "BadValue", "NotMap"] false (by decide) ?_
  walk_at "w"
  refine b_inSb ["TooMany", "TooLong", "Near"] true (by decide) ?_
  walk_at "w"
  refine w_xg rfl rfl (.str _) ?_
  walk_at "w"
  exact q0
theorem err_TooLong (B : Bl mg) (bv : mg "ValueError" = none) {cl : Str → Addr} (gc : ∀ x, x ∈ ecls → mg x = some (.ref (cl x))) (F : ErrF K cl ecls (cl "TooLong") "word" [false, false, false, false, true, false, false, false, false, false, false, false, false, true]) {f : Addr} (cdv : Value) (A : Around) (out : List Env) (s : Shared) (H : Hp) (Q : VK) (E : XK) (a : Addr) (oe : Obj) {dd : Addr} (hz : Zc (.ref (cl "TooLong")) (some dd) oe) (hf : ∃ z, oe.data = .fields z) (hr : L2H.RoomH 0 (A.deeper (envOfC "_law_error" (defScope s__law_error) s.heap.objs.size f cdv)))
    {Fh : Hp} {k : D → Prop} {nm : Str} (w0 : Wd none Fh H) (hx : Fh dd = some (.xd [("word", .str nm)])) (q0 : k (raisedD "TooLong" [.str nm])) (q : ∀ v e F' H', Wd none F' H' → Stp none Fh H F' H' → Dq K F' v e → k e → Q v H') :
    ∃ t, PSs (L2H.cxH CX0 P w K mg base n__law_error "_law_error" (defScope s__law_error) f cdv A out s H E (a, oe)) (defBody s__law_error) t ∧ t { nx := fun _ H' => Q .non H', rt := Q } (L2.start n__law_error [.ref a]) H := by
  refine ⟨_, (pss_cons (ps_set (i := 1) sc__law_error.nd rfl (Or.inl rfl) pe_str)
      (pss_cons (ps_set (i := 2) sc__law_error.nd rfl (Or.inl rfl) (pe_lst (pa_cons (pe_callB (call_isQ (K := K) F.ec List.mem_cons_self hz hf) (by rfl) B.isinstance (by decide +kernel) (pa_cons (pv 0) (pa_cons (pe_gref (gc "BadNumber" (by decide))) pa_nil))) (pa_cons (pe_callB (call_isQ (K := K) F.ec List.mem_cons_self hz hf) (by rfl) B.isinstance (by decide +kernel) (pa_cons (pv 0) (pa_cons (pe_gref (gc "BadSegment" (by decide))) pa_nil))) (pa_cons (pe_callB (call_isQ (K := K) F.ec List.mem_cons_self hz hf) (by rfl) B.isinstance (by decide +kernel) (pa_cons (pv 0) (pa_cons (pe_gref (gc "BadValue" (by decide))) pa_nil))) (pa_cons (pe_callB (call_isQ (K := K) F.ec List.mem_cons_self hz hf) (by rfl) B.isinstance (by decide +kernel) (pa_cons (pv 0) (pa_cons (pe_gref (gc "TooMany" (by decide))) pa_nil))) (pa_cons (pe_callB (call_isQ (K := K) F.ec List.mem_cons_self hz hf) (by rfl) B.isinstance (by decide +kernel) (pa_cons (pv 0) (pa_cons (pe_gref (gc "TooLong" (by decide))) pa_nil))) pa_nil)))))))
      (pss_cons (ps_set (i := 2) sc__law_error.nd rfl (Or.inl rfl) (pe_op (kAdd (K := K)) (pv 2) (pe_lst (pa_cons (pe_callB (call_isQ (K := K) F.ec List.mem_cons_self hz hf) (by rfl) B.isinstance (by decide +kernel) (pa_cons (pv 0) (pa_cons (pe_gref (gc "NoSuch" (by decide))) pa_nil))) (pa_cons (pe_callB (call_isQ (K := K) F.ec List.mem_cons_self hz hf) (by rfl) B.isinstance (by decide +kernel) (pa_cons (pv 0) (pa_cons (pe_gref (gc "Endless" (by decide))) pa_nil))) (pa_cons (pe_callB (call_isQ (K := K) F.ec List.mem_cons_self hz hf) (by rfl) B.isinstance (by decide +kernel) (pa_cons (pv 0) (pa_cons (pe_gref (gc "NoWay" (by decide))) pa_nil))) (pa_cons (pe_callB (call_isQ (K := K) F.ec List.mem_cons_self hz hf) (by rfl) B.isinstance (by decide +kernel) (pa_cons (pv 0) (pa_cons (pe_gref (gc "Near" (by decide))) pa_nil))) (pa_cons (pe_callB (call_isQ (K := K) F.ec List.mem_cons_self hz hf) (by rfl) B.isinstance (by decide +kernel) (pa_cons (pv 0) (pa_cons (pe_gref (gc "BadText" (by decide))) pa_nil))) pa_nil))))))))
      (pss_cons (ps_set (i := 2) sc__law_error.nd rfl (Or.inl rfl) (pe_op (kAdd (K := K)) (pv 2) (pe_lst (pa_cons (pe_callB (call_isQ (K := K) F.ec List.mem_cons_self hz hf) (by rfl) B.isinstance (by decide +kernel) (pa_cons (pv 0) (pa_cons (pe_gref (gc "NotMap" (by decide))) pa_nil))) (pa_cons (pe_callB (call_isQ (K := K) F.ec List.mem_cons_self hz hf) (by rfl) B.isinstance (by decide +kernel) (pa_cons (pv 0) (pa_cons (pe_gref (gc "NothingToUndo" (by decide))) pa_nil))) (pa_cons (pe_callB (call_isQ (K := K) F.ec List.mem_cons_self hz hf) (by rfl) B.isinstance (by decide +kernel) (pa_cons (pv 0) (pa_cons (pe_gref (gc "NothingToRedo" (by decide))) pa_nil))) pa_nil))))))
      (pss_cons (ps_if (PW.pt (pw_or (pt_cmpR (kNe (K := K) hr.units) (kCnt (K := K) hr.u65 (pv 2) (pa_cons pe_bl pa_nil)) pe_int (nomark _)) (pw_or (pt_not (pt_val (pe_callB (call_isQ (K := K) F.ec List.mem_cons_self hz hf) (by rfl) B.isinstance (by decide +kernel) (pa_cons (pv 0) (pa_cons (pe_gref (gc "MapError" (by decide))) pa_nil))))) (pw_or1 (pt_not (pt_val (pe_callB (call_isQ (K := K) F.ec List.mem_cons_self hz hf) (by rfl) B.isinstance (by decide +kernel) (pa_cons (pv 0) (pa_cons (pe_bltn (v := .ty "ValueError") (by rfl) bv (by decide +kernel) rfl) pa_nil))))))))) (pss_one (ps_ret (pe_lst (pa_cons pe_str (pa_cons pe_str (pa_cons (pe_tup pa_nil) pa_nil)))))) pss_nil)
      (pss_cons (ps_set (i := 3) sc__law_error.nd rfl (Or.inl rfl) (pe_ix (kIx (K := K)) (kSplit (K := K) (pv 1) (pa_cons pe_str pa_nil)) (kIdx (K := K) hr.u65 (pv 2) (pa_cons pe_bl pa_nil)) (fun _ _ => rfl)))
      (pss_cons (ps_if (pt_cmpR (kIn (K := K)) (pv 3) (pe_tup (pa_cons pe_str (pa_cons pe_str (pa_cons pe_str pa_nil)))) rfl) (pss_one (ps_ret (pe_lst (pa_cons pe_str (pa_cons (pv 3) (pa_cons (pe_ifExp (pt_cmpR (kEq (K := K) hr.units) (pv 3) pe_str (nomark _)) (pe_tup (pa_cons pe_no pa_nil)) (pe_ifExp (pt_cmpR (kEq (K := K) hr.units) (pv 3) pe_str (nomark _)) (pe_tup (pa_cons pe_no pa_nil)) (pe_tup (pa_cons pe_no pa_nil)))) pa_nil)))))) pss_nil)
      (pss_cons (ps_if (pt_cmpR (kIn (K := K)) (pv 3) (pe_tup (pa_cons pe_str (pa_cons pe_str (pa_cons pe_str pa_nil)))) rfl) (pss_one (ps_ret (pe_lst (pa_cons pe_str (pa_cons (pv 3) (pa_cons (pe_ifExp (pt_cmpR (kEq (K := K) hr.units) (pv 3) pe_str (nomark _)) (pe_tup (pa_cons pe_no pa_nil)) (pe_tup (pa_cons (pe_xg (K := K) F.ec F.no List.mem_cons_self hz hf (pv 0)) pa_nil))) pa_nil)))))) pss_nil)
      (pss_cons (ps_if (pt_cmpR (kIn (K := K)) (pv 3) (pe_tup (pa_cons pe_str (pa_cons pe_str pa_nil))) rfl) (pss_one (ps_ret (pe_lst (pa_cons pe_str (pa_cons (pv 3) (pa_cons (pe_ifExp (pt_cmpR (kEq (K := K) hr.units) (pv 3) pe_str (nomark _)) (pe_tup (pa_cons pe_no (pa_cons pe_no pa_nil))) (pe_tup (pa_cons pe_no (pa_cons pe_no pa_nil)))) pa_nil)))))) pss_nil)
      (pss_one (ps_ret (pe_lst (pa_cons pe_str (pa_cons (pv 3) (pa_cons (pe_tup pa_nil) pa_nil))))))))))))))), enterE (E := E) w0 hx q 3 rfl ?_⟩
  clear hr hf hz q hx w0
  have i0 : PySem.W.kitOne K (.ref (cl "TooLong")) (.ref (cl "BadNumber")) = some false := F.is 0 "BadNumber" rfl
  have i1 : PySem.W.kitOne K (.ref (cl "TooLong")) (.ref (cl "BadSegment")) = some false := F.is 1 "BadSegment" rfl
  have i2 : PySem.W.kitOne K (.ref (cl "TooLong")) (.ref (cl "BadValue")) = some false := F.is 2 "BadValue" rfl
  have i3 : PySem.W.kitOne K (.ref (cl "TooLong")) (.ref (cl "TooMany")) = some false := F.is 3 "TooMany" rfl
  have i4 : PySem.W.kitOne K (.ref (cl "TooLong")) (.ref (cl "TooLong")) = some true := F.is 4 "TooLong" rfl
  have i5 : PySem.W.kitOne K (.ref (cl "TooLong")) (.ref (cl "NoSuch")) = some false := F.is 5 "NoSuch" rfl
  have i6 : PySem.W.kitOne K (.ref (cl "TooLong")) (.ref (cl "Endless")) = some false := F.is 6 "Endless" rfl
  have i7 : PySem.W.kitOne K (.ref (cl "TooLong")) (.ref (cl "NoWay")) = some false := F.is 7 "NoWay" rfl
  have i8 : PySem.W.kitOne K (.ref (cl "TooLong")) (.ref (cl "Near")) = some false := F.is 8 "Near" rfl
  have i9 : PySem.W.kitOne K (.ref (cl "TooLong")) (.ref (cl "BadText")) = some false := F.is 9 "BadText" rfl
  have i10 : PySem.W.kitOne K (.ref (cl "TooLong")) (.ref (cl "NotMap")) = some false := F.is 10 "NotMap" rfl
  have i11 : PySem.W.kitOne K (.ref (cl "TooLong")) (.ref (cl "NothingToUndo")) = some false := F.is 11 "NothingToUndo" rfl
  have i12 : PySem.W.kitOne K (.ref (cl "TooLong")) (.ref (cl "NothingToRedo")) = some false := F.is 12 "NothingToRedo" rfl
  have i13 : PySem.W.kitOne K (.ref (cl "TooLong")) (.ref (cl "MapError")) = some true := F.is 13 "MapError" rfl
  have iv := F.ve
  clear F gc
  simp only [st0, List.map_cons, List.map_nil, List.replicate, List.cons_append, List.nil_append]
  walk_at "w"
  refine m_countN 1 (by decide) (by decide) (by decide) ?_
  walk_at "w"
  try (refine obf (by decide) ?_)
  walk_at "w"
  refine m_split (by decide +kernel) (by decide +kernel) (ys := ["BadNumber", "BadSegment", "BadValue", "TooMany", "TooLong", "NoSuch", "Endless", "NoWay", "Near", "BadText", "NotMap", "NothingToUndo", "NothingToRedo"]) (by decide +kernel) ?_
  walk_at "w"
  refine m_indexB 4 (by decide) (by decide) rfl (by decide) (by decide) ?_
  walk_at "w"
  refine b_inSb ["BadSegment", "BadValue", "NotMap"] false (by decide) ?_
  walk_at "w"
  refine b_inSb ["TooMany", "TooLong", "Near"] true (by decide) ?_
  walk_at "w"
  refine w_xg rfl rfl (.str _) ?_
  walk_at "w"
  exact q0
theorem k__law_error (B : Bl mg) (bv : mg "ValueError" = none) {cl : Str → Addr} (gc : ∀ x, x ∈ ecls → mg x = some (.ref (cl x))) (F_BadValue : ErrF K cl ecls (cl "BadValue") "name" [false, false, true, false, false, false, false, false, false, false, false, false, false, true]) (F_BadSegment : ErrF K cl ecls (cl "BadSegment") "index" [false, true, false, false, false, false, false, false, false, false, false, false, false, true]) (F_TooMany : ErrF K cl ecls (cl "TooMany") "word" [false, false, false, true, false, false, false, false, false, false, false, false, false, true]) (F_TooLong : ErrF K cl ecls (cl "TooLong") "word" [false, false, false, false, true, false, false, false, false, false, false, false, false, true]) {f : Addr} {fd : FuncData} (D : FunD K "_law_error" "_law_error" (defArgs s__law_error) (defBody s__law_error) (defScope s__law_error) [] [] f fd) : FnE P w K mg base 1 f fd ["e"] (spErr K (c_err cl)) := by
  refine AL.FunD.okE D sc__law_error (fun a c d vs H Q E ⟨F, dd, fs, k, _, e, _⟩ => by rw [e]; rfl) fun cdv A out s H vs Q E p c d hz hf hr hs => ?_
  obtain ⟨a, oe⟩ := p
  obtain ⟨F, dd, fs, k, w0, rfl, rfl, hx, ⟨a', rfl, hk⟩, q⟩ := hs
  rcases hk with ⟨z, e, q0⟩ | ⟨z, e, q0⟩ | ⟨z, e, q0⟩ | ⟨z, e, q0⟩
  · injection e with e1 e2
    subst e1 e2
    exact err_BadValue B bv gc F_BadValue cdv A out s H Q E a oe hz hf hr w0 hx q0 q
  · injection e with e1 e2
    subst e1 e2
    exact err_BadSegment B bv gc F_BadSegment cdv A out s H Q E a oe hz hf hr w0 hx q0 q
  · injection e with e1 e2
    subst e1 e2
    exact err_TooMany B bv gc F_TooMany cdv A out s H Q E a oe hz hf hr w0 hx q0 q
  · injection e with e1 e2
    subst e1 e2
    exact err_TooLong B bv gc F_TooLong cdv A out s H Q E a oe hz hf hr w0 hx q0 q
end K88
/-! T21 -/
namespace K88
open PySem PySem.Spec PyProof.Rows L2 AL
local macro_rules | `(tactic| walk_at "bd") => `(tactic| first
  | assumption
  | (apply Sz.n; assumption)
  | (apply Sz.d; assumption)
  | ((with_reducible apply lt_mul); (case h1 => walk_at "bd"); (case h2 => walk_at "bd"))
  | ((with_reducible apply lt_addx); (case h1 => walk_at "bd"); (case h2 => walk_at "bd"))
  | ((with_reducible apply lt_subx); (case h1 => walk_at "bd"); (case h2 => walk_at "bd"))
  | ((with_reducible apply lt_neg); (case h => walk_at "bd")))
local macro_rules | `(tactic| walk_at "nz") => `(tactic| first
  | assumption
  | exact dnz _
  | ((with_reducible apply inz); (case h1 => walk_at "nz"); (case h2 => walk_at "nz")))
local macro_rules | `(tactic| walk_at "w") => `(tactic| repeat (first
  | with_reducible apply w_int
  | ((with_reducible apply w_var); (case h => exact rfl))
  | with_reducible apply wl_cons
  | with_reducible apply wl_nil
  | ((with_reducible refine And.intro (Nat.le_of_ble_eq_true ?hlen) ?_); (case hlen => exact rfl))
  | with_reducible apply w_tup
  | with_reducible apply w_op
  | with_reducible apply s_seq
  | ((with_reducible apply wa_consO); (case h => exact rfl))
  | with_reducible apply wa_cons
  | with_reducible apply wa_nil
  | with_reducible apply ru_i
  | with_reducible apply w_un
  | with_reducible apply s_asg
  | with_reducible apply w_call0
  | with_reducible apply w_callD2
  | with_reducible apply w_callD1
  | ((with_reducible apply w_callX0); (case hz => exact rfl))
  | ((with_reducible apply w_callXS); (case hz => exact rfl))
  | with_reducible apply w_callZ
  | with_reducible apply b_addI
  | ((with_reducible apply rb_ixT); (case e => exact rfl))
  | ((with_reducible apply rb_ixL); (case e => exact rfl))
  | with_reducible apply w_str
  | with_reducible apply w_lst
  | with_reducible apply w_sl
  | with_reducible apply o_none
  | with_reducible apply o_some
  | with_reducible apply sG_T
  | with_reducible apply sG_L
  | ((with_reducible apply s_app); (case e => exact rfl))
  | with_reducible apply s_drop
  | with_reducible apply w_if
  | with_reducible apply p_if
  | with_reducible apply t_test
  | with_reducible apply b_eqI
  | with_reducible apply s_next
  | with_reducible apply p_ret
  | ((with_reducible apply b_mulI); (case hc => (apply mulx; (case h1 => walk_at "bd"); (case h2 => walk_at "bd"); (case h => omega))))
  | with_reducible apply b_sub
  | with_reducible apply s_raiseK
  | ((with_reducible apply w_callXT'); (case hz => exact rfl); (case hW => assumption))
  | with_reducible apply w_isT
  | with_reducible apply w_isL
  | with_reducible apply w_isI
  | with_reducible apply w_isB
  | with_reducible apply w_isS
  | with_reducible apply w_isN
  | with_reducible apply w_notN
  | with_reducible apply w_or
  | with_reducible apply w_and
  | with_reducible apply w_not
  | with_reducible apply w_chain
  | with_reducible apply w_bmL
  | with_reducible apply w_bmS
  | ((with_reducible apply w_isR); (case h => exact rfl); (case e => assumption))
  | ((with_reducible apply w_isV); (case h => exact rfl); (case e => assumption))
  | with_reducible apply w_cb
  | with_reducible apply t_or
  | with_reducible apply t_and
  | with_reducible apply t_not
  | with_reducible apply t_yes
  | ((with_reducible apply b_addT); (case hz => exact Nat.le_of_ble_eq_true rfl))
  | ((with_reducible apply b_addL); (case hz => exact Nat.le_of_ble_eq_true rfl))
  | with_reducible apply s_break
  | with_reducible apply rb_b
  | with_reducible apply t_truthI
  | with_reducible apply b_neI
  | with_reducible apply b_eqS
  | with_reducible apply b_eqB
  | with_reducible apply b_neB
  | with_reducible apply w_bl
  | with_reducible apply w_non
  | with_reducible apply t_B
  | with_reducible apply m_lst
  | ((with_reducible apply m_catO); (case e => exact rfl))
  | with_reducible apply m_cat
  | with_reducible apply m_list
  | with_reducible apply w_lcLU
  | with_reducible apply w_lcTU
  | with_reducible apply s_forTU
  | with_reducible apply s_forLU
  | (with_reducible apply lcU_nil)
  | (with_reducible apply unr_nil)
  | with_reducible apply unr_one
  | ((with_reducible show LcU _ _ _ _ _ _ _ _ _); (refine lcU_one rfl (Nat.lt_of_succ_le (Nat.le_of_ble_eq_true rfl)) ?_))
  | ((with_reducible show (_ = true → _) ∧ (_ = false → _)); (first | refine ybt rfl ?_ | refine ybf rfl ?_))
  | ((with_reducible show (_ = false → _) ∧ (_ = true → _)); (first | refine obt rfl ?_ | refine obf rfl ?_))
  | with_reducible apply yt
  | with_reducible apply yf
  | with_reducible apply fy
  | with_reducible apply ft
  | ((with_reducible apply f_frz); (case e => exact rfl))
  | with_reducible apply s_asgG
  | (refine Exists.intro _ (And.intro (g_lst (by repeat (first | exact gs_nil | apply gs_one)) rfl) ?_))
  | (refine Exists.intro _ (And.intro (g_tup (by repeat (first | exact gs_nil | apply gs_one)) rfl) ?_))
  | with_reducible apply c_lenL
  | with_reducible apply c_lenT
  | with_reducible apply c_listL
  | with_reducible apply c_listT
  | with_reducible apply c_tupL
  | with_reducible apply c_abs
  | with_reducible apply c_int
  | with_reducible apply c_min
  | with_reducible apply rc_gcd
  | with_reducible apply rb_b
  | (refine And.intro (Nat.lt_of_succ_le (Nat.le_of_ble_eq_true rfl)) ?_)
  | with_reducible refine Exists.intro _ (And.intro rfl ?_)
  | refine And.intro (Nat.le_of_ble_eq_true rfl) ?_
  ))
variable {P : Program} {w : World} {K : PySem.W.Frag} {mg : Str → Option Value} {base : Heap}
theorem c_isT_mono {as : List AV} {k k' : D → Prop} (h : c_is_transform as k) (m : ∀ d, k d → k' d) : c_is_transform as k' := by
  obtain ⟨d, e, ⟨h1, h2⟩ | ⟨t, n, h1, h2, h3, h4⟩⟩ := h
  · exact ⟨d, e, .inl ⟨h1, m _ h2⟩⟩
  · exact ⟨d, e, .inr ⟨t, n, h1, h2, h3, m _ h4⟩⟩
def toldD (x : D) : D := .list [.str "told", x]
def c_told (cl : Str → Addr) : Con := fun as k => ∃ (word : Str) (a : D), as = [.i (.str word), .i a] ∧ ((word = "point" ∧ ∃ d e, a = .tuple [d, e] ∧ c_pp (cl "BadValue") (cl "TooLong") [.i d, .i e] (fun x => k (toldD x)) (fun ex => ErK cl ex k)) ∨ (word = "drawing" ∧ ∃ d e, a = .tuple [d, e] ∧ c_pd (cl "BadValue") (cl "BadSegment") (cl "TooMany") (cl "TooLong") [.i d, .i e] (fun x => k (toldD x)) (fun ex => ErK cl ex k)) ∨ (word = "chain" ∧ ∃ d e, a = .tuple [d, e] ∧ c_chn (cl "BadValue") (cl "TooLong") [.i d, .i e] (fun x => k (toldD x)) (fun ex => ErK cl ex k)) ∨ (word = "back" ∧ ∃ d, a = .tuple [d] ∧ c_one (cl "BadValue") (cl "TooLong") (fun t => tfD t.inv) [.i d] (fun x => k (toldD x)) (fun ex => ErK cl ex k)) ∨ (word = "whole" ∧ ∃ d, a = .tuple [d] ∧ c_one (cl "BadValue") (cl "TooLong") (fun t => Fq t.det) [.i d] (fun x => k (toldD x)) (fun ex => ErK cl ex k)) ∨ (word = "scale" ∧ ∃ d, a = .tuple [d] ∧ c_one (cl "BadValue") (cl "TooLong") (fun t => optD t.scale) [.i d] (fun x => k (toldD x)) (fun ex => ErK cl ex k)) ∨ (word = "order" ∧ ∃ d, a = .tuple [d] ∧ c_ord (cl "BadValue") (cl "TooLong") [.i d] (fun x => k (toldD x)) (fun ex => ErK cl ex k)) ∨ (word = "three" ∧ ∃ d e, a = .tuple [d, e] ∧ c_tof (cl "BadValue") (cl "TooLong") [.i d, .i e] (fun x => k (toldD x)) (fun ex => ErK cl ex k)) ∨ (word = "is" ∧ ∃ d, a = .tuple [d] ∧ c_is_transform [.i d] (fun x => k (toldD x))))
abbrev n__law_told : List Str := ["word", "a", "e"]
abbrev s__law_told : Stmt := top 123
theorem sc__law_told : FnScope ["word", "a", "e"] ["word", "a"] (defScope s__law_told) := ⟨rfl, rfl, rfl, by decide +kernel, rfl, by decide +kernel, by decide +kernel⟩
theorem l2h_of {k : Nat} {A : Around} {v : Value} (r : Room k A) (h : 1 ≤ k) : L2H.RoomH 1 (A.mark (some v)) := ⟨by have := r.dp; show A.depth + 3 * 1 + 5 < _; omega, by have := r.un; show A.units + 16 * 1 + 200 < _; omega⟩
theorem stay_err {cl : Str → Addr} {ex : AExc} {k : D → Prop} (h : ErK cl ex k) : ∃ x ∈ (["BadValue", "BadSegment", "TooMany", "TooLong"] : List Str), ex.cls = cl x := by
  rcases h with ⟨z, rfl, _⟩ | ⟨z, rfl, _⟩ | ⟨z, rfl, _⟩ | ⟨z, rfl, _⟩
  · exact ⟨"BadValue", by simp, rfl⟩
  · exact ⟨"BadSegment", by simp, rfl⟩
  · exact ⟨"TooMany", by simp, rfl⟩
  · exact ⟨"TooLong", by simp, rfl⟩
theorem h__law_told (B : Bl mg) {cl : Str → Addr} (gM : mg "MapError" = some (.ref (cl "MapError"))) (hM : ∀ x ∈ (["BadValue", "BadSegment", "TooMany", "TooLong"] : List Str), PySem.W.exmOne K (.ref (cl x)) (.ref (cl "MapError")) = some true) {fE : Addr} {fdE : FuncData} (FE : FnE P w K mg base 1 fE fdE ["e"] (spErr K (c_err cl))) (gE : mg "_law_error" = some (.ref fE)) (keE : PySem.W.keepIn K (.ref fE) = true) (bE : Binds K fdE ["e"] []) (d : DefAt K mg "_law_told" s__law_told []) (h_is_transform : Has P w K mg base CX0 "is_transform" 4 [] (spOf K none (c_is_transform))) (h_transform_of : Has P w K mg base (L2.CX P w) "transform_of" 7 [] (spX K (c_tof (cl "BadValue") (cl "TooLong")))) (h_order_of : Has P w K mg base (L2.CX P w) "order_of" 6 [] (spX K (c_ord (cl "BadValue") (cl "TooLong")))) (h_scale_of : Has P w K mg base (L2.CX P w) "scale_of" 6 [] (spX K (c_one (cl "BadValue") (cl "TooLong") (fun t => optD t.scale)))) (h_determinant_of : Has P w K mg base (L2.CX P w) "determinant_of" 6 [] (spX K (c_one (cl "BadValue") (cl "TooLong") (fun t => Fq t.det)))) (h_inverse_of : Has P w K mg base (L2.CX P w) "inverse_of" 6 [] (spX K (c_one (cl "BadValue") (cl "TooLong") (fun t => tfD t.inv)))) (h_chained_transform : Has P w K mg base (L2.CX P w) "chained_transform" 6 [] (spX K (c_chn (cl "BadValue") (cl "TooLong")))) (h_placed_drawing : Has P w K mg base (L2.CX P w) "placed_drawing" 6 [] (spX K (c_pd (cl "BadValue") (cl "BadSegment") (cl "TooMany") (cl "TooLong")))) (h_placed_point : Has P w K mg base (L2.CX P w) "placed_point" 6 [] (spX K (c_pp (cl "BadValue") (cl "TooLong")))) : Has P w K mg base CX0 "_law_told" 8 [] (spOf K none (c_told cl)) := by
  refine d.pure sc__law_told (fun _ _ _ _ _ _ us hl => match us, hl with | [_, _], _ => rfl) 1 rfl (fun as k ⟨_, _, e, _⟩ => by rw [e]; rfl) fun f cdv A outer s H E hr => ⟨_, pss_one (ps_tryM (K := K) rfl rfl sc__law_told.nd (i := 2) rfl rfl (c := .ref (cl "MapError")) ⟨rfl, by decide, .inl gM⟩ (fun W pn xe tk po => (pss_cons (ps_if (pt_cmpR (kEq (K := K) hr.units) (pv 0) pe_str (nomark _)) (pss_one (ps_ret (pe_lst (pa_cons pe_str (pa_cons (pe_hasS h_placed_point (hr.mono (by decide)) (passAt tk) (pa_cons (pe_ix (kIx (K := K)) (pv 1) pe_int (fun _ _ => rfl)) (pa_cons (pe_ix (kIx (K := K)) (pv 1) pe_int (fun _ _ => rfl)) pa_nil))) pa_nil))))) pss_nil)
      (pss_cons (ps_if (pt_cmpR (kEq (K := K) hr.units) (pv 0) pe_str (nomark _)) (pss_one (ps_ret (pe_lst (pa_cons pe_str (pa_cons (pe_hasS h_placed_drawing (hr.mono (by decide)) (passAt tk) (pa_cons (pe_ix (kIx (K := K)) (pv 1) pe_int (fun _ _ => rfl)) (pa_cons (pe_ix (kIx (K := K)) (pv 1) pe_int (fun _ _ => rfl)) pa_nil))) pa_nil))))) pss_nil)
      (pss_cons (ps_if (pt_cmpR (kEq (K := K) hr.units) (pv 0) pe_str (nomark _)) (pss_one (ps_ret (pe_lst (pa_cons pe_str (pa_cons (pe_hasS h_chained_transform (hr.mono (by decide)) (passAt tk) (pa_cons (pe_ix (kIx (K := K)) (pv 1) pe_int (fun _ _ => rfl)) (pa_cons (pe_ix (kIx (K := K)) (pv 1) pe_int (fun _ _ => rfl)) pa_nil))) pa_nil))))) pss_nil)
      (pss_cons (ps_if (pt_cmpR (kEq (K := K) hr.units) (pv 0) pe_str (nomark _)) (pss_one (ps_ret (pe_lst (pa_cons pe_str (pa_cons (pe_hasS h_inverse_of (hr.mono (by decide)) (passAt tk) (pa_cons (pe_ix (kIx (K := K)) (pv 1) pe_int (fun _ _ => rfl)) pa_nil)) pa_nil))))) pss_nil)
      (pss_cons (ps_if (pt_cmpR (kEq (K := K) hr.units) (pv 0) pe_str (nomark _)) (pss_one (ps_ret (pe_lst (pa_cons pe_str (pa_cons (pe_hasS h_determinant_of (hr.mono (by decide)) (passAt tk) (pa_cons (pe_ix (kIx (K := K)) (pv 1) pe_int (fun _ _ => rfl)) pa_nil)) pa_nil))))) pss_nil)
      (pss_cons (ps_if (pt_cmpR (kEq (K := K) hr.units) (pv 0) pe_str (nomark _)) (pss_one (ps_ret (pe_lst (pa_cons pe_str (pa_cons (pe_hasS h_scale_of (hr.mono (by decide)) (passAt tk) (pa_cons (pe_ix (kIx (K := K)) (pv 1) pe_int (fun _ _ => rfl)) pa_nil)) pa_nil))))) pss_nil)
      (pss_cons (ps_if (pt_cmpR (kEq (K := K) hr.units) (pv 0) pe_str (nomark _)) (pss_one (ps_ret (pe_lst (pa_cons pe_str (pa_cons (pe_hasS h_order_of (hr.mono (by decide)) (passAt tk) (pa_cons (pe_ix (kIx (K := K)) (pv 1) pe_int (fun _ _ => rfl)) pa_nil)) pa_nil))))) pss_nil)
      (pss_cons (ps_if (pt_cmpR (kEq (K := K) hr.units) (pv 0) pe_str (nomark _)) (pss_one (ps_ret (pe_lst (pa_cons pe_str (pa_cons (pe_hasS h_transform_of (hr.mono (by decide)) (passAt tk) (pa_cons (pe_ix (kIx (K := K)) (pv 1) pe_int (fun _ _ => rfl)) (pa_cons (pe_ix (kIx (K := K)) (pv 1) pe_int (fun _ _ => rfl)) pa_nil))) pa_nil))))) pss_nil)
      (pss_one (ps_ret (pe_lst (pa_cons pe_str (pa_cons (pe_has h_is_transform (hr.mono (by decide)) pass0 (pa_cons (pe_ix (kIx (K := K)) (pv 1) pe_int (fun _ _ => rfl)) pa_nil)) pa_nil)))))))))))))) (fun a oe cls d pn hz hf => (pss_one (ps_ret (pe_callE FE (l2h_of hr (by decide)) List.mem_cons_self hz hf gE keE bE (pa_cons (pv 2) pa_nil)))))), fun as k hc => ?_⟩
  try dsimp only [cxOf]
  clear hr E H s outer A cdv f d B
  obtain ⟨word, a, rfl, hc⟩ := hc
  simp only [st0, List.map_cons, List.map_nil, List.replicate, List.cons_append, List.nil_append]
  walk_at "w"
  refine s_tryM (fun ex => ErK cl ex k) ?_ (fun ex he => ⟨?_, ?_⟩) ?_
  · show 2 < 3
    decide
  · obtain ⟨x, hx, e⟩ := stay_err he
    rw [e]
    exact hM x hx
  · intro a dd D' σ' F' H' w0 hF hi q
    exact ⟨.ref a, hi, F', dd, ex.fs, k, w0, rfl, rfl, hF, ⟨ex.cls, rfl, he⟩, q⟩
  intro X1 W hW
  rcases hc with ⟨rfl, d, e, rfl, hc⟩ | ⟨rfl, d, e, rfl, hc⟩ | ⟨rfl, d, e, rfl, hc⟩ | ⟨rfl, d, rfl, hc⟩ | ⟨rfl, d, rfl, hc⟩ | ⟨rfl, d, rfl, hc⟩ | ⟨rfl, d, rfl, hc⟩ | ⟨rfl, d, e, rfl, hc⟩ | ⟨rfl, d, rfl, hc⟩
  · walk_at "w"
    refine ⟨_, hc, fun d hd => ?_⟩
    walk_at "w"
    exact hd
  · walk_at "w"
    refine ⟨_, hc, fun d hd => ?_⟩
    walk_at "w"
    exact hd
  · walk_at "w"
    refine ⟨_, hc, fun d hd => ?_⟩
    walk_at "w"
    exact hd
  · walk_at "w"
    refine ⟨_, hc, fun d hd => ?_⟩
    walk_at "w"
    exact hd
  · walk_at "w"
    refine ⟨_, hc, fun d hd => ?_⟩
    walk_at "w"
    exact hd
  · walk_at "w"
    refine ⟨_, hc, fun d hd => ?_⟩
    walk_at "w"
    exact hd
  · walk_at "w"
    refine ⟨_, hc, fun d hd => ?_⟩
    walk_at "w"
    exact hd
  · walk_at "w"
    refine ⟨_, hc, fun d hd => ?_⟩
    walk_at "w"
    exact hd
  · walk_at "w"
    refine c_isT_mono hc (fun d hd => ?_)
    walk_at "w"
    exact hd
def c_asked (cl : Str → Addr) : Con := fun as k => ∃ (word : Str) (a due : D), as = [.i (.str word), .i a, .i due] ∧ dep 5 a = true ∧ dep 5 due = true ∧ c_told cl [.i (.str word), .i a] (fun r => r = due) ∧ k (.bool true)
abbrev n__law_asked : List Str := ["word", "a", "due", "given"]
abbrev s__law_asked : Stmt := top 124
theorem sc__law_asked : FnScope ["word", "a", "due", "given"] ["word", "a", "due"] (defScope s__law_asked) := ⟨rfl, rfl, rfl, by decide +kernel, rfl, by decide +kernel, by decide +kernel⟩
theorem h__law_asked {cl : Str → Addr} (B : Bl mg) (d : DefAt K mg "_law_asked" s__law_asked []) (h__law_same : Has P w K mg base CX0 "_law_same" 6 [] (spOf K none (c_same 5))) (h__law_told : Has P w K mg base CX0 "_law_told" 8 [] (spOf K none (c_told cl))) (h__law_copy : Has P w K mg base CX0 "_law_copy" 6 [] (spOf K none (c_copy 5))) : Has P w K mg base CX0 "_law_asked" 9 [] (spOf K none (c_asked cl)) := by
  refine d.pure sc__law_asked (fun _ _ _ _ _ _ us hl => match us, hl with | [_, _, _], _ => rfl) 1 rfl (fun as k ⟨_, _, _, e, _⟩ => by rw [e]; rfl) fun f cdv A outer s H E hr => ⟨_, (pss_cons (ps_set (i := 3) sc__law_asked.nd rfl (Or.inl rfl) (pe_has h__law_copy (hr.mono (by decide)) pass0 (pa_cons (pv 1) pa_nil)))
      (pss_one (ps_ret (pe_and (pe_has h__law_same (hr.mono (by decide)) pass0 (pa_cons (pe_has h__law_told (hr.mono (by decide)) pass0 (pa_cons (pv 0) (pa_cons (pv 3) pa_nil))) (pa_cons (pv 2) pa_nil))) (pe_one (pe_has h__law_same (hr.mono (by decide)) pass0 (pa_cons (pv 3) (pa_cons (pv 1) pa_nil)))))))), fun as k hc => ?_⟩
  try dsimp only [cxOf]
  clear hr E H s outer A cdv f d B
  obtain ⟨word, a, due, rfl, ha, hd, ht, q⟩ := hc
  simp only [st0, List.map_cons, List.map_nil, List.replicate, List.cons_append, List.nil_append]
  walk_at "w"
  refine ⟨a, rfl, ha, ?_⟩
  refine p_ret (w_and (w_call0 (wa_cons (w_callPM ?_))))
  walk_at "w"
  refine ⟨_, ht, fun r hr => ?_⟩
  subst hr
  walk_at "w"
  refine ⟨_, rfl, hd, ?_⟩
  walk_at "w"
  exact ⟨_, rfl, ha, q⟩
end K88
/-! M4 -/
/-! transforms: powers, orders -/
namespace K88
open PySem PySem.Spec PyProof.Rows L2 AL
theorem Tf.ext' {s t : Tf} (h1 : s.a = t.a) (h2 : s.b = t.b) (h3 : s.c = t.c) (h4 : s.d = t.d) (h5 : s.e = t.e) (h6 : s.f = t.f) : s = t := by
  cases s; cases t
  simp only at h1 h2 h3 h4 h5 h6
  subst h1 h2 h3 h4 h5 h6
  rfl
theorem chain_assoc (r s t : Tf) : (r.chain s).chain t = r.chain (s.chain t) := by
  refine Tf.ext' ?_ ?_ ?_ ?_ ?_ ?_ <;> simp only [Tf.chain] <;> grind
theorem chain_unit (t : Tf) : t.chain .unit = t := by
  refine Tf.ext' ?_ ?_ ?_ ?_ ?_ ?_ <;> simp only [Tf.chain, Tf.unit] <;> grind
theorem det_chain (s t : Tf) : (s.chain t).det = t.det * s.det := by
  simp only [Tf.chain, Tf.det]
  grind
theorem det_unit : Tf.unit.det = 1 := by
  simp only [Tf.unit, Tf.det]
  grind
theorem inv_chain {t : Tf} (h : t.det ≠ 0) : t.inv.chain t = .unit := by
  obtain ⟨a, b, c, d, e, f⟩ := t
  have h : a * d - b * c ≠ 0 := h
  refine Tf.ext' ?_ ?_ ?_ ?_ ?_ ?_ <;> simp only [Tf.chain, Tf.unit, Tf.inv, Tf.det] <;> grind
theorem chain_inv {t : Tf} (h : t.det ≠ 0) : t.chain t.inv = .unit := by
  obtain ⟨a, b, c, d, e, f⟩ := t
  have h : a * d - b * c ≠ 0 := h
  refine Tf.ext' ?_ ?_ ?_ ?_ ?_ ?_ <;> simp only [Tf.chain, Tf.unit, Tf.inv, Tf.det] <;> grind
theorem det_inv {t : Tf} (h : t.det ≠ 0) : t.inv.det ≠ 0 := fun e => by
  have q := det_chain t.inv t
  rw [inv_chain h, det_unit, e] at q
  grind
theorem pw_conj {t : Tf} (h : t.det ≠ 0) (m : Tf) : ∀ n, pw ((t.inv.chain m).chain t) n = (t.inv.chain (pw m n)).chain t
  | 0 => by
    show Tf.unit = (t.inv.chain .unit).chain t
    rw [chain_unit, inv_chain h]
  | n + 1 => by
    show (pw ((t.inv.chain m).chain t) n).chain ((t.inv.chain m).chain t) = (t.inv.chain ((pw m n).chain m)).chain t
    rw [pw_conj h m n, chain_assoc, chain_assoc, ← chain_assoc t, ← chain_assoc t, chain_inv h, unit_chain, chain_assoc, chain_assoc]
theorem of_on {t : Tf} {p q r : Pt} (h : tri p q r ≠ 0) : Tf.of p q r (t.on p) (t.on q) (t.on r) = t := by
  obtain ⟨a, b, c, d, e, f⟩ := t
  obtain ⟨x0, y0⟩ := p
  obtain ⟨x1, y1⟩ := q
  obtain ⟨x2, y2⟩ := r
  have h : (x1 - x0) * (y2 - y0) - (x2 - x0) * (y1 - y0) ≠ 0 := h
  refine Tf.ext' ?_ ?_ ?_ ?_ ?_ ?_ <;> simp only [Tf.of, Tf.on, Pt.sub, Pt.cr] <;> grind
theorem pw_add (t : Tf) (m : Nat) : ∀ n, pw t (m + n) = (pw t m).chain (pw t n)
  | 0 => (chain_unit _).symm
  | n + 1 => by
    show (pw t (m + n)).chain t = (pw t m).chain ((pw t n).chain t)
    rw [pw_add t m n, chain_assoc]
theorem pw_mul (t : Tf) (m : Nat) : ∀ n, pw (pw t m) n = pw t (m * n)
  | 0 => rfl
  | n + 1 => by
    show (pw (pw t m) n).chain (pw t m) = pw t (m * n + m)
    rw [pw_mul t m n, pw_add]
theorem pw_unit : ∀ n, pw .unit n = .unit
  | 0 => rfl
  | n + 1 => by
    show (pw .unit n).chain .unit = .unit
    rw [pw_unit n, chain_unit]
/-! ### steps alone -/
theorem pw_step (e f : Rat) : ∀ n : Nat, pw ⟨1, 0, 0, 1, e, f⟩ n = ⟨1, 0, 0, 1, (n : Rat) * e, (n : Rat) * f⟩
  | 0 => by
    refine Tf.ext' rfl rfl rfl rfl ?_ ?_ <;> simp [pw, Tf.unit]
  | n + 1 => by
    show (pw ⟨1, 0, 0, 1, e, f⟩ n).chain ⟨1, 0, 0, 1, e, f⟩ = _
    rw [pw_step e f n]
    have h : ((n + 1 : Nat) : Rat) = (n : Rat) + 1 := by simp
    refine Tf.ext' ?_ ?_ ?_ ?_ ?_ ?_ <;> simp only [Tf.chain, h] <;> grind
theorem step_zero {t : Tf} {j k : Nat} (hk : 0 < k) (h : pw t k = .unit) (ha : (pw t j).a = 1) (hb : (pw t j).b = 0) (hc : (pw t j).c = 0) (hd : (pw t j).d = 1) : pw t j = .unit := by
  have e : pw t j = ⟨1, 0, 0, 1, (pw t j).e, (pw t j).f⟩ := Tf.ext' ha hb hc hd rfl rfl
  have q : pw (pw t j) k = .unit := by rw [pw_mul, Nat.mul_comm, ← pw_mul, h, pw_unit]
  rw [e, pw_step] at q
  have h5 : (k : Rat) * (pw t j).e = 0 := congrArg Tf.e q
  have h6 : (k : Rat) * (pw t j).f = 0 := congrArg Tf.f q
  have k0 : (k : Rat) ≠ 0 := fun z => by
    have : k = 0 := by exact_mod_cast z
    omega
  rw [e]
  refine Tf.ext' rfl rfl rfl rfl ?_ ?_
  · show (pw t j).e = 0
    grind
  · show (pw t j).f = 0
    grind
/-! ### the linear part -/
def uu (τ δ : Rat) : Nat → Rat
  | 0 => 0
  | 1 => 1
  | n + 2 => τ * uu τ δ (n + 1) - δ * uu τ δ n
theorem pw_lin (t : Tf) : ∀ n, (pw t (n + 1)).a = uu (t.a + t.d) t.det (n + 1) * t.a - t.det * uu (t.a + t.d) t.det n ∧ (pw t (n + 1)).b = uu (t.a + t.d) t.det (n + 1) * t.b ∧
    (pw t (n + 1)).c = uu (t.a + t.d) t.det (n + 1) * t.c ∧ (pw t (n + 1)).d = uu (t.a + t.d) t.det (n + 1) * t.d - t.det * uu (t.a + t.d) t.det n
  | 0 => by
    rw [pw_one]
    refine ⟨?_, ?_, ?_, ?_⟩ <;> simp only [uu] <;> grind
  | n + 1 => by
    obtain ⟨h1, h2, h3, h4⟩ := pw_lin t n
    have e : pw t (n + 1 + 1) = (pw t (n + 1)).chain t := rfl
    rw [e]
    have hu : uu (t.a + t.d) t.det (n + 1 + 1) = (t.a + t.d) * uu (t.a + t.d) t.det (n + 1) - t.det * uu (t.a + t.d) t.det n := rfl
    simp only [Tf.chain, h1, h2, h3, h4, hu]
    generalize uu (t.a + t.d) t.det (n + 1) = x
    generalize uu (t.a + t.d) t.det n = y
    simp only [Tf.det]
    refine ⟨?_, ?_, ?_, ?_⟩ <;> grind
def rp (x : Rat) : Nat → Rat
  | 0 => 1
  | n + 1 => rp x n * x
theorem rp_num (x : Rat) : ∀ n, rp x n * ((x.den : Rat) ^ n) = (x.num : Rat) ^ n
  | 0 => by simp [rp]
  | n + 1 => by
    have h := rp_num x n
    have h2 := nu x
    have e1 : (x.den : Rat) ^ (n + 1) = (x.den : Rat) ^ n * (x.den : Rat) := Rat.pow_succ _ _
    have e2 : (x.num : Rat) ^ (n + 1) = (x.num : Rat) ^ n * (x.num : Rat) := Rat.pow_succ _ _
    show rp x n * x * _ = _
    rw [e1, e2, ← h]
    grind
theorem rp_one {x : Rat} {n : Nat} (h : rp x (n + 1) = 1) : x = 1 ∨ x = -1 := by
  have q := rp_num x (n + 1)
  rw [h, Rat.one_mul] at q
  have q2 : ((x.den : Int)) ^ (n + 1) = x.num ^ (n + 1) := by
    have : (((x.den : Int) ^ (n + 1) : Int) : Rat) = ((x.num ^ (n + 1) : Int) : Rat) := by
      rw [Rat.intCast_pow, Rat.intCast_pow, Rat.intCast_natCast]
      exact q
    exact_mod_cast this
  have q3 : x.den ^ (n + 1) = x.num.natAbs ^ (n + 1) := by
    have := congrArg Int.natAbs q2
    rw [Int.natAbs_pow, Int.natAbs_pow] at this
    simpa using this
  have q4 : x.den = x.num.natAbs := (Nat.pow_left_inj (by omega)).mp q3
  have q5 := x.reduced
  rw [← q4] at q5
  have q6 : x.den = 1 := by simpa using q5
  have hx : x = (x.num : Rat) := by
    refine Rat.ext rfl ?_
    rw [q6]
    rfl
  have q7 : x.num = 1 ∨ x.num = -1 := by omega
  rcases q7 with e | e
  · exact .inl (by rw [hx, e]; rfl)
  · exact .inr (by rw [hx, e]; rfl)
theorem det_pw (t : Tf) : ∀ n, (pw t n).det = rp t.det n
  | 0 => det_unit
  | n + 1 => by
    show ((pw t n).chain t).det = rp t.det n * t.det
    rw [det_chain, det_pw t n, Rat.mul_comm]
end K88
/-! M5 -/
/-! orders: none from 7 to 12 without one to 6 -/
namespace K88
open PySem PySem.Spec PyProof.Rows L2 AL
/-- the same in whole numbers: p over q, e the sign of the determinant -/
def vv (p e : Int) (q : Int) : Nat → Int
  | 0 => 0
  | 1 => 1
  | n + 2 => p * vv p e q (n + 1) - e * (q * q) * vv p e q n
theorem vv_uu {τ δ : Rat} {p e q : Int} (hτ : τ * (q : Rat) = (p : Rat)) (hδ : δ = (e : Rat)) : ∀ n, uu τ δ n * rp (q : Rat) n = (vv p e q n : Rat) * (q : Rat) ∧ uu τ δ (n + 1) * rp (q : Rat) (n + 1) = (vv p e q (n + 1) : Rat) * (q : Rat)
  | 0 => by
    refine ⟨?_, ?_⟩ <;> simp only [uu, vv, rp, Rat.intCast_zero, Rat.intCast_one] <;> grind
  | n + 1 => by
    obtain ⟨h1, h2⟩ := vv_uu hτ hδ n
    refine ⟨h2, ?_⟩
    have e1 : uu τ δ (n + 1 + 1) = τ * uu τ δ (n + 1) - δ * uu τ δ n := rfl
    have e2 : vv p e q (n + 1 + 1) = p * vv p e q (n + 1) - e * (q * q) * vv p e q n := rfl
    have e3 : rp (q : Rat) (n + 1 + 1) = rp (q : Rat) (n + 1) * q := rfl
    have e4 : rp (q : Rat) (n + 1) = rp (q : Rat) n * q := rfl
    rw [e1, e2, e3]
    simp only [Rat.intCast_sub, Rat.intCast_mul]
    rw [e4] at h2 ⊢
    clear e1 e2 e3 e4
    generalize uu τ δ (n + 1) = x at *
    generalize uu τ δ n = y at *
    generalize rp (q : Rat) n = z at *
    generalize (vv p e q (n + 1) : Rat) = v1 at *
    generalize (vv p e q n : Rat) = v0 at *
    generalize (q : Rat) = qr at *
    generalize (p : Rat) = pr at *
    generalize (e : Rat) = er at *
    subst hτ hδ
    have g1 : (τ * x - δ * y) * (z * qr * qr) = τ * qr * (x * (z * qr)) - δ * (qr * qr) * (y * z) := by grind
    rw [g1, h1, h2]
    grind
theorem vv_dvd (p e q : Int) : ∀ n, q ∣ vv p e q (n + 1) - p ^ n
  | 0 => ⟨0, by simp [vv]⟩
  | n + 1 => by
    obtain ⟨c, hc⟩ := vv_dvd p e q n
    refine ⟨p * c - e * q * vv p e q n, ?_⟩
    have e2 : vv p e q (n + 1 + 1) = p * vv p e q (n + 1) - e * (q * q) * vv p e q n := rfl
    have e3 : p ^ (n + 1) = p ^ n * p := Int.pow_succ _ _
    rw [e2, e3]
    have h : vv p e q (n + 1) = q * c + p ^ n := by omega
    rw [h]
    grind
theorem vv_den {p e : Int} {q n : Nat} (hc : Nat.Coprime p.natAbs q) (h : vv p e (q : Int) (n + 1) = 0) : q = 1 := by
  have h1 := vv_dvd p e (q : Int) n
  rw [h] at h1
  have h2 : (q : Int) ∣ p ^ n := by
    have h3 : (q : Int) ∣ -(p ^ n) := by simpa using h1
    exact Int.dvd_neg.mp h3
  have h3 : q ∣ p.natAbs ^ n := by
    have := Int.natAbs_dvd_natAbs.mpr h2
    rw [Int.natAbs_pow] at this
    simpa using this
  have hc2 : Nat.Coprime q (p.natAbs ^ n) := (Nat.Coprime.pow_left n hc).symm
  exact Nat.Coprime.eq_one_of_dvd hc2 h3
theorem vv_grow {p e : Int} (hp : 3 ≤ p.natAbs) (he : e = 1 ∨ e = -1) : ∀ n, (vv p e 1 n).natAbs < (vv p e 1 (n + 1)).natAbs
  | 0 => by show (0 : Int).natAbs < (1 : Int).natAbs; decide
  | n + 1 => by
    have ih := vv_grow hp he n
    have e2 : vv p e 1 (n + 1 + 1) = p * vv p e 1 (n + 1) - e * (1 * 1) * vv p e 1 n := rfl
    rw [e2]
    have h1 : (p * vv p e 1 (n + 1)).natAbs = p.natAbs * (vv p e 1 (n + 1)).natAbs := Int.natAbs_mul _ _
    have h2 : 3 * (vv p e 1 (n + 1)).natAbs ≤ p.natAbs * (vv p e 1 (n + 1)).natAbs := Nat.mul_le_mul_right _ hp
    have h3 : (e * (1 * 1) * vv p e 1 n).natAbs = (vv p e 1 n).natAbs := by
      rcases he with rfl | rfl <;> simp
    generalize p * vv p e 1 (n + 1) = x at *
    generalize e * (1 * 1) * vv p e 1 n = y at *
    omega
theorem vv_cases : ∀ p ∈ ([-2, -1, 0, 1, 2] : List Int), ∀ e ∈ ([1, -1] : List Int), ∀ k ∈ ([7, 8, 9, 10, 11, 12] : List Nat), vv p e 1 k = 0 → (e = 1 ∧ (p = 0 ∨ p = 1 ∨ p = -1)) ∨ (e = -1 ∧ p = 0) := by
  decide +kernel
/-- a power from 7 to 12 that is the unit: one from 1 to 6 is -/
theorem low_order {t : Tf} {n : Nat} (h6 : 6 ≤ n) (h11 : n ≤ 11) (h : pw t (n + 1) = .unit) : ∃ j, 0 < j ∧ j ≤ 6 ∧ pw t j = .unit := by
  obtain ⟨l1, l2, l3, l4⟩ := pw_lin t n
  rw [h] at l1 l2 l3 l4
  have l1 : (1 : Rat) = uu (t.a + t.d) t.det (n + 1) * t.a - t.det * uu (t.a + t.d) t.det n := l1
  have l2 : (0 : Rat) = uu (t.a + t.d) t.det (n + 1) * t.b := l2
  have l3 : (0 : Rat) = uu (t.a + t.d) t.det (n + 1) * t.c := l3
  have l4 : (1 : Rat) = uu (t.a + t.d) t.det (n + 1) * t.d - t.det * uu (t.a + t.d) t.det n := l4
  have hd : rp t.det (n + 1) = 1 := by
    rw [← det_pw, h, det_unit]
  have lin : ∀ j, uu (t.a + t.d) t.det (j + 1) = 0 → t.det * uu (t.a + t.d) t.det j = -1 → pw t (j + 1) = .unit := fun j e1 e2 => by
    obtain ⟨m1, m2, m3, m4⟩ := pw_lin t j
    rw [e1, e2] at m1 m4
    rw [e1] at m2 m3
    exact step_zero (k := n + 1) (by omega) h (by rw [m1]; grind) (by rw [m2]; grind) (by rw [m3]; grind) (by rw [m4]; grind)
  by_cases hu : uu (t.a + t.d) t.det (n + 1) = 0
  · -- the trace is whole
    have hδ := rp_one hd
    obtain ⟨e, he, hδ2⟩ : ∃ e : Int, (e = 1 ∨ e = -1) ∧ t.det = (e : Rat) := by
      rcases hδ with q | q
      · exact ⟨1, .inl rfl, by rw [q]; rfl⟩
      · exact ⟨-1, .inr rfl, by rw [q]; rfl⟩
    have hτ : (t.a + t.d) * (((t.a + t.d).den : Int) : Rat) = ((t.a + t.d).num : Rat) := by
      rw [nu, Rat.intCast_natCast]
    have hv := (vv_uu hτ hδ2 n).2
    rw [hu, Rat.zero_mul] at hv
    have hv0 : vv (t.a + t.d).num e ((t.a + t.d).den : Int) (n + 1) = 0 := by
      have h1 : (vv (t.a + t.d).num e ((t.a + t.d).den : Int) (n + 1) : Rat) = 0 := by
        have := dz (t.a + t.d)
        rw [Rat.intCast_natCast] at hv
        grind
      exact_mod_cast h1
    have hden : (t.a + t.d).den = 1 := vv_den (t.a + t.d).reduced hv0
    rw [hden] at hv0 hτ
    have hτ2 : t.a + t.d = ((t.a + t.d).num : Rat) := by
      rw [← hτ]
      show _ = _ * ((1 : Int) : Rat)
      rw [Rat.intCast_one, Rat.mul_one]
    generalize hp : (t.a + t.d).num = p at *
    have hv1 : vv p e 1 (n + 1) = 0 := hv0
    have hp3 : ¬ 3 ≤ p.natAbs := fun q => by
      have := vv_grow q he n
      rw [hv1] at this
      simp at this
    have hpm : p ∈ ([-2, -1, 0, 1, 2] : List Int) := by
      have : p = -2 ∨ p = -1 ∨ p = 0 ∨ p = 1 ∨ p = 2 := by omega
      rcases this with rfl | rfl | rfl | rfl | rfl <;> decide
    have hem : e ∈ ([1, -1] : List Int) := by rcases he with rfl | rfl <;> decide
    have hkm : n + 1 ∈ ([7, 8, 9, 10, 11, 12] : List Nat) := by
      have : n = 6 ∨ n = 7 ∨ n = 8 ∨ n = 9 ∨ n = 10 ∨ n = 11 := by omega
      rcases this with rfl | rfl | rfl | rfl | rfl | rfl <;> decide
    rcases vv_cases p hpm e hem (n + 1) hkm hv1 with ⟨rfl, rfl | rfl | rfl⟩ | ⟨rfl, rfl⟩
    · refine ⟨4, by omega, by omega, lin 3 ?_ ?_⟩ <;> rw [hτ2, hδ2] <;> decide +kernel
    · refine ⟨6, by omega, by omega, lin 5 ?_ ?_⟩ <;> rw [hτ2, hδ2] <;> decide +kernel
    · refine ⟨3, by omega, by omega, lin 2 ?_ ?_⟩ <;> rw [hτ2, hδ2] <;> decide +kernel
    · refine ⟨2, by omega, by omega, lin 1 ?_ ?_⟩ <;> rw [hτ2, hδ2] <;> decide +kernel
  · -- a multiple of the unit
    have hb : t.b = 0 := by grind
    have hc : t.c = 0 := by grind
    have hda : t.d = t.a := by grind
    have ha : ∀ j, (pw t j).a = rp t.a j := fun j => by
      induction j with
      | zero => rfl
      | succ j ih =>
        have e1 : pw t (j + 1) = (pw t j).chain t := rfl
        rw [e1]
        simp only [Tf.chain, rp, ih, hb]
        grind
    have h1 : rp t.a (n + 1) = 1 := by rw [← ha, h]; rfl
    have h2 : t.a * t.a = 1 := by
      rcases rp_one h1 with q | q <;> rw [q] <;> decide +kernel
    have e2 : pw t 2 = (pw t 1).chain t := rfl
    refine ⟨2, by omega, by omega, step_zero (k := n + 1) (by omega) h ?_ ?_ ?_ ?_⟩ <;> rw [e2, pw_one] <;> simp only [Tf.chain, hb, hc, hda] <;> grind
theorem ordF_ext {t : Tf} : ∀ (n i m : Nat), (∃ k, i < k ∧ k ≤ i + n ∧ pw t k = .unit) → ordF t i (n + m) = ordF t i n
  | 0, i, m, ⟨k, h1, h2, _⟩ => by omega
  | n + 1, i, m, ⟨k, h1, h2, h3⟩ => by
    have e : n + 1 + m = (n + m) + 1 := by omega
    rw [e]
    show (if pw t (i + 1) = .unit then _ else ordF t (i + 1) (n + m)) = (if pw t (i + 1) = .unit then _ else ordF t (i + 1) n)
    by_cases h : pw t (i + 1) = .unit
    · rw [if_pos h, if_pos h]
    · rw [if_neg h, if_neg h]
      refine ordF_ext n (i + 1) m ⟨k, ?_, by omega, h3⟩
      have : k ≠ i + 1 := fun z => h (z ▸ h3)
      omega
theorem ordF_no {t : Tf} : ∀ (n i : Nat), (∀ k, i < k → k ≤ i + n → pw t k ≠ .unit) → ordF t i n = .none
  | 0, i, _ => rfl
  | n + 1, i, h => by
    show (if pw t (i + 1) = .unit then _ else ordF t (i + 1) n) = _
    rw [if_neg (h (i + 1) (by omega) (by omega))]
    exact ordF_no n (i + 1) fun k h1 h2 => h k (by omega) (by omega)
theorem ordF_same (t : Tf) : ordF t 0 6 = ordF t 0 12 := by
  by_cases h : ∃ k, 0 < k ∧ k ≤ 0 + 6 ∧ pw t k = .unit
  · exact (ordF_ext 6 0 6 h).symm
  · have h2 : ∀ k, 0 < k → k ≤ 12 → pw t k ≠ .unit := fun k h1 h3 q => by
      by_cases h4 : k ≤ 6
      · exact h ⟨k, h1, by omega, q⟩
      · obtain ⟨n, rfl⟩ : ∃ n, k = n + 1 := ⟨k - 1, by omega⟩
        obtain ⟨j, j1, j2, j3⟩ := low_order (by omega) (by omega) q
        exact h ⟨j, j1, by omega, j3⟩
    rw [ordF_no 6 0 fun k h1 h3 => h2 k h1 (by omega), ordF_no 12 0 fun k h1 h3 => h2 k h1 (by omega)]
end K88
/-! M6 -/
/-! sizes of powers, of the cycle -/
namespace K88
open PySem PySem.Spec PyProof.Rows L2 AL
theorem fig_of {b n : Nat} {x : Rat} (h : Sz b x) (l : 2 ^ b ≤ 10 ^ n) : wFig n x = true := by
  unfold wFig
  rw [Bool.and_eq_true]
  exact ⟨decide_eq_true (Nat.lt_of_lt_of_le h.1 l), decide_eq_true (Nat.lt_of_lt_of_le h.2 l)⟩
theorem two498 : 2 ^ 498 < 10 ^ 150 := by decide +kernel
/-! ### numerators and denominators apart -/
def Nz (n d : Nat) (q : Rat) : Prop := q.num.natAbs ≤ 2 ^ n ∧ q.den ≤ 2 ^ d
theorem p2 {a b : Nat} (h : a ≤ b) : 2 ^ a ≤ 2 ^ b := Nat.pow_le_pow_right (by decide) h
theorem nz_div {n d : Int} {a b : Nat} (hd : d ≠ 0) (h1 : n.natAbs ≤ 2 ^ a) (h2 : d.natAbs ≤ 2 ^ b) : Nz a b (Rat.divInt n d) := ⟨Nat.le_trans (div_le hd).1 h1, Nat.le_trans (div_le hd).2 h2⟩
theorem Nz.mul {n d m g : Nat} {x y : Rat} (h : Nz n d x) (k : Nz m g y) : Nz (n + m) (d + g) (x * y) := by
  rw [← mul_is]
  refine nz_div (inz (dnz x) (dnz y)) ?_ ?_
  · rw [Int.natAbs_mul, Nat.pow_add]
    exact Nat.mul_le_mul h.1 k.1
  · rw [Int.natAbs_mul, Nat.pow_add]
    exact Nat.mul_le_mul (by simpa using h.2) (by simpa using k.2)
theorem Nz.add {n d m g N : Nat} {x y : Rat} (h : Nz n d x) (k : Nz m g y) (l1 : n + g + 1 ≤ N) (l2 : m + d + 1 ≤ N) : Nz N (d + g) (x + y) := by
  rw [← add_is]
  refine nz_div (inz (dnz x) (dnz y)) ?_ ?_
  · have a1 : (x.num * (y.den : Int)).natAbs ≤ 2 ^ (N - 1) := by
      rw [Int.natAbs_mul]
      refine Nat.le_trans (Nat.mul_le_mul h.1 (show ((y.den : Int)).natAbs ≤ 2 ^ g by simpa using k.2)) ?_
      rw [← Nat.pow_add]
      exact p2 (by omega)
    have a2 : (y.num * (x.den : Int)).natAbs ≤ 2 ^ (N - 1) := by
      rw [Int.natAbs_mul]
      refine Nat.le_trans (Nat.mul_le_mul k.1 (show ((x.den : Int)).natAbs ≤ 2 ^ d by simpa using h.2)) ?_
      rw [← Nat.pow_add]
      exact p2 (by omega)
    have e : 2 ^ N = 2 ^ (N - 1) + 2 ^ (N - 1) := by
      have : N = (N - 1) + 1 := by omega
      conv => lhs; rw [this]
      rw [Nat.pow_succ]
      omega
    rw [e]
    generalize x.num * (y.den : Int) = u at *
    generalize y.num * (x.den : Int) = v at *
    omega
  · rw [Int.natAbs_mul, Nat.pow_add]
    exact Nat.mul_le_mul (by simpa using h.2) (by simpa using k.2)
theorem Nz.neg {n d : Nat} {x : Rat} (h : Nz n d x) : Nz n d (-x) := ⟨by rw [Rat.neg_num, Int.natAbs_neg]; exact h.1, by rw [Rat.neg_den]; exact h.2⟩
theorem Nz.sub {n d m g N : Nat} {x y : Rat} (h : Nz n d x) (k : Nz m g y) (l1 : n + g + 1 ≤ N) (l2 : m + d + 1 ≤ N) : Nz N (d + g) (x - y) := by
  rw [Rat.sub_eq_add_neg]
  exact h.add k.neg l1 l2
theorem Nz.div {n d m g : Nat} {x y : Rat} (h : Nz n d x) (k : Nz m g y) (h0 : y ≠ 0) : Nz (n + g) (d + m) (x / y) := by
  rw [← div_is x h0]
  have hn : y.num ≠ 0 := fun e => h0 (Rat.num_eq_zero.mp e)
  refine nz_div (inz (dnz x) hn) ?_ ?_
  · rw [Int.natAbs_mul, Nat.pow_add]
    exact Nat.mul_le_mul h.1 (by simpa using k.2)
  · rw [Int.natAbs_mul, Nat.pow_add]
    exact Nat.mul_le_mul (by simpa using h.2) k.1
theorem Nz.fig {n d : Nat} {x : Rat} (h : Nz n d x) (l1 : n ≤ 498) (l2 : d ≤ 498) : wFig 150 x = true := by
  unfold wFig
  rw [Bool.and_eq_true]
  exact ⟨decide_eq_true (Nat.lt_of_le_of_lt (Nat.le_trans h.1 (p2 l1)) two498), decide_eq_true (Nat.lt_of_le_of_lt (Nat.le_trans h.2 (p2 l2)) two498)⟩
theorem Sz.nz {b : Nat} {x : Rat} (h : Sz b x) : Nz b b x := ⟨Nat.le_of_lt h.1, Nat.le_of_lt h.2⟩
structure NT (n d n' d' : Nat) (t : Tf) : Prop where
  a : Nz n d t.a
  b : Nz n d t.b
  c : Nz n d t.c
  d : Nz n d t.d
  e : Nz n' d' t.e
  f : Nz n' d' t.f
theorem NT.chain {n d n' d' m g m' g' N N' : Nat} {t s : Tf} (h : NT n d n' d' t) (k : NT m g m' g' s) (l1 : (m + n) + (g + d) + 1 ≤ N) (l2 : (m + n' + (g + d') + 1) + g' + 1 ≤ N') (l3 : m' + (g + d' + (g + d')) + 1 ≤ N') :
    NT N (g + d + (g + d)) N' (g + d' + (g + d') + g') (t.chain s) :=
  ⟨(k.a.mul h.a).add (k.b.mul h.c) (by omega) (by omega), (k.a.mul h.b).add (k.b.mul h.d) (by omega) (by omega), (k.c.mul h.a).add (k.d.mul h.c) (by omega) (by omega), (k.c.mul h.b).add (k.d.mul h.d) (by omega) (by omega),
   ((k.a.mul h.e).add (k.b.mul h.f) (N := m + n' + (g + d') + 1) (by omega) (by omega)).add k.e (by omega) (by omega), ((k.c.mul h.e).add (k.d.mul h.f) (N := m + n' + (g + d') + 1) (by omega) (by omega)).add k.f (by omega) (by omega)⟩
theorem nz_i {n : Int} {b : Nat} (h : n.natAbs ≤ 2 ^ b) : Nz b 0 (n : Rat) := ⟨h, Nat.le_refl 1⟩
theorem Mn.nt {a b c d e f : Int} (h : Mn a b c d e f) : NT 1 0 3 0 (tfI a b c d e f) :=
  ⟨nz_i h.ha, nz_i h.hb, nz_i h.hc, nz_i h.hd, nz_i (Nat.le_trans h.he (by decide)), nz_i (Nat.le_trans h.hf (by decide))⟩
theorem inv_nt {t : Tf} (h : TS 11 5 t) (he : Sm t.e) (hf : Sm t.f) (h0 : t.det ≠ 0) : NT 55 56 118 116 t.inv := by
  have hd : Nz 45 44 t.det := (h.a.nz.mul h.d.nz).sub (h.b.nz.mul h.c.nz) (by decide) (by decide)
  have e1 : Nz 4 2 t.e := he
  have f1 : Nz 4 2 t.f := hf
  have da := h.a.nz.div hd h0
  have db := h.b.nz.div hd h0
  have dc := h.c.nz.div hd h0
  have dd := h.d.nz.div hd h0
  exact ⟨dd, db.neg, dc.neg, da, ((dd.mul e1).add (db.neg.mul f1) (by decide) (by decide)).neg, ((dc.neg.mul e1).add (da.mul f1) (by decide) (by decide)).neg⟩
theorem cycle_fig {a b c d e f : Int} {t : Tf} (hm : Mn a b c d e f) (h : TS 11 5 t) (he : Sm t.e) (hf : Sm t.f) (h0 : t.det ≠ 0) : figT ((t.inv.chain (tfI a b c d e f)).chain t) = true := by
  have ht : NT 11 11 4 2 t := ⟨h.a.nz, h.b.nz, h.c.nz, h.d.nz, he, hf⟩
  have h1 : NT 113 112 237 232 (t.inv.chain (tfI a b c d e f)) := (inv_nt h he hf h0).chain hm.nt (by decide) (by decide) (by decide)
  have h2 : NT 248 246 495 488 ((t.inv.chain (tfI a b c d e f)).chain t) := h1.chain ht (by decide) (by decide) (by decide)
  unfold figT
  rw [h2.a.fig (by decide) (by decide), h2.b.fig (by decide) (by decide), h2.c.fig (by decide) (by decide), h2.d.fig (by decide) (by decide), h2.e.fig (by decide) (by decide), h2.f.fig (by decide) (by decide)]
  rfl
theorem cycle_det {a b c d e f : Int} {t : Tf} (hm : Mn a b c d e f) (h0 : t.det ≠ 0) : ((t.inv.chain (tfI a b c d e f)).chain t).det ≠ 0 := by
  rw [det_chain, det_chain]
  have h1 := det_inv h0
  have h2 : (tfI a b c d e f).det ≠ 0 := fun q => by
    have q2 : (((a * d - b * c : Int)) : Rat) = ((0 : Int) : Rat) := by
      simp only [Rat.intCast_sub, Rat.intCast_mul, Rat.intCast_zero]
      exact q
    exact hm.det (by exact_mod_cast q2)
  exact mz h0 (mz h2 h1)
/-! ### powers of whole-number transforms -/
theorem pwI {a b c d e f : Int} (h : Mn a b c d e f) : ∀ n, ∃ a' b' c' d' e' f' : Int, pw (tfI a b c d e f) n = tfI a' b' c' d' e' f' ∧ a'.natAbs ≤ 2 ^ (2 * n) ∧ b'.natAbs ≤ 2 ^ (2 * n) ∧ c'.natAbs ≤ 2 ^ (2 * n) ∧ d'.natAbs ≤ 2 ^ (2 * n) ∧ e'.natAbs + 7 ≤ 2 ^ (2 * n + 3) ∧ f'.natAbs + 7 ≤ 2 ^ (2 * n + 3)
  | 0 => ⟨1, 0, 0, 1, 0, 0, by refine Tf.ext' ?_ ?_ ?_ ?_ ?_ ?_ <;> rfl, by decide, by decide, by decide, by decide, by decide, by decide⟩
  | n + 1 => by
    obtain ⟨a', b', c', d', e', f', q, h1, h2, h3, h4, h5, h6⟩ := pwI h n
    obtain ⟨g1, g2, g3, g4, g5, g6, _⟩ := h
    refine ⟨a * a' + b * c', a * b' + b * d', c * a' + d * c', c * b' + d * d', a * e' + b * f' + e, c * e' + d * f' + f, ?_, ?_, ?_, ?_, ?_, ?_, ?_⟩
    · show (pw (tfI a b c d e f) n).chain (tfI a b c d e f) = _
      rw [q]
      refine Tf.ext' ?_ ?_ ?_ ?_ ?_ ?_ <;> simp only [Tf.chain, tfI, Rat.intCast_add, Rat.intCast_mul]
    all_goals
      have e1 : 2 ^ (2 * (n + 1)) = 4 * 2 ^ (2 * n) := by rw [show 2 * (n + 1) = 2 * n + 2 from rfl, Nat.pow_add]; omega
      have e2 : 2 ^ (2 * (n + 1) + 3) = 4 * 2 ^ (2 * n + 3) := by rw [show 2 * (n + 1) + 3 = 2 * n + 3 + 2 from rfl, Nat.pow_add _ _ 2]; omega
      have mm : ∀ {x y : Int} {B : Nat}, x.natAbs ≤ 2 → y.natAbs ≤ B → (x * y).natAbs ≤ 2 * B := fun {x y B} p r => by rw [Int.natAbs_mul]; exact Nat.mul_le_mul p r
    · rw [e1]; have := mm g1 h1; have := mm g2 h3; clear mm; generalize a * a' = x at *; generalize b * c' = y at *; clear h1 h2 h3 h4 h5 h6 g1 g2 g3 g4 g5 g6; omega
    · rw [e1]; have := mm g1 h2; have := mm g2 h4; clear mm; generalize a * b' = x at *; generalize b * d' = y at *; clear h1 h2 h3 h4 h5 h6 g1 g2 g3 g4 g5 g6; omega
    · rw [e1]; have := mm g3 h1; have := mm g4 h3; clear mm; generalize c * a' = x at *; generalize d * c' = y at *; clear h1 h2 h3 h4 h5 h6 g1 g2 g3 g4 g5 g6; omega
    · rw [e1]; have := mm g3 h2; have := mm g4 h4; clear mm; generalize c * b' = x at *; generalize d * d' = y at *; clear h1 h2 h3 h4 h5 h6 g1 g2 g3 g4 g5 g6; omega
    · rw [e2]; have := mm g1 (Nat.le_refl e'.natAbs); have := mm g2 (Nat.le_refl f'.natAbs); clear mm; generalize a * e' = x at *; generalize b * f' = y at *; clear h1 h2 h3 h4 g1 g2 g3 g4 g6; omega
    · rw [e2]; have := mm g3 (Nat.le_refl e'.natAbs); have := mm g4 (Nat.le_refl f'.natAbs); clear mm; generalize c * e' = x at *; generalize d * f' = y at *; clear h1 h2 h3 h4 g1 g2 g3 g4 g5; omega
theorem pwI_ts {a b c d e f : Int} (h : Mn a b c d e f) {n : Nat} (hn : n ≤ 12) : TS 25 28 (pw (tfI a b c d e f) n) := by
  obtain ⟨a', b', c', d', e', f', q, h1, h2, h3, h4, h5, h6⟩ := pwI h n
  rw [q]
  have l1 : 2 ^ (2 * n) < 2 ^ 25 := Nat.pow_lt_pow_right (by decide) (by omega)
  have l2 : 2 ^ (2 * n + 3) < 2 ^ 28 := Nat.pow_lt_pow_right (by decide) (by omega)
  exact ⟨sz_i (Nat.lt_of_le_of_lt h1 l1) (by decide), sz_i (Nat.lt_of_le_of_lt h2 l1) (by decide), sz_i (Nat.lt_of_le_of_lt h3 l1) (by decide), sz_i (Nat.lt_of_le_of_lt h4 l1) (by decide), sz_i (by omega) (by decide), sz_i (by omega) (by decide)⟩
theorem cycle_pw {a b c d e f : Int} {t : Tf} (hm : Mn a b c d e f) (h : TS 11 5 t) (h0 : t.det ≠ 0) {n : Nat} (hn : n ≤ 12) : TS 349 681 (pw ((t.inv.chain (tfI a b c d e f)).chain t) n) := by
  rw [pw_conj h0]
  exact ((h.inv h0).chain (pwI_ts hm hn)).chain h
/-! ### powers over a common denominator -/
structure Cm (D E : Int) (A B : Nat) (t : Tf) : Prop where
  a : ∃ n : Int, t.a * (D : Rat) = (n : Rat) ∧ n.natAbs < 2 ^ A
  b : ∃ n : Int, t.b * (D : Rat) = (n : Rat) ∧ n.natAbs < 2 ^ A
  c : ∃ n : Int, t.c * (D : Rat) = (n : Rat) ∧ n.natAbs < 2 ^ A
  d : ∃ n : Int, t.d * (D : Rat) = (n : Rat) ∧ n.natAbs < 2 ^ A
  e : ∃ n : Int, t.e * (E : Rat) = (n : Rat) ∧ n.natAbs < 2 ^ B
  f : ∃ n : Int, t.f * (E : Rat) = (n : Rat) ∧ n.natAbs < 2 ^ B
theorem cm_sz {x : Rat} {D n : Int} {b : Nat} (h0 : D ≠ 0) (h : x * (D : Rat) = (n : Rat)) (h1 : n.natAbs < 2 ^ b) (h2 : D.natAbs < 2 ^ b) : Sz b x := by
  have hd : (D : Rat) ≠ 0 := fun q => h0 (by exact_mod_cast q)
  rw [← divInt_is hd h.symm]
  exact sz_div h0 h1 h2
theorem cm_lin {x y u v : Rat} {D D' : Int} {A A' : Nat} (h1 : ∃ n : Int, x * (D : Rat) = (n : Rat) ∧ n.natAbs < 2 ^ A) (h2 : ∃ n : Int, u * (D' : Rat) = (n : Rat) ∧ n.natAbs < 2 ^ A') (h3 : ∃ n : Int, y * (D : Rat) = (n : Rat) ∧ n.natAbs < 2 ^ A) (h4 : ∃ n : Int, v * (D' : Rat) = (n : Rat) ∧ n.natAbs < 2 ^ A') :
    ∃ n : Int, (x * u + y * v) * ((D' * D : Int) : Rat) = (n : Rat) ∧ n.natAbs < 2 ^ (A + A' + 1) := by
  obtain ⟨n1, e1, b1⟩ := h1
  obtain ⟨n2, e2, b2⟩ := h2
  obtain ⟨n3, e3, b3⟩ := h3
  obtain ⟨n4, e4, b4⟩ := h4
  refine ⟨n1 * n2 + n3 * n4, ?_, lt_add (lt_mul b1 b2) (lt_mul b3 b4)⟩
  simp only [Rat.intCast_add, Rat.intCast_mul, ← e1, ← e2, ← e3, ← e4]
  grind
theorem cm_step {x y u v z : Rat} {D E E' F : Int} {A B B' C : Nat} (h1 : ∃ n : Int, x * (D : Rat) = (n : Rat) ∧ n.natAbs < 2 ^ A) (h2 : ∃ n : Int, u * (E' : Rat) = (n : Rat) ∧ n.natAbs < 2 ^ B') (h3 : ∃ n : Int, y * (D : Rat) = (n : Rat) ∧ n.natAbs < 2 ^ A) (h4 : ∃ n : Int, v * (E' : Rat) = (n : Rat) ∧ n.natAbs < 2 ^ B')
    (h5 : ∃ n : Int, z * (E : Rat) = (n : Rat) ∧ n.natAbs < 2 ^ B) (hF : E' * D = E * F) (hFb : F.natAbs < 2 ^ C) (l : B + C ≤ A + B' + 1) :
    ∃ n : Int, (x * u + y * v + z) * ((E' * D : Int) : Rat) = (n : Rat) ∧ n.natAbs < 2 ^ (A + B' + 2) := by
  obtain ⟨n1, e1, b1⟩ := cm_lin h1 h2 h3 h4
  obtain ⟨n5, e5, b5⟩ := h5
  refine ⟨n1 + n5 * F, ?_, lt_add b1 (lt_up (lt_mul b5 hFb) l)⟩
  rw [Rat.add_mul, e1]
  simp only [Rat.intCast_add, Rat.intCast_mul, ← e5]
  have : z * ((E' * D : Int) : Rat) = z * E * F := by
    rw [hF, Rat.intCast_mul]
    grind
  rw [← this, Rat.intCast_mul]
theorem cm_one {t : Tf} (h : TS 11 499 t) : ∃ D E : Int, D ≠ 0 ∧ E ≠ 0 ∧ D.natAbs < 2 ^ 44 ∧ E.natAbs < 2 ^ 998 ∧ Cm D E 44 998 t := by
  refine ⟨(t.a.den : Int) * t.b.den * (t.c.den * t.d.den), (t.e.den : Int) * t.f.den, inz (inz (dnz _) (dnz _)) (inz (dnz _) (dnz _)), inz (dnz _) (dnz _), lt_mul (lt_mul h.a.d h.b.d) (lt_mul h.c.d h.d.d), lt_mul h.e.d h.f.d, ⟨?_, ?_, ?_, ?_, ?_, ?_⟩⟩
  · refine ⟨t.a.num * t.b.den * (t.c.den * t.d.den), ?_, lt_mul (lt_mul h.a.n h.b.d) (lt_mul h.c.d h.d.d)⟩
    simp only [Rat.intCast_mul, Rat.intCast_natCast, nu]
    grind
  · refine ⟨t.b.num * t.a.den * (t.c.den * t.d.den), ?_, lt_mul (lt_mul h.b.n h.a.d) (lt_mul h.c.d h.d.d)⟩
    simp only [Rat.intCast_mul, Rat.intCast_natCast, nu]
    grind
  · refine ⟨t.a.den * t.b.den * (t.c.num * t.d.den), ?_, lt_mul (lt_mul h.a.d h.b.d) (lt_mul h.c.n h.d.d)⟩
    simp only [Rat.intCast_mul, Rat.intCast_natCast, nu]
    grind
  · refine ⟨t.a.den * t.b.den * (t.d.num * t.c.den), ?_, lt_mul (lt_mul h.a.d h.b.d) (lt_mul h.d.n h.c.d)⟩
    simp only [Rat.intCast_mul, Rat.intCast_natCast, nu]
    grind
  · refine ⟨t.e.num * t.f.den, ?_, lt_mul h.e.n h.f.d⟩
    simp only [Rat.intCast_mul, Rat.intCast_natCast, nu]
    grind
  · refine ⟨t.f.num * t.e.den, ?_, lt_mul h.f.n h.e.d⟩
    simp only [Rat.intCast_mul, Rat.intCast_natCast, nu]
    grind
theorem cm_pw {t : Tf} {D E : Int} (h : Cm D E 44 998 t) (hD : D.natAbs < 2 ^ 44) : ∀ n, Cm (D ^ (n + 1)) (E * D ^ n) (45 * (n + 1)) (998 + 46 * n) (pw t (n + 1)) ∧ (D ^ n).natAbs < 2 ^ (44 * n + 1)
  | 0 => by
    rw [pw_one]
    have e1 : D ^ (0 + 1) = D := by rw [Int.pow_succ, Int.pow_zero, Int.one_mul]
    have e2 : E * D ^ 0 = E := by rw [Int.pow_zero, Int.mul_one]
    rw [e1, e2]
    have up : ∀ {x : Rat}, (∃ n : Int, x * (D : Rat) = (n : Rat) ∧ n.natAbs < 2 ^ 44) → ∃ n : Int, x * (D : Rat) = (n : Rat) ∧ n.natAbs < 2 ^ (45 * (0 + 1)) := fun ⟨n, q, b⟩ => ⟨n, q, lt_up b (by decide)⟩
    exact ⟨⟨up h.a, up h.b, up h.c, up h.d, h.e, h.f⟩, by rw [Int.pow_zero]; decide⟩
  | n + 1 => by
    obtain ⟨k, kd⟩ := cm_pw h hD n
    have e1 : D ^ (n + 1 + 1) = D ^ (n + 1) * D := Int.pow_succ _ _
    have e2 : E * D ^ (n + 1) = E * D ^ n * D := by rw [Int.pow_succ, Int.mul_assoc]
    have hd1 : (D ^ (n + 1)).natAbs < 2 ^ (44 * (n + 1) + 1) := by
      rw [Int.pow_succ]
      exact lt_up (lt_mul kd hD) (by omega)
    have eq : pw t (n + 1 + 1) = (pw t (n + 1)).chain t := rfl
    have up : ∀ {x : Rat} {D : Int} {A B : Nat}, A ≤ B → (∃ n : Int, x * (D : Rat) = (n : Rat) ∧ n.natAbs < 2 ^ A) → ∃ n : Int, x * (D : Rat) = (n : Rat) ∧ n.natAbs < 2 ^ B := fun {x D A B} l ⟨n, q, b⟩ => ⟨n, q, lt_up b l⟩
    have hF : E * D ^ n * D = E * D ^ (n + 1) := e2.symm
    refine ⟨⟨?_, ?_, ?_, ?_, ?_, ?_⟩, hd1⟩ <;> rw [eq]
    · rw [e1]; exact up (by omega) (cm_lin h.a k.a h.b k.c)
    · rw [e1]; exact up (by omega) (cm_lin h.a k.b h.b k.d)
    · rw [e1]; exact up (by omega) (cm_lin h.c k.a h.d k.c)
    · rw [e1]; exact up (by omega) (cm_lin h.c k.b h.d k.d)
    · rw [e2]; exact up (by omega) (cm_step h.a k.e h.b k.f h.e hF hd1 (by omega))
    · rw [e2]; exact up (by omega) (cm_step h.c k.e h.d k.f h.f hF hd1 (by omega))
theorem two_pw {t : Tf} (h : TS 11 499 t) {n : Nat} (hn : n ≤ 11) : TS 540 1504 (pw t (n + 1)) := by
  obtain ⟨D, E, d0, e0, hD, hE, hc⟩ := cm_one h
  obtain ⟨k, kd⟩ := cm_pw hc hD n
  have D0 : ∀ m : Nat, D ^ m ≠ 0 := fun m => by
    induction m with
    | zero => rw [Int.pow_zero]; decide
    | succ m ih => rw [Int.pow_succ]; exact inz ih d0
  have b1 : (D ^ (n + 1)).natAbs < 2 ^ 540 := by
    rw [Int.pow_succ]
    exact lt_up (lt_mul kd hD) (by omega)
  have b2 : (E * D ^ n).natAbs < 2 ^ 1504 := lt_up (lt_mul hE kd) (by omega)
  have lin : ∀ {x : Rat}, (∃ m : Int, x * ((D ^ (n + 1) : Int) : Rat) = (m : Rat) ∧ m.natAbs < 2 ^ (45 * (n + 1))) → Sz 540 x := fun ⟨m, q, b⟩ => cm_sz (D0 _) q (lt_up b (by omega)) b1
  have stp : ∀ {x : Rat}, (∃ m : Int, x * ((E * D ^ n : Int) : Rat) = (m : Rat) ∧ m.natAbs < 2 ^ (998 + 46 * n)) → Sz 1504 x := fun ⟨m, q, b⟩ => cm_sz (inz e0 (D0 _)) q (lt_up b (by omega)) b2
  exact ⟨lin k.a, lin k.b, lin k.c, lin k.d, stp k.e, stp k.f⟩
end K88
/-! R1 -/
/-! what the law asks, row by row -/
namespace K88
open PySem PySem.Spec PyProof.Rows L2 AL
/-- a call that tells what is due -/
structure Asked (cl : Str → Addr) (word : Str) (a due : D) : Prop where
  ha : dep 5 a = true
  hd : dep 5 due = true
  ht : c_told cl [.i (.str word), .i a] (fun r => r = due)
def AskRow (cl : Str → Addr) (d : D) : Prop := ∃ word a due, d = .tuple [.str word, a, due] ∧ Asked cl word a due
variable {cl : Str → Addr} {k : D → Prop}
abbrev badD (nm : Str) : D := raisedD "BadValue" [.str nm]
abbrev muchD : D := raisedD "TooLong" [.str "figures"]
theorem erV (nm : Str) (h : k (badD nm)) : ErK cl (BV (cl "BadValue") nm) k := .inl ⟨nm, rfl, h⟩
theorem erS (i : Int) (h : k (raisedD "BadSegment" [.int i])) : ErK cl (BS (cl "BadSegment") i) k := .inr (.inl ⟨i, rfl, h⟩)
theorem erM (h : k (raisedD "TooMany" [.str "segments"])) : ErK cl (TM (cl "TooMany")) k := .inr (.inr (.inl ⟨"segments", rfl, h⟩))
theorem erL (h : k muchD) : ErK cl (TL (cl "TooLong")) k := .inr (.inr (.inr ⟨"figures", rfl, h⟩))
/-! depth -/
theorem dep_le {m n : Nat} {d : D} (l : m ≤ n) (h : dep m d = true) : dep n d = true := by
  induction l with
  | refl => exact h
  | step _ ih => exact dep_up ih
theorem dep_list {n : Nat} {ds : List D} (hl : ds.length ≤ 1000) (h : ∀ d ∈ ds, dep n d = true) : dep (n + 1) (.list ds) = true := by
  show (decide (ds.length ≤ 1000) && ds.all (dep n)) = true
  rw [Bool.and_eq_true]
  exact ⟨decide_eq_true hl, List.all_eq_true.mpr h⟩
theorem dep_tup {n : Nat} {ds : List D} (hl : ds.length ≤ 1000) (h : ∀ d ∈ ds, dep n d = true) : dep (n + 1) (.tuple ds) = true := dep_list (ds := ds) hl h
theorem dep_F (x : Rat) : dep 1 (Fq x) = true := rfl
theorem dep_P (p : Pt) : dep 2 (ptD p) = true := rfl
theorem dep_S (s : Sg) : dep 3 (sgD s) = true := rfl
theorem dep_tf (t : Tf) : dep 2 (tfD t) = true := rfl
theorem dep_D {l : List Sg} (h : l.length ≤ 1000) : dep 4 (.list (l.map sgD)) = true := dep_list (by rw [List.length_map]; exact h) fun d hd => by
  obtain ⟨s, _, rfl⟩ := List.mem_map.mp hd
  exact dep_S s
theorem dep_2 {n : Nat} {x y : D} (h1 : dep n x = true) (h2 : dep n y = true) : dep (n + 1) (.tuple [x, y]) = true := by
  show (true && (dep n x && (dep n y && true))) = true
  rw [h1, h2]
  rfl
theorem dep_1 {n : Nat} {x : D} (h1 : dep n x = true) : dep (n + 1) (.tuple [x]) = true := by
  show (true && (dep n x && true)) = true
  rw [h1]
  rfl
theorem dep_told {n : Nat} {x : D} (h1 : dep (n + 1) x = true) : dep (n + 2) (toldD x) = true := by
  show (true && (true && (dep (n + 1) x && true))) = true
  rw [h1]
  rfl
/-! values -/
inductive NoT : D → Prop
  | a {d : D} (h : isTf d = false) (hd : dep 3 d = true) : NoT d
  | b (t : Tf) (n : Nat) (ht : TSz n t) (hn : 4 * n + 1 ≤ 9000) (h : t.det = 0) : NoT (tfD t)
theorem NoT.dep {d : D} (h : NoT d) : dep 3 d = true := by
  cases h with
  | a _ h => exact h
  | b t => exact rfl
theorem NoT.chk {d : D} (h : NoT d) (cV cL : Addr) (nm : Str) : ChkT cV cL nm d (some (BV cV nm)) := by
  cases h with
  | a h _ => exact .no h
  | b t n h1 h2 h3 => exact .flat t n h1 h2 h3
def Long (d : D) : Prop := ∃ t : Tf, d = tfD t ∧ TSz 1000 t ∧ t.det ≠ 0 ∧ figT t = false
theorem Long.chk {d : D} (h : Long d) (cV cL : Addr) (nm : Str) : ChkT cV cL nm d (some (TL cL)) := by
  obtain ⟨t, rfl, h1, h2, h3⟩ := h
  exact .long t 1000 h1 (by decide) h2 h3
theorem Long.dep {d : D} (h : Long d) : dep 2 d = true := by
  obtain ⟨t, rfl, _⟩ := h
  rfl
def NoP (d : D) : Prop := isPt d = false ∧ dep 2 d = true
/-! the refusals -/
theorem r_point_no {no odd : D} (h : NoT no) (ho : dep 3 odd = true) : Asked cl "point" (.tuple [no, odd]) (badD "transform") :=
  ⟨dep_le (by decide) (dep_2 h.dep ho), rfl, _, _, rfl, .inl ⟨rfl, _, _, rfl, _, _, rfl, .inl ⟨_, h.chk _ _ _, erV _ rfl⟩⟩⟩
theorem r_drawing_no {no e : D} (h : NoT no) (he : dep 4 e = true) : Asked cl "drawing" (.tuple [no, e]) (badD "transform") :=
  ⟨dep_2 (dep_up h.dep) he, rfl, _, _, rfl, .inr (.inl ⟨rfl, _, _, rfl, _, _, rfl, .inl ⟨_, h.chk _ _ _, erV _ rfl⟩⟩)⟩
def OneW (w : Str) : Prop := w = "back" ∨ w = "whole" ∨ w = "scale" ∨ w = "order"
theorem r_one_no {w : Str} {no : D} (hw : OneW w) (h : NoT no) : Asked cl w (.tuple [no]) (badD "transform") := by
  refine ⟨dep_le (by decide) (dep_1 h.dep), rfl, _, _, rfl, ?_⟩
  rcases hw with rfl | rfl | rfl | rfl
  · exact .inr (.inr (.inr (.inl ⟨rfl, _, rfl, _, rfl, .inl ⟨_, h.chk _ _ _, erV _ rfl⟩⟩)))
  · exact .inr (.inr (.inr (.inr (.inl ⟨rfl, _, rfl, _, rfl, .inl ⟨_, h.chk _ _ _, erV _ rfl⟩⟩))))
  · exact .inr (.inr (.inr (.inr (.inr (.inl ⟨rfl, _, rfl, _, rfl, .inl ⟨_, h.chk _ _ _, erV _ rfl⟩⟩)))))
  · exact .inr (.inr (.inr (.inr (.inr (.inr (.inl ⟨rfl, _, rfl, _, rfl, .inl ⟨_, h.chk _ _ _, erV _ rfl⟩⟩))))))
theorem r_is_no {no : D} (h : NoT no) : Asked cl "is" (.tuple [no]) (toldD (.bool false)) := by
  refine ⟨dep_le (by decide) (dep_1 h.dep), rfl, _, _, rfl, .inr (.inr (.inr (.inr (.inr (.inr (.inr (.inr ⟨rfl, _, rfl, ?_⟩)))))))⟩
  cases h with
  | a h _ => exact ⟨_, rfl, .inl ⟨h, rfl⟩⟩
  | b t n h1 h2 h3 => exact ⟨_, rfl, .inr ⟨t, n, rfl, h1, h2, by rw [decide_eq_false (fun q => q h3)]⟩⟩
theorem r_point_long {no odd : D} (h : Long no) (ho : dep 3 odd = true) : Asked cl "point" (.tuple [no, odd]) muchD :=
  ⟨dep_le (by decide) (dep_2 (dep_up h.dep) ho), rfl, _, _, rfl, .inl ⟨rfl, _, _, rfl, _, _, rfl, .inl ⟨_, h.chk _ _ _, erL rfl⟩⟩⟩
theorem r_one_long {w : Str} {no : D} (hw : OneW w) (h : Long no) : Asked cl w (.tuple [no]) muchD := by
  refine ⟨dep_le (by decide) (dep_1 h.dep), rfl, _, _, rfl, ?_⟩
  rcases hw with rfl | rfl | rfl | rfl
  · exact .inr (.inr (.inr (.inl ⟨rfl, _, rfl, _, rfl, .inl ⟨_, h.chk _ _ _, erL rfl⟩⟩)))
  · exact .inr (.inr (.inr (.inr (.inl ⟨rfl, _, rfl, _, rfl, .inl ⟨_, h.chk _ _ _, erL rfl⟩⟩))))
  · exact .inr (.inr (.inr (.inr (.inr (.inl ⟨rfl, _, rfl, _, rfl, .inl ⟨_, h.chk _ _ _, erL rfl⟩⟩)))))
  · exact .inr (.inr (.inr (.inr (.inr (.inr (.inl ⟨rfl, _, rfl, _, rfl, .inl ⟨_, h.chk _ _ _, erL rfl⟩⟩))))))
theorem is_yes {t : Tf} {n : Nat} (h1 : TSz n t) (h2 : 4 * n + 1 ≤ 9000) (h3 : t.det ≠ 0) : Asked cl "is" (.tuple [tfD t]) (toldD (.bool true)) :=
  ⟨rfl, rfl, _, _, rfl, .inr (.inr (.inr (.inr (.inr (.inr (.inr (.inr ⟨rfl, _, rfl, _, rfl, .inr ⟨t, n, rfl, h1, h2, by rw [decide_eq_true h3]⟩⟩)))))))⟩
theorem r_is_long {no : D} (h : Long no) : Asked cl "is" (.tuple [no]) (toldD (.bool true)) := by
  obtain ⟨t, rfl, h1, h2, h3⟩ := h
  exact is_yes h1 (by decide) h2
theorem r_drawing_long {no e : D} (h : Long no) (he : dep 4 e = true) : Asked cl "drawing" (.tuple [no, e]) muchD :=
  ⟨dep_2 (dep_le (by decide) h.dep) he, rfl, _, _, rfl, .inr (.inl ⟨rfl, _, _, rfl, _, _, rfl, .inl ⟨_, h.chk _ _ _, erL rfl⟩⟩)⟩
theorem r_point_odd {t : Tf} {odd : D} (h : OkT t) (ho : NoP odd) : Asked cl "point" (.tuple [tfD t, odd]) (badD "p") :=
  ⟨dep_le (by decide) (dep_2 (dep_tf t) ho.2), rfl, _, _, rfl, .inl ⟨rfl, _, _, rfl, _, _, rfl, .inr (.inl ⟨t, _, rfl, h, .no ho.1, erV _ rfl⟩)⟩⟩
theorem r_point_far {t : Tf} {q : Pt} (h : OkT t) (hq : figP q = false) : Asked cl "point" (.tuple [tfD t, ptD q]) muchD :=
  ⟨dep_le (by decide) (dep_2 (dep_tf t) (dep_P q)), rfl, _, _, rfl, .inl ⟨rfl, _, _, rfl, _, _, rfl, .inr (.inl ⟨t, _, rfl, h, .long q hq, erL rfl⟩)⟩⟩
theorem r_drawing_tup {t : Tf} {e : D} (h : OkT t) (he : isL e = false) (hd : dep 4 e = true) : Asked cl "drawing" (.tuple [tfD t, e]) (badD "drawing") :=
  ⟨dep_2 (dep_le (by decide) (dep_tf t)) hd, rfl, _, _, rfl, .inr (.inl ⟨rfl, _, _, rfl, _, _, rfl, .inr (.inl ⟨t, _, rfl, h, .no he, erV _ rfl⟩)⟩)⟩
theorem r_drawing_seg {t : Tf} {p : Pt} {odd : D} (h : OkT t) (ho : NoP odd) : Asked cl "drawing" (.tuple [tfD t, .list [.tuple [ptD p, ptD p], .tuple [ptD p, odd]]]) (raisedD "BadSegment" [.int 1]) := by
  refine ⟨dep_2 (dep_le (by decide) (dep_tf t)) (dep_list (by show 2 ≤ 1000; decide) fun d hd => ?_), rfl, _, _, rfl, .inr (.inl ⟨rfl, _, _, rfl, _, _, rfl, .inr (.inl ⟨t, _, rfl, h, .bad _ 1 (.tuple [ptD p, odd]) (by show 2 ≤ 1000; decide) (fun j y hj e => ?_) rfl ?_, erS 1 rfl⟩)⟩)⟩
  · rcases List.mem_cons.mp hd with rfl | hd
    · exact dep_S ⟨p, p⟩
    rcases List.mem_cons.mp hd with rfl | hd
    · exact dep_2 (dep_P p) ho.2
    · exact absurd hd List.not_mem_nil
  · have hj0 : j = 0 := by omega
    subst hj0
    have e2 : PyData.tuple [ptD p, ptD p] = y := Option.some.inj e
    rw [← e2]
    exact isSg_sgD ⟨p, p⟩
  · show (isPt (ptD p) && isPt odd) = false
    rw [ho.1, Bool.and_false]
theorem r_chain_b {t : Tf} {no : D} (h : OkT t) (hn : NoT no) : Asked cl "chain" (.tuple [tfD t, no]) (badD "second") :=
  ⟨dep_le (by decide) (dep_2 (dep_up (dep_tf t)) hn.dep), rfl, _, _, rfl, .inr (.inr (.inl ⟨rfl, _, _, rfl, _, _, rfl, .inr (.inl ⟨t, _, rfl, h, hn.chk _ _ _, erV _ rfl⟩)⟩))⟩
theorem r_chain_a {no no' : D} (hn : NoT no) (hd : dep 3 no' = true) : Asked cl "chain" (.tuple [no, no']) (badD "first") :=
  ⟨dep_le (by decide) (dep_2 hn.dep hd), rfl, _, _, rfl, .inr (.inr (.inl ⟨rfl, _, _, rfl, _, _, rfl, .inl ⟨_, hn.chk _ _ _, erV _ rfl⟩⟩))⟩
theorem r_chain_la {no no' : D} (hn : Long no) (hd : dep 3 no' = true) : Asked cl "chain" (.tuple [no, no']) muchD :=
  ⟨dep_le (by decide) (dep_2 (dep_up hn.dep) hd), rfl, _, _, rfl, .inr (.inr (.inl ⟨rfl, _, _, rfl, _, _, rfl, .inl ⟨_, hn.chk _ _ _, erL rfl⟩⟩))⟩
theorem r_chain_lb {t : Tf} {no : D} (h : OkT t) (hn : Long no) : Asked cl "chain" (.tuple [tfD t, no]) muchD :=
  ⟨dep_le (by decide) (dep_2 (dep_tf t) hn.dep), rfl, _, _, rfl, .inr (.inr (.inl ⟨rfl, _, _, rfl, _, _, rfl, .inr (.inl ⟨t, _, rfl, h, hn.chk _ _ _, erL rfl⟩)⟩))⟩
theorem r_drawing_far {t : Tf} {p q : Pt} (h : OkT t) (hq : wFig 150 q.x = false) : Asked cl "drawing" (.tuple [tfD t, .list [.tuple [ptD p, ptD q]]]) muchD :=
  ⟨rfl, rfl, _, _, rfl, .inr (.inl ⟨rfl, _, _, rfl, _, _, rfl, .inr (.inl ⟨t, _, rfl, h, .long [⟨p, q⟩] (by show 1 ≤ 1000; decide) (by
    show (wFig 150 p.x && (wFig 150 p.y && (wFig 150 q.x && (wFig 150 q.y && true)))) = false
    rw [hq]
    simp), erL rfl⟩)⟩)⟩
theorem flat_rep (p : Pt) (n : Nat) : (List.replicate n [PyData.tuple [ptD p, ptD p]]).flatten = (List.replicate n (⟨p, p⟩ : Sg)).map sgD := by
  induction n with
  | zero => rfl
  | succ n ih =>
    rw [List.replicate_succ, List.replicate_succ, List.flatten_cons, List.map_cons, ih]
    rfl
theorem long_rep {s : Sg} (h : longD [s] = true) (n : Nat) : longD (List.replicate n s) = true := by
  unfold longD at h ⊢
  rw [all_id', List.all_eq_true] at h ⊢
  intro x hx
  obtain ⟨y, hy, hx⟩ := List.mem_flatMap.mp hx
  rw [List.eq_of_mem_replicate hy] at hx
  exact h x (List.mem_flatMap.mpr ⟨s, List.mem_cons_self, hx⟩)
theorem r_drawing_many {t : Tf} {p : Pt} (h : OkT t) (hp : PSz 5 p) : Asked cl "drawing" (.tuple [tfD t, .list (List.replicate 201 [PyData.tuple [ptD p, ptD p]]).flatten]) (raisedD "TooMany" [.str "segments"]) := by
  have hf : ∀ {x : Rat}, Sz 5 x → wFig 150 x = true := fun q => fig_of q (by decide +kernel)
  have hl : longD [⟨p, p⟩] = true := by
    show (wFig 150 p.x && (wFig 150 p.y && (wFig 150 p.x && (wFig 150 p.y && true)))) = true
    rw [hf hp.1, hf hp.2]
    rfl
  rw [flat_rep]
  exact ⟨dep_2 (dep_le (by decide) (dep_tf t)) (dep_D (by rw [List.length_replicate]; decide)), rfl, _, _, rfl, .inr (.inl ⟨rfl, _, _, rfl, _, _, rfl, .inr (.inl ⟨t, _, rfl, h, .many _ (by rw [List.length_replicate]; decide) (long_rep hl _) (by rw [List.length_replicate]; decide), erM rfl⟩)⟩)⟩
/-! three points -/
inductive NoH : D → Prop
  | a {d : D} (h : isTh d = false) (hd : dep 4 d = true) : NoH d
  | b (p q r : Pt) (n : Nat) (hn : n ≤ 9000) (hp : PSz n p) (hq : PSz n q) (hr : PSz n r) (h : tri p q r = 0) : NoH (th p q r)
theorem NoH.dep {d : D} (h : NoH d) : dep 4 d = true := by
  cases h with
  | a _ h => exact h
  | b => exact rfl
theorem NoH.chk {d : D} (h : NoH d) (cV cL : Addr) (nm : Str) : ChkH cV cL nm d (some (BV cV nm)) := by
  cases h with
  | a h _ => exact .no h
  | b p q r n h1 h2 h3 h4 h5 => exact .flat p q r n h1 h2 h3 h4 h5
/-- three points that pass -/
structure Thr (n : Nat) (p q r : Pt) : Prop where
  hp : PSz n p
  hq : PSz n q
  hr : PSz n r
  ht : tri p q r ≠ 0
  hf : (figP p && (figP q && figP r)) = true
theorem Thr.chk {n : Nat} {p q r : Pt} (h : Thr n p q r) (hn : n ≤ 9000) (cV cL : Addr) (nm : Str) : ChkH cV cL nm (th p q r) none := .ok p q r n hn h.hp h.hq h.hr h.ht h.hf
theorem r_three_a {no e : D} (h : NoH no) (he : dep 4 e = true) : Asked cl "three" (.tuple [no, e]) (badD "points") :=
  ⟨dep_2 h.dep he, rfl, _, _, rfl, .inr (.inr (.inr (.inr (.inr (.inr (.inr (.inl ⟨rfl, _, _, rfl, _, _, rfl, .inl ⟨_, h.chk _ _ _, erV _ rfl⟩⟩)))))))⟩
theorem r_three_b {n : Nat} {p q r : Pt} {no : D} (ht : Thr n p q r) (hn : n ≤ 9000) (h : NoH no) : Asked cl "three" (.tuple [th p q r, no]) (badD "images") :=
  ⟨dep_2 rfl h.dep, rfl, _, _, rfl, .inr (.inr (.inr (.inr (.inr (.inr (.inr (.inl ⟨rfl, _, _, rfl, _, _, rfl, .inr (.inl ⟨_, ht.chk hn _ _ _, h.chk _ _ _, erV _ rfl⟩)⟩)))))))⟩
theorem r_three_c {n : Nat} {p q r : Pt} {e : D} (hn : n ≤ 9000) (hp : PSz n p) (hq : PSz n q) (hr : PSz n r) (h : tri p q r ≠ 0) (hf : (figP p && (figP q && figP r)) = false) (he : dep 4 e = true) : Asked cl "three" (.tuple [th p q r, e]) muchD :=
  ⟨dep_2 rfl he, rfl, _, _, rfl, .inr (.inr (.inr (.inr (.inr (.inr (.inr (.inl ⟨rfl, _, _, rfl, _, _, rfl, .inl ⟨_, .long p q r n hn hp hq hr h hf, erL rfl⟩⟩)))))))⟩
theorem r_three_d {m n : Nat} {u v w p q r : Pt} (ht : Thr m u v w) (hm : m ≤ 9000) (hn : n ≤ 9000) (hp : PSz n p) (hq : PSz n q) (hr : PSz n r) (h : tri p q r ≠ 0) (hf : (figP p && (figP q && figP r)) = false) : Asked cl "three" (.tuple [th u v w, th p q r]) muchD :=
  ⟨rfl, rfl, _, _, rfl, .inr (.inr (.inr (.inr (.inr (.inr (.inr (.inl ⟨rfl, _, _, rfl, _, _, rfl, .inr (.inl ⟨_, ht.chk hm _ _ _, .long p q r n hn hp hq hr h hf, erL rfl⟩)⟩)))))))⟩
/-! the answers -/
theorem y_point {t : Tf} {p : Pt} (h : OkT t) (hp : figP p = true) : Asked cl "point" (.tuple [tfD t, ptD p]) (toldD (ptD (t.on p))) :=
  ⟨rfl, rfl, _, _, rfl, .inl ⟨rfl, _, _, rfl, _, _, rfl, .inr (.inr ⟨t, p, rfl, h, rfl, hp, rfl⟩)⟩⟩
theorem y_drawing {t : Tf} {l : List Sg} (h : OkT t) (hl : longD l = true) (hz : l.length ≤ 40) : Asked cl "drawing" (.tuple [tfD t, .list (l.map sgD)]) (toldD (.list ((l.map (Sg.by t)).map sgD))) :=
  ⟨dep_2 (dep_le (by decide) (dep_tf t)) (dep_D (by omega)), dep_told (dep_D (by rw [List.length_map]; omega)), _, _, rfl, .inr (.inl ⟨rfl, _, _, rfl, _, _, rfl, .inr (.inr ⟨t, l, rfl, h, rfl, hl, hz, rfl⟩)⟩)⟩
theorem y_chain {t s : Tf} (h : OkT t) (hs : OkT s) : Asked cl "chain" (.tuple [tfD t, tfD s]) (toldD (tfD (t.chain s))) :=
  ⟨rfl, rfl, _, _, rfl, .inr (.inr (.inl ⟨rfl, _, _, rfl, _, _, rfl, .inr (.inr ⟨t, s, rfl, h, rfl, hs, rfl⟩)⟩))⟩
theorem y_back {t : Tf} (h : OkT t) : Asked cl "back" (.tuple [tfD t]) (toldD (tfD t.inv)) :=
  ⟨rfl, rfl, _, _, rfl, .inr (.inr (.inr (.inl ⟨rfl, _, rfl, _, rfl, .inr ⟨t, rfl, h, rfl⟩⟩)))⟩
theorem y_whole {t : Tf} (h : OkT t) : Asked cl "whole" (.tuple [tfD t]) (toldD (Fq t.det)) :=
  ⟨rfl, rfl, _, _, rfl, .inr (.inr (.inr (.inr (.inl ⟨rfl, _, rfl, _, rfl, .inr ⟨t, rfl, h, rfl⟩⟩))))⟩
theorem dep_opt (o : Option Rat) : dep 1 (optD o) = true := by cases o <;> rfl
theorem y_scale {t : Tf} (h : OkT t) : Asked cl "scale" (.tuple [tfD t]) (toldD (optD t.scale)) :=
  ⟨rfl, dep_le (by decide) (dep_told (n := 0) (dep_opt _)), _, _, rfl, .inr (.inr (.inr (.inr (.inr (.inl ⟨rfl, _, rfl, _, rfl, .inr ⟨t, rfl, h, rfl⟩⟩)))))⟩
theorem dep_ord (t : Tf) : ∀ n i, dep 1 (ordF t i n) = true
  | 0, _ => rfl
  | n + 1, i => by
    show dep 1 (if pw t (i + 1) = .unit then _ else ordF t (i + 1) n) = true
    by_cases h : pw t (i + 1) = .unit
    · rw [if_pos h]; rfl
    · rw [if_neg h]; exact dep_ord t n (i + 1)
theorem y_order {t : Tf} {m n : Nat} (h : OkT t) (hm : TSz m t) (hp : ∀ i, i < 6 → TSz n (pw t i)) (l : 3 * m + 2 * n + 2 ≤ 9000) : Asked cl "order" (.tuple [tfD t]) (toldD (ordF t 0 12)) := by
  rw [← ordF_same]
  exact ⟨rfl, dep_le (by decide) (dep_told (n := 0) (dep_ord _ _ _)), _, _, rfl, .inr (.inr (.inr (.inr (.inr (.inr (.inl ⟨rfl, _, rfl, _, rfl, .inr ⟨t, m, rfl, h, hm, fun i hi => ⟨n, hp i hi, l⟩, rfl⟩⟩))))))⟩
theorem y_three {t : Tf} {p q r : Pt} {m n j : Nat} (ht : Thr m p q r) (hs : Thr n (t.on p) (t.on q) (t.on r)) (j1 : PSz j ((t.on q).sub (t.on p))) (j2 : PSz j ((t.on r).sub (t.on p))) (l0 : m ≤ 9000) (l1 : 2 * m + 1 ≤ j) (l2 : 24 * j + 2 * m + 7 ≤ 9000) (l3 : 18 * j + 2 * m + n + 20 ≤ 9000) (l4 : 2 * n + 1 ≤ 9000) :
    Asked cl "three" (.tuple [th p q r, th (t.on p) (t.on q) (t.on r)]) (toldD (tfD t)) :=
  ⟨rfl, rfl, _, _, rfl, .inr (.inr (.inr (.inr (.inr (.inr (.inr (.inl ⟨rfl, _, _, rfl, _, _, rfl, .inr (.inr ⟨p, q, r, _, _, _, m, n, j, rfl, rfl, ht.chk l0 _ _ _, hs.chk (by omega) _ _ _, ht.hp, ht.hq, ht.hr, hs.hp, hs.hq, hs.hr, j1, j2, ht.ht, l1, l2, l3, l4, by rw [of_on ht.ht]⟩)⟩)))))))⟩
end K88
/-! T22 -/
namespace K88
open PySem PySem.Spec PyProof.Rows L2 AL
local macro_rules | `(tactic| walk_at "bd") => `(tactic| first
  | assumption
  | (apply Sz.n; assumption)
  | (apply Sz.d; assumption)
  | ((with_reducible apply lt_mul); (case h1 => walk_at "bd"); (case h2 => walk_at "bd"))
  | ((with_reducible apply lt_addx); (case h1 => walk_at "bd"); (case h2 => walk_at "bd"))
  | ((with_reducible apply lt_subx); (case h1 => walk_at "bd"); (case h2 => walk_at "bd"))
  | ((with_reducible apply lt_neg); (case h => walk_at "bd")))
local macro_rules | `(tactic| walk_at "nz") => `(tactic| first
  | assumption
  | exact dnz _
  | ((with_reducible apply inz); (case h1 => walk_at "nz"); (case h2 => walk_at "nz")))
local macro_rules | `(tactic| walk_at "w") => `(tactic| repeat (first
  | with_reducible apply w_int
  | ((with_reducible apply w_var); (case h => exact rfl))
  | with_reducible apply wl_cons
  | with_reducible apply wl_nil
  | ((with_reducible refine And.intro (Nat.le_of_ble_eq_true ?hlen) ?_); (case hlen => exact rfl))
  | with_reducible apply w_tup
  | with_reducible apply w_op
  | with_reducible apply s_seq
  | ((with_reducible apply wa_consO); (case h => exact rfl))
  | with_reducible apply wa_cons
  | with_reducible apply wa_nil
  | with_reducible apply ru_i
  | with_reducible apply w_un
  | with_reducible apply s_asg
  | with_reducible apply w_call0
  | with_reducible apply w_callD2
  | with_reducible apply w_callD1
  | ((with_reducible apply w_callX0); (case hz => exact rfl))
  | ((with_reducible apply w_callXS); (case hz => exact rfl))
  | with_reducible apply w_callZ
  | with_reducible apply b_addI
  | ((with_reducible apply rb_ixT); (case e => exact rfl))
  | ((with_reducible apply rb_ixL); (case e => exact rfl))
  | with_reducible apply w_str
  | with_reducible apply w_lst
  | with_reducible apply w_sl
  | with_reducible apply o_none
  | with_reducible apply o_some
  | with_reducible apply sG_T
  | with_reducible apply sG_L
  | ((with_reducible apply s_app); (case e => exact rfl))
  | with_reducible apply s_drop
  | with_reducible apply w_if
  | with_reducible apply p_if
  | with_reducible apply t_test
  | with_reducible apply b_eqI
  | with_reducible apply s_next
  | with_reducible apply p_ret
  | ((with_reducible apply b_mulI); (case hc => (apply mulx; (case h1 => walk_at "bd"); (case h2 => walk_at "bd"); (case h => omega))))
  | with_reducible apply b_sub
  | with_reducible apply s_raiseK
  | with_reducible apply w_isT
  | with_reducible apply w_isL
  | with_reducible apply w_isI
  | with_reducible apply w_isB
  | with_reducible apply w_isS
  | with_reducible apply w_isN
  | with_reducible apply w_notN
  | with_reducible apply w_or
  | with_reducible apply w_and
  | with_reducible apply w_not
  | with_reducible apply w_chain
  | with_reducible apply w_bmL
  | with_reducible apply w_bmS
  | ((with_reducible apply w_isR); (case h => exact rfl); (case e => assumption))
  | ((with_reducible apply w_isV); (case h => exact rfl); (case e => assumption))
  | with_reducible apply w_cb
  | with_reducible apply t_or
  | with_reducible apply t_and
  | with_reducible apply t_not
  | with_reducible apply t_yes
  | ((with_reducible apply b_addT); (case hz => exact Nat.le_of_ble_eq_true rfl))
  | ((with_reducible apply b_addL); (case hz => exact Nat.le_of_ble_eq_true rfl))
  | with_reducible apply s_break
  | with_reducible apply rb_b
  | with_reducible apply t_truthI
  | with_reducible apply b_neI
  | with_reducible apply b_eqS
  | with_reducible apply b_eqB
  | with_reducible apply b_neB
  | with_reducible apply w_bl
  | with_reducible apply w_non
  | with_reducible apply t_B
  | with_reducible apply m_lst
  | ((with_reducible apply m_catO); (case e => exact rfl))
  | with_reducible apply m_cat
  | with_reducible apply m_list
  | with_reducible apply w_lcLU
  | with_reducible apply w_lcTU
  | with_reducible apply s_forTU
  | with_reducible apply s_forLU
  | (with_reducible apply lcU_nil)
  | (with_reducible apply unr_nil)
  | with_reducible apply unr_one
  | ((with_reducible show LcU _ _ _ _ _ _ _ _ _); (refine lcU_one rfl (Nat.lt_of_succ_le (Nat.le_of_ble_eq_true rfl)) ?_))
  | ((with_reducible show (_ = true → _) ∧ (_ = false → _)); (first | refine ybt rfl ?_ | refine ybf rfl ?_))
  | ((with_reducible show (_ = false → _) ∧ (_ = true → _)); (first | refine obt rfl ?_ | refine obf rfl ?_))
  | with_reducible apply yt
  | with_reducible apply yf
  | with_reducible apply fy
  | with_reducible apply ft
  | ((with_reducible apply f_frz); (case e => exact rfl))
  | with_reducible apply s_asgG
  | (refine Exists.intro _ (And.intro (g_lst (by repeat (first | exact gs_nil | apply gs_one)) rfl) ?_))
  | (refine Exists.intro _ (And.intro (g_tup (by repeat (first | exact gs_nil | apply gs_one)) rfl) ?_))
  | with_reducible apply c_lenL
  | with_reducible apply c_lenT
  | with_reducible apply c_listL
  | with_reducible apply c_listT
  | with_reducible apply c_tupL
  | with_reducible apply c_abs
  | with_reducible apply c_int
  | with_reducible apply c_min
  | with_reducible apply rc_gcd
  | with_reducible apply rb_b
  | (refine And.intro (Nat.lt_of_succ_le (Nat.le_of_ble_eq_true rfl)) ?_)
  | with_reducible refine Exists.intro _ (And.intro rfl ?_)
  | refine And.intro (Nat.le_of_ble_eq_true rfl) ?_
  ))
variable {P : Program} {w : World} {K : PySem.W.Frag} {mg : Str → Option Value} {base : Heap}
variable {S : Zs}
theorem isTf_bad {ds : List D} {x : D} (hx : x ∈ ds) (h : isFr x = false) : isTf (.tuple ds) = false := by
  cases e : isTf (.tuple ds) with
  | false => rfl
  | true =>
    obtain ⟨t, ht⟩ := tfD_of e
    injection ht with ht
    subst ht
    have h2 : isFr x = true := by
      simp only [List.mem_cons, List.not_mem_nil, or_false] at hx
      rcases hx with rfl | rfl | rfl | rfl | rfl | rfl <;> exact isFr_Fq _
    rw [h] at h2
    cases h2
theorem mem_cut {ds : List D} {lo hi : Option Int} {x : D} (h : x ∈ cutP ds lo hi) : x ∈ ds := List.mem_of_mem_drop (List.mem_of_mem_take h)
theorem cut_len (ds : List D) (lo hi : Option Int) : (cutP ds lo hi).length ≤ ds.length := by
  unfold cutP
  rw [List.length_take, List.length_drop]
  omega
def okOdd (d : D) : Bool := !isFr d && dep 2 d
theorem odd_no {t : Tf} {o : D} {lo hi : Option Int} (h : okOdd o = true) : NoT (.tuple (cutP [Fq t.a, Fq t.b, Fq t.c, Fq t.d, Fq t.e, Fq t.f] none hi ++ [o] ++ cutP [Fq t.a, Fq t.b, Fq t.c, Fq t.d, Fq t.e, Fq t.f] lo none)) := by
  unfold okOdd at h
  rw [Bool.and_eq_true] at h
  have ho : isFr o = false := by simpa using h.1
  refine .a (isTf_bad (x := o) (by simp) ho) (dep_tup ?_ fun d hd => ?_)
  · have h1 := cut_len [Fq t.a, Fq t.b, Fq t.c, Fq t.d, Fq t.e, Fq t.f] none hi
    have h2 := cut_len [Fq t.a, Fq t.b, Fq t.c, Fq t.d, Fq t.e, Fq t.f] lo none
    have h3 : [Fq t.a, Fq t.b, Fq t.c, Fq t.d, Fq t.e, Fq t.f].length = 6 := rfl
    rw [List.length_append, List.length_append]
    rw [h3] at h1 h2
    show _ + 1 + _ ≤ 1000
    omega
  · have fr : ∀ x ∈ [Fq t.a, Fq t.b, Fq t.c, Fq t.d, Fq t.e, Fq t.f], dep 2 x = true := fun x hx => by
      simp only [List.mem_cons, List.not_mem_nil, or_false] at hx
      rcases hx with rfl | rfl | rfl | rfl | rfl | rfl <;> exact rfl
    rcases List.mem_append.mp hd with hd | hd
    · rcases List.mem_append.mp hd with hd | hd
      · exact fr d (mem_cut hd)
      · rw [show d = o from by simpa using hd]
        exact h.2
    · exact fr d (mem_cut hd)
theorem okOdds {ds : List D} (h : ds.all okOdd = true) {d : D} (hd : d ∈ ds) : okOdd d = true := List.all_eq_true.mp h d hd
def c_no (s : Zs) : Con := fun as k => ∃ t : Tf, as = [.o (.ref s.a), .i (tfD t)] ∧ TSz 499 t ∧ ∀ d, NoT d → k d
theorem add_T {Γ : Gam} {k : D → Prop} {xs ys : List D} (hx : xs.length ≤ 50 ∧ ys.length ≤ 50) (q : k (.tuple (xs ++ ys))) : RB Γ (rAddG Γ.K) (.tuple xs) (.tuple ys) k := b_addT (by omega) q
abbrev n__law_no_transform : List Str := ["stream", "t", "way", "at", "odd"]
abbrev s__law_no_transform : Stmt := top 125
theorem sc__law_no_transform : FnScope ["stream", "t", "way", "at", "odd"] ["stream", "t"] (defScope s__law_no_transform) := ⟨rfl, rfl, rfl, by decide +kernel, rfl, by decide +kernel, by decide +kernel⟩
theorem h__law_no_transform (B : Bl mg) (d : DefAt K mg "_law_no_transform" s__law_no_transform []) (h__law_pick : Has P w K mg base CX0 "_law_pick" 2 [] (spOf K (some S) (c_pick S))) (h__law_mul : Has P w K mg base CX0 "_law_mul" 3 [] (spOf K none (c_mul))) (h__law_next : Has P w K mg base CX0 "_law_next" 1 [] (spOf K (some S) (c_next S))) : Has P w K mg base CX0 "_law_no_transform" 4 [] (spOf K (some S) (c_no S)) := by
  refine d.pure sc__law_no_transform (fun _ _ _ _ _ _ us hl => match us, hl with | [_, _], _ => rfl) 3 rfl (fun as k ⟨_, e, _⟩ => by rw [e]; rfl) fun f cdv A outer s H E hr => ⟨_, (pss_cons (ps_set (i := 2) sc__law_no_transform.nd rfl (Or.inl rfl) (pe_has h__law_next (hr.mono (by decide)) pass0 (pa_cons (pv 0) (pa_cons pe_int pa_nil))))
      (pss_cons (ps_if (pt_cmpR op_lt (pv 2) pe_int (nomark _)) (pss_cons (ps_set (i := 3) sc__law_no_transform.nd rfl (Or.inl rfl) (pe_has h__law_next (hr.mono (by decide)) pass0 (pa_cons (pv 0) (pa_cons pe_int pa_nil))))
      (pss_cons (ps_set (i := 4) sc__law_no_transform.nd rfl (Or.inl rfl) (pe_has h__law_pick (hr.mono (by decide)) pass0 (pa_cons (pv 0) (pa_cons (pe_tup (pa_cons (pe_tup (pa_cons pe_int (pa_cons pe_int pa_nil))) (pa_cons (pe_tup (pa_cons pe_int (pa_cons pe_int pa_nil))) (pa_cons (pe_tup (pa_cons pe_int (pa_cons (pe_un un_neg pe_int) pa_nil))) (pa_cons (pe_tup (pa_cons pe_bl (pa_cons pe_int pa_nil))) (pa_cons (pe_tup (pa_cons pe_int (pa_cons pe_bl pa_nil))) (pa_cons pe_int (pa_cons pe_non (pa_cons (pe_lst (pa_cons pe_int (pa_cons pe_int pa_nil))) (pa_cons (pe_tup (pa_cons pe_int (pa_cons pe_int pa_nil))) (pa_cons (pe_tup (pa_cons pe_int pa_nil)) (pa_cons (pe_tup (pa_cons pe_int (pa_cons pe_int (pa_cons pe_int pa_nil)))) (pa_cons pe_str pa_nil))))))))))))) pa_nil))))
      (pss_one (ps_ret (pe_op (kAdd (K := K)) (pe_op (kAdd (K := K)) (pe_slice (kSl (K := K)) (pv 1) po_none (po_some (pv 3))) (pe_tup (pa_cons (pv 4) pa_nil))) (pe_slice (kSl (K := K)) (pv 1) (po_some (pe_op (kAdd (K := K)) (pv 3) pe_int)) po_none)))))) pss_nil)
      (pss_cons (ps_if (pt_cmpR (kEq (K := K) hr.units) (pv 2) pe_int (nomark _)) (pss_one (ps_ret (pe_tup (pa_cons (pe_ix (kIx (K := K)) (pv 1) pe_int (fun _ _ => rfl)) (pa_cons (pe_ix (kIx (K := K)) (pv 1) pe_int (fun _ _ => rfl)) (pa_cons (pe_has h__law_mul (hr.mono (by decide)) pass0 (pa_cons (pe_ix (kIx (K := K)) (pv 1) pe_int (fun _ _ => rfl)) (pa_cons (pe_tup (pa_cons pe_int (pa_cons pe_int pa_nil))) pa_nil))) (pa_cons (pe_has h__law_mul (hr.mono (by decide)) pass0 (pa_cons (pe_ix (kIx (K := K)) (pv 1) pe_int (fun _ _ => rfl)) (pa_cons (pe_tup (pa_cons pe_int (pa_cons pe_int pa_nil))) pa_nil))) (pa_cons (pe_ix (kIx (K := K)) (pv 1) pe_int (fun _ _ => rfl)) (pa_cons (pe_ix (kIx (K := K)) (pv 1) pe_int (fun _ _ => rfl)) pa_nil))))))))) pss_nil)
      (pss_one (ps_ret (pe_has h__law_pick (hr.mono (by decide)) pass0 (pa_cons (pv 0) (pa_cons (pe_tup (pa_cons (pe_callTy (kList (K := K)) (by rfl) B.list (by decide +kernel) (pa_cons (pv 1) pa_nil)) (pa_cons (pe_slice (kSl (K := K)) (pv 1) po_none (po_some pe_int)) (pa_cons (pe_op (kAdd (K := K)) (pv 1) (pe_slice (kSl (K := K)) (pv 1) po_none (po_some pe_int))) (pa_cons pe_non (pa_cons (pe_tup pa_nil) (pa_cons (pe_tup (pa_cons (pe_slice (kSl (K := K)) (pv 1) po_none (po_some pe_int)) (pa_cons (pe_slice (kSl (K := K)) (pv 1) (po_some pe_int) po_none) pa_nil))) (pa_cons (pe_ix (kIx (K := K)) (pv 1) pe_int (fun _ _ => rfl)) (pa_cons pe_str (pa_cons pe_bl pa_nil)))))))))) pa_nil)))))))), fun as k hc => ?_⟩
  try dsimp only [cxOf]
  clear hr E H s outer A cdv f d B
  obtain ⟨t, rfl, ht, q⟩ := hc
  simp only [st0, List.map_cons, List.map_nil, List.replicate, List.cons_append, List.nil_append]
  walk_at "w"
  refine ⟨_, rfl, by decide, lt_9000 (by decide) (by decide), fun way way1 way2 => ?_⟩
  walk_at "w"
  refine yn (fun hw => ?_) (fun hw => ?_)
  · walk_at "w"
    refine ⟨_, rfl, by decide, lt_9000 (by decide) (by decide), fun at_ at_1 at_2 => ?_⟩
    walk_at "w"
    refine ⟨_, _, rfl, .inl rfl, (by show _ < _; decide), (by show _ ≤ _; decide), fun d hd => ?_⟩
    have ho := okOdds (by decide +kernel) hd
    have hat : at_ = 0 ∨ at_ = 1 ∨ at_ = 2 ∨ at_ = 3 ∨ at_ = 4 ∨ at_ = 5 := by omega
    rcases hat with rfl | rfl | rfl | rfl | rfl | rfl
    all_goals
      walk_at "w"
      exact q _ (odd_no ho)
  · walk_at "w"
    refine yn (fun hw => ?_) (fun hw => ?_)
    · walk_at "w"
      refine ⟨t.a, mkRat 3 2, 499, 3, rfl, ht.a, by decide +kernel, by decide, trivial, ?_⟩
      walk_at "w"
      refine ⟨t.b, mkRat 3 2, 499, 3, rfl, ht.b, by decide +kernel, by decide, trivial, ?_⟩
      walk_at "w"
      refine q _ (.b ⟨t.a, t.b, t.a * mkRat 3 2, t.b * mkRat 3 2, t.e, t.f⟩ 502 ⟨ht.a.mono (by decide), ht.b.mono (by decide), ht.a.mul (b := 3) (by decide +kernel), ht.b.mul (b := 3) (by decide +kernel), ht.e.mono (by decide), ht.f.mono (by decide)⟩ (by decide) ?_)
      simp only [Tf.det]
      grind
    · walk_at "w"
      refine ⟨_, _, rfl, .inl rfl, (by show 0 < 9; decide), (by show 9 ≤ 1000; decide), fun d hd => q d ?_⟩
      simp only [List.mem_cons, List.not_mem_nil, or_false] at hd
      rcases hd with rfl | rfl | rfl | rfl | rfl | rfl | rfl | rfl | rfl <;> exact .a rfl rfl
end K88
/-! T23 -/
namespace K88
open PySem PySem.Spec PyProof.Rows L2 AL
local macro_rules | `(tactic| walk_at "bd") => `(tactic| first
  | assumption
  | (apply Sz.n; assumption)
  | (apply Sz.d; assumption)
  | ((with_reducible apply lt_mul); (case h1 => walk_at "bd"); (case h2 => walk_at "bd"))
  | ((with_reducible apply lt_addx); (case h1 => walk_at "bd"); (case h2 => walk_at "bd"))
  | ((with_reducible apply lt_subx); (case h1 => walk_at "bd"); (case h2 => walk_at "bd"))
  | ((with_reducible apply lt_neg); (case h => walk_at "bd")))
local macro_rules | `(tactic| walk_at "nz") => `(tactic| first
  | assumption
  | exact dnz _
  | ((with_reducible apply inz); (case h1 => walk_at "nz"); (case h2 => walk_at "nz")))
local macro_rules | `(tactic| walk_at "w") => `(tactic| repeat (first
  | with_reducible apply w_int
  | ((with_reducible apply w_var); (case h => exact rfl))
  | with_reducible apply wl_cons
  | with_reducible apply wl_nil
  | ((with_reducible refine And.intro (Nat.le_of_ble_eq_true ?hlen) ?_); (case hlen => exact rfl))
  | with_reducible apply w_tup
  | with_reducible apply w_op
  | with_reducible apply s_seq
  | ((with_reducible apply wa_consO); (case h => exact rfl))
  | with_reducible apply wa_cons
  | with_reducible apply wa_nil
  | with_reducible apply ru_i
  | with_reducible apply w_un
  | with_reducible apply s_asg
  | with_reducible apply w_call0
  | with_reducible apply w_callD2
  | with_reducible apply w_callD1
  | ((with_reducible apply w_callX0); (case hz => exact rfl))
  | ((with_reducible apply w_callXS); (case hz => exact rfl))
  | with_reducible apply w_callZ
  | with_reducible apply b_addI
  | ((with_reducible apply rb_ixT); (case e => exact rfl))
  | ((with_reducible apply rb_ixL); (case e => exact rfl))
  | with_reducible apply w_str
  | with_reducible apply w_lst
  | with_reducible apply w_sl
  | with_reducible apply o_none
  | with_reducible apply o_some
  | with_reducible apply sG_T
  | with_reducible apply sG_L
  | ((with_reducible apply s_app); (case e => exact rfl))
  | with_reducible apply s_drop
  | with_reducible apply w_if
  | with_reducible apply p_if
  | with_reducible apply t_test
  | with_reducible apply b_eqI
  | with_reducible apply s_next
  | with_reducible apply p_ret
  | ((with_reducible apply b_mulI); (case hc => (apply mulx; (case h1 => walk_at "bd"); (case h2 => walk_at "bd"); (case h => omega))))
  | ((with_reducible apply b_mulL); (case h0 => decide); (case hz => (show 1 * 201 ≤ 100000; decide)))
  | with_reducible apply b_sub
  | with_reducible apply s_raiseK
  | with_reducible apply w_isT
  | with_reducible apply w_isL
  | with_reducible apply w_isI
  | with_reducible apply w_isB
  | with_reducible apply w_isS
  | with_reducible apply w_isN
  | with_reducible apply w_notN
  | with_reducible apply w_or
  | with_reducible apply w_and
  | with_reducible apply w_not
  | with_reducible apply w_chain
  | with_reducible apply w_bmL
  | with_reducible apply w_bmS
  | ((with_reducible apply w_isR); (case h => exact rfl); (case e => assumption))
  | ((with_reducible apply w_isV); (case h => exact rfl); (case e => assumption))
  | with_reducible apply w_cb
  | with_reducible apply t_or
  | with_reducible apply t_and
  | with_reducible apply t_not
  | with_reducible apply t_yes
  | ((with_reducible apply b_addT); (case hz => exact Nat.le_of_ble_eq_true rfl))
  | ((with_reducible apply b_addL); (case hz => exact Nat.le_of_ble_eq_true rfl))
  | with_reducible apply s_break
  | with_reducible apply rb_b
  | with_reducible apply t_truthI
  | with_reducible apply b_neI
  | with_reducible apply b_eqS
  | with_reducible apply b_eqB
  | with_reducible apply b_neB
  | with_reducible apply w_bl
  | with_reducible apply w_non
  | with_reducible apply t_B
  | with_reducible apply m_lst
  | ((with_reducible apply m_catO); (case e => exact rfl))
  | with_reducible apply m_cat
  | with_reducible apply m_list
  | with_reducible apply w_lcLU
  | with_reducible apply w_lcTU
  | with_reducible apply s_forTU
  | with_reducible apply s_forLU
  | (with_reducible apply lcU_nil)
  | (with_reducible apply unr_nil)
  | with_reducible apply unr_one
  | ((with_reducible show LcU _ _ _ _ _ _ _ _ _); (refine lcU_one rfl (Nat.lt_of_succ_le (Nat.le_of_ble_eq_true rfl)) ?_))
  | ((with_reducible show (_ = true → _) ∧ (_ = false → _)); (first | refine ybt rfl ?_ | refine ybf rfl ?_))
  | ((with_reducible show (_ = false → _) ∧ (_ = true → _)); (first | refine obt rfl ?_ | refine obf rfl ?_))
  | with_reducible apply yt
  | with_reducible apply yf
  | with_reducible apply fy
  | with_reducible apply ft
  | ((with_reducible apply f_frz); (case e => exact rfl))
  | with_reducible apply s_asgG
  | (refine Exists.intro _ (And.intro (g_lst (by repeat (first | exact gs_nil | apply gs_one)) rfl) ?_))
  | (refine Exists.intro _ (And.intro (g_tup (by repeat (first | exact gs_nil | apply gs_one)) rfl) ?_))
  | with_reducible apply c_lenL
  | with_reducible apply c_lenT
  | with_reducible apply c_listL
  | with_reducible apply c_listT
  | with_reducible apply c_tupL
  | with_reducible apply c_abs
  | with_reducible apply c_int
  | with_reducible apply c_min
  | with_reducible apply rc_gcd
  | with_reducible apply rb_b
  | (refine And.intro (Nat.lt_of_succ_le (Nat.le_of_ble_eq_true rfl)) ?_)
  | with_reducible refine Exists.intro _ (And.intro rfl ?_)
  | refine And.intro (Nat.le_of_ble_eq_true rfl) ?_
  ))
local macro_rules | `(tactic| walk_at "u") => `(tactic| repeat (first
  | with_reducible apply w_int
  | ((with_reducible apply w_var); (case h => exact rfl))
  | with_reducible apply wl_cons
  | with_reducible apply wl_nil
  | ((with_reducible refine And.intro (Nat.le_of_ble_eq_true ?hlen) ?_); (case hlen => exact rfl))
  | with_reducible apply w_tup
  | with_reducible apply w_op
  | with_reducible apply s_seq
  | ((with_reducible apply wa_consO); (case h => exact rfl))
  | with_reducible apply wa_cons
  | with_reducible apply wa_nil
  | with_reducible apply ru_i
  | with_reducible apply w_un
  | with_reducible apply s_asg
  | with_reducible apply w_call0
  | with_reducible apply w_callD2
  | with_reducible apply w_callD1
  | ((with_reducible apply w_callX0); (case hz => exact rfl))
  | ((with_reducible apply w_callXS); (case hz => exact rfl))
  | with_reducible apply w_callZ
  | with_reducible apply b_addI
  | ((with_reducible apply rb_ixT); (case e => exact rfl))
  | ((with_reducible apply rb_ixL); (case e => exact rfl))
  | with_reducible apply w_str
  | with_reducible apply w_lst
  | with_reducible apply w_sl
  | with_reducible apply o_none
  | with_reducible apply o_some
  | with_reducible apply sG_T
  | with_reducible apply sG_L
  | ((with_reducible apply s_app); (case e => exact rfl))
  | with_reducible apply s_drop
  | with_reducible apply p_if
  | with_reducible apply t_test
  | with_reducible apply b_eqI
  | with_reducible apply s_next
  | with_reducible apply p_ret
  | ((with_reducible apply b_mulI); (case hc => (apply mulx; (case h1 => walk_at "bd"); (case h2 => walk_at "bd"); (case h => omega))))
  | ((with_reducible apply b_mulL); (case h0 => decide); (case hz => (show 1 * 201 ≤ 100000; decide)))
  | with_reducible apply b_sub
  | with_reducible apply s_raiseK
  | with_reducible apply w_isT
  | with_reducible apply w_isL
  | with_reducible apply w_isI
  | with_reducible apply w_isB
  | with_reducible apply w_isS
  | with_reducible apply w_isN
  | with_reducible apply w_notN
  | with_reducible apply w_or
  | with_reducible apply w_and
  | with_reducible apply w_not
  | with_reducible apply w_chain
  | with_reducible apply w_bmL
  | with_reducible apply w_bmS
  | ((with_reducible apply w_isR); (case h => exact rfl); (case e => assumption))
  | ((with_reducible apply w_isV); (case h => exact rfl); (case e => assumption))
  | with_reducible apply w_cb
  | with_reducible apply t_or
  | with_reducible apply t_and
  | with_reducible apply t_not
  | with_reducible apply t_yes
  | ((with_reducible apply b_addT); (case hz => exact Nat.le_of_ble_eq_true rfl))
  | ((with_reducible apply b_addL); (case hz => exact Nat.le_of_ble_eq_true rfl))
  | with_reducible apply s_break
  | with_reducible apply rb_b
  | with_reducible apply t_truthI
  | with_reducible apply b_neI
  | with_reducible apply b_eqS
  | with_reducible apply b_eqB
  | with_reducible apply b_neB
  | with_reducible apply w_bl
  | with_reducible apply w_non
  | with_reducible apply t_B
  | with_reducible apply m_lst
  | ((with_reducible apply m_catO); (case e => exact rfl))
  | with_reducible apply m_cat
  | with_reducible apply m_list
  | with_reducible apply w_lcLU
  | with_reducible apply w_lcTU
  | with_reducible apply s_forTU
  | with_reducible apply s_forLU
  | (with_reducible apply lcU_nil)
  | (with_reducible apply unr_nil)
  | with_reducible apply unr_one
  | ((with_reducible show LcU _ _ _ _ _ _ _ _ _); (refine lcU_one rfl (Nat.lt_of_succ_le (Nat.le_of_ble_eq_true rfl)) ?_))
  | ((with_reducible show (_ = true → _) ∧ (_ = false → _)); (first | refine ybt rfl ?_ | refine ybf rfl ?_))
  | ((with_reducible show (_ = false → _) ∧ (_ = true → _)); (first | refine obt rfl ?_ | refine obf rfl ?_))
  | with_reducible apply yt
  | with_reducible apply yf
  | with_reducible apply fy
  | with_reducible apply ft
  | ((with_reducible apply f_frz); (case e => exact rfl))
  | with_reducible apply s_asgG
  | (refine Exists.intro _ (And.intro (g_lst (by repeat (first | exact gs_nil | apply gs_one)) rfl) ?_))
  | (refine Exists.intro _ (And.intro (g_tup (by repeat (first | exact gs_nil | apply gs_one)) rfl) ?_))
  | with_reducible apply c_lenL
  | with_reducible apply c_lenT
  | with_reducible apply c_listL
  | with_reducible apply c_listT
  | with_reducible apply c_tupL
  | with_reducible apply c_abs
  | with_reducible apply c_int
  | with_reducible apply c_min
  | with_reducible apply rc_gcd
  | with_reducible apply rb_b
  | (refine And.intro (Nat.lt_of_succ_le (Nat.le_of_ble_eq_true rfl)) ?_)
  | with_reducible refine Exists.intro _ (And.intro rfl ?_)
  | refine And.intro (Nat.le_of_ble_eq_true rfl) ?_
  ))
variable {P : Program} {w : World} {K : PySem.W.Frag} {mg : Str → Option Value} {base : Heap}
variable {S : Zs} {cl : Str → Addr}
def tenInv : Rat := ⟨1, 10 ^ 150, by decide +kernel, Nat.coprime_one_left _⟩
def farInv : Rat := ⟨1, 10 ^ 300, by decide +kernel, Nat.coprime_one_left _⟩
theorem Fq_tenInv : PyData.tuple [.int 1, .int tenB] = Fq tenInv := by
  rw [tenB_n]
  rfl
theorem Fq_farInv : PyData.tuple [.int 1, .int tenC] = Fq farInv := by
  rw [tenC_n]
  rfl
theorem ten_fig : wFig 150 (tenB : Rat) = false := by
  show (decide (tenB.natAbs < 10 ^ 150) && _) = false
  rw [tenB_n, Int.natAbs_natCast, decide_eq_false (Nat.lt_irrefl _)]
  rfl
theorem far_fig : wFig 300 (tenC : Rat) = false := by
  show (decide (tenC.natAbs < 10 ^ 300) && _) = false
  rw [tenC_n, Int.natAbs_natCast, decide_eq_false (Nat.lt_irrefl _)]
  rfl
theorem tenInv_fig : wFig 150 tenInv = false := by
  show (_ && decide (tenInv.den < 10 ^ 150)) = false
  rw [decide_eq_false (show ¬ tenInv.den < 10 ^ 150 from Nat.lt_irrefl (10 ^ 150)), Bool.and_false]
theorem farInv_fig : wFig 300 farInv = false := by
  show (_ && decide (farInv.den < 10 ^ 300)) = false
  rw [decide_eq_false (show ¬ farInv.den < 10 ^ 300 from Nat.lt_irrefl (10 ^ 300)), Bool.and_false]
theorem ten_sz : Sz 1000 (tenB : Rat) := (sz_i tenB_b (by decide)).mono (by decide)
theorem tenInv_sz : Sz 1000 tenInv := ⟨by show 1 < 2 ^ 1000; decide +kernel, by show 10 ^ 150 < 2 ^ 1000; decide +kernel⟩
theorem long_a {t : Tf} (h : OkT t) : Long (tfD ⟨t.a, t.b, t.c, t.d, (tenB : Rat), t.f⟩) := by
  have s := figT_sz h.f
  refine ⟨_, rfl, ⟨s.a.mono (by decide), s.b.mono (by decide), s.c.mono (by decide), s.d.mono (by decide), ten_sz, s.f.mono (by decide)⟩, h.d, ?_⟩
  show (wFig 150 t.a && (wFig 150 t.b && (wFig 150 t.c && (wFig 150 t.d && (wFig 150 (tenB : Rat) && (wFig 150 t.f && true)))))) = false
  rw [ten_fig]
  simp
theorem long_b {t : Tf} (h : OkT t) : Long (tfD ⟨t.a, t.b, t.c, t.d, t.e, tenInv⟩) := by
  have s := figT_sz h.f
  refine ⟨_, rfl, ⟨s.a.mono (by decide), s.b.mono (by decide), s.c.mono (by decide), s.d.mono (by decide), s.e.mono (by decide), tenInv_sz⟩, h.d, ?_⟩
  show (wFig 150 t.a && (wFig 150 t.b && (wFig 150 t.c && (wFig 150 t.d && (wFig 150 t.e && (wFig 150 tenInv && true)))))) = false
  rw [tenInv_fig]
  simp
theorem odds (p : Pt) {d : D} (hd : d ∈ [PyData.none, Fq p.x, .list [Fq p.x, Fq p.y], .tuple ([Fq p.x, Fq p.y] ++ [Fq p.x, Fq p.y]), .tuple [Fq p.x, .int 2], .tuple [.tuple [.int 2, .int 4], Fq p.y], .bool true]) : NoP d := by
  simp only [List.mem_cons, List.not_mem_nil, or_false] at hd
  rcases hd with rfl | rfl | rfl | rfl | rfl | rfl | rfl
  · exact ⟨rfl, rfl⟩
  · exact ⟨rfl, rfl⟩
  · exact ⟨rfl, rfl⟩
  · exact ⟨rfl, rfl⟩
  · exact ⟨by show (isFr (Fq p.x) && false) = false; rw [Bool.and_false], rfl⟩
  · exact ⟨rfl, rfl⟩
  · exact ⟨rfl, rfl⟩
theorem ones {d : D} (hd : d ∈ [PyData.str "back", .str "whole", .str "scale", .str "order"]) : ∃ w, d = .str w ∧ OneW w := by
  simp only [List.mem_cons, List.not_mem_nil, or_false] at hd
  rcases hd with rfl | rfl | rfl | rfl
  · exact ⟨_, rfl, .inl rfl⟩
  · exact ⟨_, rfl, .inr (.inl rfl)⟩
  · exact ⟨_, rfl, .inr (.inr (.inl rfl))⟩
  · exact ⟨_, rfl, .inr (.inr (.inr rfl))⟩
theorem far_P1 (p : Pt) : figP ⟨(tenC : Rat), p.y⟩ = false := by
  show (wFig 300 (tenC : Rat) && _) = false
  rw [far_fig, Bool.false_and]
theorem far_P2 : figP ⟨0, farInv⟩ = false := by
  show (_ && wFig 300 farInv) = false
  rw [farInv_fig, Bool.and_false]
theorem r_far2 {t : Tf} (h : OkT t) : Asked cl "point" (.tuple [tfD t, .tuple [.tuple [.int 0, .int 1], .tuple [.int 1, .int tenC]]]) muchD := by
  rw [Fq_farInv]
  exact r_point_far (q := ⟨0, farInv⟩) h far_P2
def c_refusals (cl : Str → Addr) (s : Zs) : Con := fun as k => ∃ (t : Tf) (p : Pt), as = [.o (.ref s.a), .i (tfD t), .i (ptD p)] ∧ OkT t ∧ PSz 5 p ∧ ∀ ds, 0 < ds.length → ds.length ≤ 30 → (∀ d ∈ ds, AskRow cl d) → k (.list ds)
abbrev n__law_refusals : List Str := ["stream", "t", "p", "no", "ten", "long", "odd", "bad", "much", "one", "rows"]
abbrev s__law_refusals : Stmt := top 126
theorem sc__law_refusals : FnScope ["stream", "t", "p", "no", "ten", "long", "odd", "bad", "much", "one", "rows"] ["stream", "t", "p"] (defScope s__law_refusals) := ⟨rfl, rfl, rfl, by decide +kernel, rfl, by decide +kernel, by decide +kernel⟩
theorem h__law_refusals (B : Bl mg) (d : DefAt K mg "_law_refusals" s__law_refusals []) (h__law_pick : Has P w K mg base CX0 "_law_pick" 2 [] (spOf K (some S) (c_pick S))) (h__law_next : Has P w K mg base CX0 "_law_next" 1 [] (spOf K (some S) (c_next S))) (h__law_no_transform : Has P w K mg base CX0 "_law_no_transform" 4 [] (spOf K (some S) (c_no S))) : Has P w K mg base CX0 "_law_refusals" 5 [] (spOf K (some S) (c_refusals cl S)) := by
  refine d.pure sc__law_refusals (fun _ _ _ _ _ _ us hl => match us, hl with | [_, _, _], _ => rfl) 8 rfl (fun as k ⟨_, _, e, _⟩ => by rw [e]; rfl) fun f cdv A outer s H E hr => ⟨_, (pss_cons (ps_set (i := 3) sc__law_refusals.nd rfl (Or.inl rfl) (pe_has h__law_no_transform (hr.mono (by decide)) pass0 (pa_cons (pv 0) (pa_cons (pv 1) pa_nil))))
      (pss_cons (ps_set (i := 4) sc__law_refusals.nd rfl (Or.inl rfl) (pe_op op_mulG (pe_op op_mulG (pe_op op_pow pe_int pe_int) (pe_op op_pow pe_int pe_int)) (pe_op op_pow pe_int pe_int)))
      (pss_cons (ps_set (i := 5) sc__law_refusals.nd rfl (Or.inl rfl) (pe_op (kAdd (K := K)) (pe_slice (kSl (K := K)) (pv 1) po_none (po_some pe_int)) (pe_ifExp (pt_cmpR (kEq (K := K) hr.units) (pe_has h__law_next (hr.mono (by decide)) pass0 (pa_cons (pv 0) (pa_cons pe_int pa_nil))) pe_int (nomark _)) (pe_tup (pa_cons (pe_tup (pa_cons (pv 4) (pa_cons pe_int pa_nil))) (pa_cons (pe_ix (kIx (K := K)) (pv 1) pe_int (fun _ _ => rfl)) pa_nil))) (pe_tup (pa_cons (pe_ix (kIx (K := K)) (pv 1) pe_int (fun _ _ => rfl)) (pa_cons (pe_tup (pa_cons pe_int (pa_cons (pv 4) pa_nil))) pa_nil))))))
      (pss_cons (ps_set (i := 6) sc__law_refusals.nd rfl (Or.inl rfl) (pe_has h__law_pick (hr.mono (by decide)) pass0 (pa_cons (pv 0) (pa_cons (pe_tup (pa_cons pe_non (pa_cons (pe_ix (kIx (K := K)) (pv 2) pe_int (fun _ _ => rfl)) (pa_cons (pe_callTy (kList (K := K)) (by rfl) B.list (by decide +kernel) (pa_cons (pv 2) pa_nil)) (pa_cons (pe_op (kAdd (K := K)) (pv 2) (pv 2)) (pa_cons (pe_tup (pa_cons (pe_ix (kIx (K := K)) (pv 2) pe_int (fun _ _ => rfl)) (pa_cons pe_int pa_nil))) (pa_cons (pe_tup (pa_cons (pe_tup (pa_cons pe_int (pa_cons pe_int pa_nil))) (pa_cons (pe_ix (kIx (K := K)) (pv 2) pe_int (fun _ _ => rfl)) pa_nil))) (pa_cons pe_bl pa_nil)))))))) pa_nil))))
      (pss_cons (ps_set (i := 7) sc__law_refusals.nd rfl (Or.inl rfl) (pe_lst (pa_cons pe_str (pa_cons pe_str (pa_cons (pe_tup (pa_cons pe_str pa_nil)) pa_nil)))))
      (pss_cons (ps_set (i := 8) sc__law_refusals.nd rfl (Or.inl rfl) (pe_lst (pa_cons pe_str (pa_cons pe_str (pa_cons (pe_tup (pa_cons pe_str pa_nil)) pa_nil)))))
      (pss_cons (ps_set (i := 9) sc__law_refusals.nd rfl (Or.inl rfl) (pe_has h__law_pick (hr.mono (by decide)) pass0 (pa_cons (pv 0) (pa_cons (pe_tup (pa_cons pe_str (pa_cons pe_str (pa_cons pe_str (pa_cons pe_str pa_nil))))) pa_nil))))
      (pss_cons (ps_set (i := 10) sc__law_refusals.nd rfl (Or.inl rfl) (pe_lst (pa_cons (pe_tup (pa_cons pe_str (pa_cons (pe_tup (pa_cons (pv 3) (pa_cons (pv 6) pa_nil))) (pa_cons (pv 7) pa_nil)))) (pa_cons (pe_tup (pa_cons pe_str (pa_cons (pe_tup (pa_cons (pv 3) (pa_cons (pe_lst (pa_cons (pe_tup (pa_cons (pv 2) (pa_cons (pv 2) pa_nil))) (pa_cons (pv 2) pa_nil))) pa_nil))) (pa_cons (pv 7) pa_nil)))) (pa_cons (pe_tup (pa_cons (pv 9) (pa_cons (pe_tup (pa_cons (pv 3) pa_nil)) (pa_cons (pv 7) pa_nil)))) (pa_cons (pe_tup (pa_cons pe_str (pa_cons (pe_tup (pa_cons (pv 3) pa_nil)) (pa_cons (pe_lst (pa_cons pe_str (pa_cons pe_bl pa_nil))) pa_nil)))) pa_nil))))))
      (pss_cons (ps_set (i := 10) sc__law_refusals.nd rfl (Or.inl rfl) (pe_op (kAdd (K := K)) (pv 10) (pe_lst (pa_cons (pe_tup (pa_cons pe_str (pa_cons (pe_tup (pa_cons (pv 5) (pa_cons (pv 6) pa_nil))) (pa_cons (pv 8) pa_nil)))) (pa_cons (pe_tup (pa_cons (pv 9) (pa_cons (pe_tup (pa_cons (pv 5) pa_nil)) (pa_cons (pv 8) pa_nil)))) (pa_cons (pe_tup (pa_cons pe_str (pa_cons (pe_tup (pa_cons (pv 5) pa_nil)) (pa_cons (pe_lst (pa_cons pe_str (pa_cons pe_bl pa_nil))) pa_nil)))) (pa_cons (pe_tup (pa_cons pe_str (pa_cons (pe_tup (pa_cons (pv 5) (pa_cons pe_non pa_nil))) (pa_cons (pv 8) pa_nil)))) pa_nil)))))))
      (pss_cons (ps_set (i := 10) sc__law_refusals.nd rfl (Or.inl rfl) (pe_op (kAdd (K := K)) (pv 10) (pe_lst (pa_cons (pe_tup (pa_cons pe_str (pa_cons (pe_tup (pa_cons (pv 1) (pa_cons (pv 6) pa_nil))) (pa_cons (pe_lst (pa_cons pe_str (pa_cons pe_str (pa_cons (pe_tup (pa_cons pe_str pa_nil)) pa_nil)))) pa_nil)))) (pa_cons (pe_tup (pa_cons pe_str (pa_cons (pe_tup (pa_cons (pv 1) (pa_cons (pe_tup (pa_cons (pe_tup (pa_cons (pe_op op_mulG (pv 4) (pv 4)) (pa_cons pe_int pa_nil))) (pa_cons (pe_ix (kIx (K := K)) (pv 2) pe_int (fun _ _ => rfl)) pa_nil))) pa_nil))) (pa_cons (pv 8) pa_nil)))) pa_nil)))))
      (pss_cons (ps_set (i := 10) sc__law_refusals.nd rfl (Or.inl rfl) (pe_op (kAdd (K := K)) (pv 10) (pe_lst (pa_cons (pe_tup (pa_cons pe_str (pa_cons (pe_tup (pa_cons (pv 1) (pa_cons (pe_tup (pa_cons (pe_tup (pa_cons pe_int (pa_cons pe_int pa_nil))) (pa_cons (pe_tup (pa_cons pe_int (pa_cons (pe_op op_mulG (pv 4) (pv 4)) pa_nil))) pa_nil))) pa_nil))) (pa_cons (pv 8) pa_nil)))) (pa_cons (pe_tup (pa_cons pe_str (pa_cons (pe_tup (pa_cons (pv 1) (pa_cons (pe_tup (pa_cons (pe_tup (pa_cons (pv 2) (pa_cons (pv 2) pa_nil))) pa_nil)) pa_nil))) (pa_cons (pe_lst (pa_cons pe_str (pa_cons pe_str (pa_cons (pe_tup (pa_cons pe_str pa_nil)) pa_nil)))) pa_nil)))) pa_nil)))))
      (pss_cons (ps_set (i := 10) sc__law_refusals.nd rfl (Or.inl rfl) (pe_op (kAdd (K := K)) (pv 10) (pe_lst (pa_cons (pe_tup (pa_cons pe_str (pa_cons (pe_tup (pa_cons (pv 1) (pa_cons (pe_lst (pa_cons (pe_tup (pa_cons (pv 2) (pa_cons (pv 2) pa_nil))) (pa_cons (pe_tup (pa_cons (pv 2) (pa_cons (pv 6) pa_nil))) pa_nil))) pa_nil))) (pa_cons (pe_lst (pa_cons pe_str (pa_cons pe_str (pa_cons (pe_tup (pa_cons pe_int pa_nil)) pa_nil)))) pa_nil)))) (pa_cons (pe_tup (pa_cons pe_str (pa_cons (pe_tup (pa_cons (pv 1) (pa_cons (pv 3) pa_nil))) (pa_cons (pe_lst (pa_cons pe_str (pa_cons pe_str (pa_cons (pe_tup (pa_cons pe_str pa_nil)) pa_nil)))) pa_nil)))) pa_nil)))))
      (pss_cons (ps_set (i := 10) sc__law_refusals.nd rfl (Or.inl rfl) (pe_op (kAdd (K := K)) (pv 10) (pe_lst (pa_cons (pe_tup (pa_cons pe_str (pa_cons (pe_tup (pa_cons (pv 3) (pa_cons (pv 3) pa_nil))) (pa_cons (pe_lst (pa_cons pe_str (pa_cons pe_str (pa_cons (pe_tup (pa_cons pe_str pa_nil)) pa_nil)))) pa_nil)))) (pa_cons (pe_tup (pa_cons pe_str (pa_cons (pe_tup (pa_cons (pv 5) (pa_cons (pv 3) pa_nil))) (pa_cons (pv 8) pa_nil)))) (pa_cons (pe_tup (pa_cons pe_str (pa_cons (pe_tup (pa_cons (pv 1) (pa_cons (pv 5) pa_nil))) (pa_cons (pv 8) pa_nil)))) pa_nil))))))
      (pss_cons (ps_set (i := 10) sc__law_refusals.nd rfl (Or.inl rfl) (pe_op (kAdd (K := K)) (pv 10) (pe_lst (pa_cons (pe_tup (pa_cons pe_str (pa_cons (pe_tup (pa_cons (pv 1) (pa_cons (pe_lst (pa_cons (pe_tup (pa_cons (pv 2) (pa_cons (pe_tup (pa_cons (pe_tup (pa_cons (pv 4) (pa_cons pe_int pa_nil))) (pa_cons (pe_ix (kIx (K := K)) (pv 2) pe_int (fun _ _ => rfl)) pa_nil))) pa_nil))) pa_nil)) pa_nil))) (pa_cons (pv 8) pa_nil)))) (pa_cons (pe_tup (pa_cons pe_str (pa_cons (pe_tup (pa_cons (pv 1) (pa_cons (pe_op op_mulG (pe_lst (pa_cons (pe_tup (pa_cons (pv 2) (pa_cons (pv 2) pa_nil))) pa_nil)) pe_int) pa_nil))) (pa_cons (pe_lst (pa_cons pe_str (pa_cons pe_str (pa_cons (pe_tup (pa_cons pe_str pa_nil)) pa_nil)))) pa_nil)))) pa_nil)))))
      (pss_one (ps_ret (pv 10))))))))))))))))), fun as k hc => ?_⟩
  try dsimp only [cxOf]
  clear hr E H s outer A cdv f d B
  obtain ⟨t, p, rfl, ht, hp, q⟩ := hc
  have tb := tenB_b
  simp only [st0, List.map_cons, List.map_nil, List.replicate, List.cons_append, List.nil_append]
  walk_at "w"
  refine ⟨t, rfl, figT_sz ht.f, fun no hno => ?_⟩
  walk_at "w"
  refine rb_c ⟨by decide, by decide, by decide⟩ ?_
  walk_at "w"
  refine rb_c ⟨by decide, by decide, by decide⟩ ?_
  walk_at "w"
  refine b_mulI (mulx (a := 167) (b := 167) (by decide) (by decide) (by decide)) ?_
  walk_at "w"
  refine rb_c ⟨by decide, by decide, by decide⟩ ?_
  walk_at "w"
  refine b_mulI (mulx (a := 334) (b := 167) (by decide +kernel) (by decide) (by decide)) ?_
  rw [tenB_is]
  walk_at "u"
  refine AL.WE.mono (k := fun d => ∃ x y, d = .tuple [x, y] ∧ Long (.tuple [Fq t.a, Fq t.b, Fq t.c, Fq t.d, x, y])) ?_ (fun d hd => ?_)
  · walk_at "w"
    refine ⟨_, rfl, by decide, lt_9000 (by decide) (by decide), fun r r1 r2 => ?_⟩
    walk_at "w"
    refine yn (fun h => ?_) (fun h => ?_)
    · walk_at "w"
      exact ⟨_, _, rfl, long_a ht⟩
    · walk_at "w"
      refine ⟨_, _, rfl, ?_⟩
      rw [Fq_tenInv]
      exact long_b ht
  obtain ⟨x, y, rfl, hl0⟩ := hd
  walk_at "u"
  have hl : Long (.tuple (cutP [Fq t.a, Fq t.b, Fq t.c, Fq t.d, Fq t.e, Fq t.f] none (some 4) ++ [x, y])) := hl0
  clear hl0
  generalize hlg : PyData.tuple (cutP [Fq t.a, Fq t.b, Fq t.c, Fq t.d, Fq t.e, Fq t.f] none (some 4) ++ [x, y]) = lg at *
  clear hlg
  refine ⟨_, _, rfl, .inl rfl, (by show 0 < 7; decide), (by show 7 ≤ 1000; decide), fun d hd => ?_⟩
  have ho := odds p hd
  clear hd
  walk_at "w"
  refine ⟨_, _, rfl, .inl rfl, (by show 0 < 4; decide), (by show 4 ≤ 1000; decide), fun d hd => ?_⟩
  obtain ⟨w, rfl, hw⟩ := ones hd
  clear hd
  walk_at "w"
  refine q _ (by show 0 < 19; decide) (by show 19 ≤ 30; decide) ?_
  simp only [tenC_is]
  repeat' (first | refine List.forall_mem_append.mpr ⟨?_, ?_⟩ | refine List.forall_mem_cons.mpr ⟨?_, ?_⟩ | exact fun _ h => absurd h List.not_mem_nil)
  · exact ⟨_, _, _, rfl, r_point_no hno (dep_up ho.2)⟩
  · exact ⟨_, _, _, rfl, r_drawing_no hno rfl⟩
  · exact ⟨_, _, _, rfl, r_one_no hw hno⟩
  · exact ⟨_, _, _, rfl, r_is_no hno⟩
  · exact ⟨_, _, _, rfl, r_point_long hl (dep_up ho.2)⟩
  · exact ⟨_, _, _, rfl, r_one_long hw hl⟩
  · exact ⟨_, _, _, rfl, r_is_long hl⟩
  · exact ⟨_, _, _, rfl, r_drawing_long hl rfl⟩
  · exact ⟨_, _, _, rfl, r_point_odd ht ho⟩
  · exact ⟨_, _, _, rfl, r_point_far (q := ⟨(tenC : Rat), p.y⟩) ht (far_P1 p)⟩
  · exact ⟨_, _, _, rfl, r_far2 ht⟩
  · exact ⟨_, _, _, rfl, r_drawing_tup ht rfl rfl⟩
  · exact ⟨_, _, _, rfl, r_drawing_seg ht ho⟩
  · exact ⟨_, _, _, rfl, r_chain_b ht hno⟩
  · exact ⟨_, _, _, rfl, r_chain_a hno hno.dep⟩
  · exact ⟨_, _, _, rfl, r_chain_la hl hno.dep⟩
  · exact ⟨_, _, _, rfl, r_chain_lb ht hl⟩
  · exact ⟨_, _, _, rfl, r_drawing_far (q := ⟨(tenB : Rat), p.y⟩) ht ten_fig⟩
  · exact ⟨_, _, _, rfl, r_drawing_many ht hp⟩
end K88
/-! T24 -/
namespace K88
open PySem PySem.Spec PyProof.Rows L2 AL
local macro_rules | `(tactic| walk_at "bd") => `(tactic| first
  | assumption
  | (apply Sz.n; assumption)
  | (apply Sz.d; assumption)
  | ((with_reducible apply lt_mul); (case h1 => walk_at "bd"); (case h2 => walk_at "bd"))
  | ((with_reducible apply lt_addx); (case h1 => walk_at "bd"); (case h2 => walk_at "bd"))
  | ((with_reducible apply lt_subx); (case h1 => walk_at "bd"); (case h2 => walk_at "bd"))
  | ((with_reducible apply lt_neg); (case h => walk_at "bd")))
local macro_rules | `(tactic| walk_at "nz") => `(tactic| first
  | assumption
  | exact dnz _
  | ((with_reducible apply inz); (case h1 => walk_at "nz"); (case h2 => walk_at "nz")))
local macro_rules | `(tactic| walk_at "w") => `(tactic| repeat (first
  | with_reducible apply w_int
  | ((with_reducible apply w_var); (case h => exact rfl))
  | with_reducible apply wl_cons
  | with_reducible apply wl_nil
  | ((with_reducible refine And.intro (Nat.le_of_ble_eq_true ?hlen) ?_); (case hlen => exact rfl))
  | with_reducible apply w_tup
  | with_reducible apply w_op
  | with_reducible apply s_seq
  | ((with_reducible apply wa_consO); (case h => exact rfl))
  | with_reducible apply wa_cons
  | with_reducible apply wa_nil
  | with_reducible apply ru_i
  | with_reducible apply w_un
  | with_reducible apply s_asg
  | with_reducible apply w_call0
  | with_reducible apply w_callD2
  | with_reducible apply w_callD1
  | ((with_reducible apply w_callX0); (case hz => exact rfl))
  | ((with_reducible apply w_callXS); (case hz => exact rfl))
  | with_reducible apply w_callZ
  | with_reducible apply b_addI
  | ((with_reducible apply rb_ixT); (case e => exact rfl))
  | ((with_reducible apply rb_ixL); (case e => exact rfl))
  | with_reducible apply w_str
  | with_reducible apply w_lst
  | with_reducible apply w_sl
  | with_reducible apply o_none
  | with_reducible apply o_some
  | with_reducible apply sG_T
  | with_reducible apply sG_L
  | ((with_reducible apply s_app); (case e => exact rfl))
  | with_reducible apply s_drop
  | with_reducible apply w_if
  | with_reducible apply p_if
  | with_reducible apply t_test
  | with_reducible apply b_eqI
  | with_reducible apply s_next
  | with_reducible apply p_ret
  | ((with_reducible apply b_mulI); (case hc => (apply mulx; (case h1 => walk_at "bd"); (case h2 => walk_at "bd"); (case h => omega))))
  | ((with_reducible apply b_mulL); (case h0 => decide); (case hz => (show 1 * 201 ≤ 100000; decide)))
  | with_reducible apply b_sub
  | with_reducible apply s_raiseK
  | with_reducible apply w_isT
  | with_reducible apply w_isL
  | with_reducible apply w_isI
  | with_reducible apply w_isB
  | with_reducible apply w_isS
  | with_reducible apply w_isN
  | with_reducible apply w_notN
  | with_reducible apply w_or
  | with_reducible apply w_and
  | with_reducible apply w_not
  | with_reducible apply w_chain
  | with_reducible apply w_bmL
  | with_reducible apply w_bmS
  | ((with_reducible apply w_isR); (case h => exact rfl); (case e => assumption))
  | ((with_reducible apply w_isV); (case h => exact rfl); (case e => assumption))
  | with_reducible apply w_cb
  | with_reducible apply t_or
  | with_reducible apply t_and
  | with_reducible apply t_not
  | with_reducible apply t_yes
  | ((with_reducible apply b_addT); (case hz => exact Nat.le_of_ble_eq_true rfl))
  | ((with_reducible apply b_addL); (case hz => exact Nat.le_of_ble_eq_true rfl))
  | with_reducible apply s_break
  | with_reducible apply rb_b
  | with_reducible apply t_truthI
  | with_reducible apply b_neI
  | with_reducible apply b_eqS
  | with_reducible apply b_eqB
  | with_reducible apply b_neB
  | with_reducible apply w_bl
  | with_reducible apply w_non
  | with_reducible apply t_B
  | with_reducible apply m_lst
  | ((with_reducible apply m_catO); (case e => exact rfl))
  | with_reducible apply m_cat
  | with_reducible apply m_list
  | with_reducible apply w_lcLU
  | with_reducible apply w_lcTU
  | with_reducible apply s_forTU
  | with_reducible apply s_forLU
  | (with_reducible apply lcU_nil)
  | (with_reducible apply unr_nil)
  | with_reducible apply unr_one
  | ((with_reducible show LcU _ _ _ _ _ _ _ _ _); (refine lcU_one rfl (Nat.lt_of_succ_le (Nat.le_of_ble_eq_true rfl)) ?_))
  | ((with_reducible show (_ = true → _) ∧ (_ = false → _)); (first | refine ybt rfl ?_ | refine ybf rfl ?_))
  | ((with_reducible show (_ = false → _) ∧ (_ = true → _)); (first | refine obt rfl ?_ | refine obf rfl ?_))
  | with_reducible apply yt
  | with_reducible apply yf
  | with_reducible apply fy
  | with_reducible apply ft
  | ((with_reducible apply f_frz); (case e => exact rfl))
  | with_reducible apply s_asgG
  | (refine Exists.intro _ (And.intro (g_lst (by repeat (first | exact gs_nil | apply gs_one)) rfl) ?_))
  | (refine Exists.intro _ (And.intro (g_tup (by repeat (first | exact gs_nil | apply gs_one)) rfl) ?_))
  | with_reducible apply c_lenL
  | with_reducible apply c_lenT
  | with_reducible apply c_listL
  | with_reducible apply c_listT
  | with_reducible apply c_tupL
  | with_reducible apply c_abs
  | with_reducible apply c_int
  | with_reducible apply c_min
  | with_reducible apply rc_gcd
  | with_reducible apply rb_b
  | (refine And.intro (Nat.lt_of_succ_le (Nat.le_of_ble_eq_true rfl)) ?_)
  | with_reducible refine Exists.intro _ (And.intro rfl ?_)
  | refine And.intro (Nat.le_of_ble_eq_true rfl) ?_
  ))
variable {P : Program} {w : World} {K : PySem.W.Frag} {mg : Str → Option Value} {base : Heap}
variable {S : Zs} {cl : Str → Addr}
theorem lens {d : D} (hd : d ∈ [PyData.tuple [.int 0, .int 1], .tuple [.int 1, .int 1], .tuple [.int 2, .int 1], .tuple [.int (-1), .int 3]]) : ∃ f : Rat, d = Fq f ∧ Sz 3 f := by
  simp only [List.mem_cons, List.not_mem_nil, or_false] at hd
  rcases hd with rfl | rfl | rfl | rfl
  · exact ⟨0, rfl, by decide +kernel⟩
  · exact ⟨1, rfl, by decide +kernel⟩
  · exact ⟨2, rfl, by decide +kernel⟩
  · exact ⟨mkRat (-1) 3, rfl, by decide +kernel⟩
theorem tri_along (p q : Pt) (f : Rat) : tri p q (p.along q f) = 0 := by
  simp only [tri, Pt.along, Pt.sub, Pt.cr]
  grind
theorem tri_same (p : Pt) : tri p p p = 0 := by
  simp only [tri, Pt.sub, Pt.cr]
  grind
theorem flat3 {p q r a b c : Pt} (h : [a, b, c].Perm [p, q, r]) (h0 : tri p q r = 0) : tri a b c = 0 := by
  rcases tri_perm h with e | e
  · rw [e, h0]
  · rw [e, h0]
    decide +kernel
theorem pt3 {n : Nat} {p q r a b c : Pt} (h : [a, b, c].Perm [p, q, r]) (h1 : PSz n p) (h2 : PSz n q) (h3 : PSz n r) : PSz n a ∧ PSz n b ∧ PSz n c := by
  have all : ∀ z ∈ [a, b, c], PSz n z := fun z hz => by
    have := h.subset hz
    simp only [List.mem_cons, List.not_mem_nil, or_false] at this
    rcases this with rfl | rfl | rfl <;> assumption
  exact ⟨all a (by simp), all b (by simp), all c (by simp)⟩
theorem nones {p q r : Pt} {fl d : D} (hf : NoH fl) (hp : PSz 47 p) (hd : d ∈ [PyData.list (cutP [ptD p, ptD q, ptD r] none (some 2)), .list ([ptD p, ptD q, ptD r] ++ cutP [ptD p, ptD q, ptD r] none (some 1)), .tuple [ptD p, ptD q, ptD r], .list [ptD p, ptD q, .none], fl, fl, .none, .list [ptD p, ptD p, ptD p]]) : NoH d := by
  simp only [List.mem_cons, List.not_mem_nil, or_false] at hd
  rcases hd with rfl | rfl | rfl | rfl | rfl | rfl | rfl | rfl
  · exact .a rfl rfl
  · exact .a rfl rfl
  · exact .a rfl rfl
  · exact .a (by show (isPt (ptD p) && (isPt (ptD q) && false)) = false; rw [Bool.and_false, Bool.and_false]) rfl
  · exact hf
  · exact hf
  · exact .a rfl rfl
  · exact .b p p p 47 (by decide) hp hp hp (tri_same p)
def farP : Pt := ⟨(tenC : Rat), mkRat 1 3⟩
def oP : Pt := ⟨0, 0⟩
def eP : Pt := ⟨1, 5⟩
theorem farP_sz : PSz 1000 farP := ⟨(sz_i tenC_b (by decide)).mono (by decide), ⟨by decide +kernel, by decide +kernel⟩⟩
theorem oP_sz : PSz 1000 oP := ⟨⟨by decide +kernel, by decide +kernel⟩, ⟨by decide +kernel, by decide +kernel⟩⟩
theorem eP_sz : PSz 1000 eP := ⟨⟨by decide +kernel, by decide +kernel⟩, ⟨by decide +kernel, by decide +kernel⟩⟩
theorem farP_fig : figP farP = false := by
  show (wFig 300 (tenC : Rat) && _) = false
  rw [far_fig, Bool.false_and]
theorem far_not : (15 : Rat) * (tenC : Rat) ≠ 1 := fun e => by
  have h : ((15 * tenC : Int) : Rat) = ((1 : Int) : Rat) := by
    rw [Rat.intCast_mul]
    exact e
  have h2 : 15 * tenC = 1 := by exact_mod_cast h
  have := tenC_0
  omega
theorem third : mkRat 1 3 * 3 = 1 := by decide +kernel
theorem far_tri1 : tri farP oP eP ≠ 0 := fun e => by
  have h := far_not
  have t := third
  simp only [tri, Pt.sub, Pt.cr, farP, oP, eP] at e
  grind
theorem far_tri2 : tri oP farP eP ≠ 0 := fun e => by
  have h := far_not
  have t := third
  simp only [tri, Pt.sub, Pt.cr, farP, oP, eP] at e
  grind
def c_tref (cl : Str → Addr) (s : Zs) : Con := fun as k => ∃ p q r u v w : Pt, as = [.o (.ref s.a), .i (th p q r), .i (th u v w)] ∧ Thr 47 p q r ∧ Thr 997 u v w ∧ ∀ ds, ds.length ≤ 10 → (∀ d ∈ ds, AskRow cl d) → k (.list ds)
abbrev n__law_three_refusals : List Str := ["stream", "rows", "images", "q", "ten", "far", "flat", "none", "found"]
abbrev s__law_three_refusals : Stmt := top 127
theorem sc__law_three_refusals : FnScope ["stream", "rows", "images", "q", "ten", "far", "flat", "none", "found"] ["stream", "rows", "images"] (defScope s__law_three_refusals) := ⟨rfl, rfl, rfl, by decide +kernel, rfl, by decide +kernel, by decide +kernel⟩
theorem h__law_three_refusals (B : Bl mg) (d : DefAt K mg "_law_three_refusals" s__law_three_refusals []) (h__law_pick : Has P w K mg base CX0 "_law_pick" 2 [] (spOf K (some S) (c_pick S))) (h__law_shuffled : Has P w K mg base CX0 "_law_shuffled" 2 [] (spOf K (some S) (c_shuf S))) (h__law_along : Has P w K mg base CX0 "_law_along" 4 [] (spOf K none (c_along))) : Has P w K mg base CX0 "_law_three_refusals" 5 [] (spOf K (some S) (c_tref cl S)) := by
  refine d.pure sc__law_three_refusals (fun _ _ _ _ _ _ us hl => match us, hl with | [_, _, _], _ => rfl) 6 rfl (fun as k ⟨_, _, _, _, _, _, e, _⟩ => by rw [e]; rfl) fun f cdv A outer s H E hr => ⟨_, (pss_cons (ps_set (i := 3) sc__law_three_refusals.nd rfl (Or.inl rfl) (pe_has h__law_along (hr.mono (by decide)) pass0 (pa_cons (pe_ix (kIx (K := K)) (pv 1) pe_int (fun _ _ => rfl)) (pa_cons (pe_ix (kIx (K := K)) (pv 1) pe_int (fun _ _ => rfl)) (pa_cons (pe_has h__law_pick (hr.mono (by decide)) pass0 (pa_cons (pv 0) (pa_cons (pe_tup (pa_cons (pe_tup (pa_cons pe_int (pa_cons pe_int pa_nil))) (pa_cons (pe_tup (pa_cons pe_int (pa_cons pe_int pa_nil))) (pa_cons (pe_tup (pa_cons pe_int (pa_cons pe_int pa_nil))) (pa_cons (pe_tup (pa_cons (pe_un un_neg pe_int) (pa_cons pe_int pa_nil))) pa_nil))))) pa_nil))) pa_nil)))))
      (pss_cons (ps_set (i := 4) sc__law_three_refusals.nd rfl (Or.inl rfl) (pe_op op_mulG (pe_op op_mulG (pe_op op_pow pe_int pe_int) (pe_op op_pow pe_int pe_int)) (pe_op op_pow pe_int pe_int)))
      (pss_cons (ps_set (i := 5) sc__law_three_refusals.nd rfl (Or.inl rfl) (pe_tup (pa_cons (pe_tup (pa_cons (pe_op op_mulG (pv 4) (pv 4)) (pa_cons pe_int pa_nil))) (pa_cons (pe_tup (pa_cons pe_int (pa_cons pe_int pa_nil))) pa_nil))))
      (pss_cons (ps_set (i := 6) sc__law_three_refusals.nd rfl (Or.inl rfl) (pe_has h__law_shuffled (hr.mono (by decide)) pass0 (pa_cons (pv 0) (pa_cons (pe_lst (pa_cons (pe_ix (kIx (K := K)) (pv 1) pe_int (fun _ _ => rfl)) (pa_cons (pe_ix (kIx (K := K)) (pv 1) pe_int (fun _ _ => rfl)) (pa_cons (pv 3) pa_nil)))) pa_nil))))
      (pss_cons (ps_set (i := 7) sc__law_three_refusals.nd rfl (Or.inl rfl) (pe_has h__law_pick (hr.mono (by decide)) pass0 (pa_cons (pv 0) (pa_cons (pe_tup (pa_cons (pe_slice (kSl (K := K)) (pv 1) po_none (po_some pe_int)) (pa_cons (pe_op (kAdd (K := K)) (pv 1) (pe_slice (kSl (K := K)) (pv 1) po_none (po_some pe_int))) (pa_cons (pe_callTy (kTup (K := K)) (by rfl) B.tuple (by decide +kernel) (pa_cons (pv 1) pa_nil)) (pa_cons (pe_lst (pa_cons (pe_ix (kIx (K := K)) (pv 1) pe_int (fun _ _ => rfl)) (pa_cons (pe_ix (kIx (K := K)) (pv 1) pe_int (fun _ _ => rfl)) (pa_cons pe_non pa_nil)))) (pa_cons (pv 6) (pa_cons (pv 6) (pa_cons pe_non (pa_cons (pe_lst (pa_cons (pe_ix (kIx (K := K)) (pv 1) pe_int (fun _ _ => rfl)) (pa_cons (pe_ix (kIx (K := K)) (pv 1) pe_int (fun _ _ => rfl)) (pa_cons (pe_ix (kIx (K := K)) (pv 1) pe_int (fun _ _ => rfl)) pa_nil)))) pa_nil))))))))) pa_nil))))
      (pss_cons (ps_setM (i := 8) sc__law_three_refusals.nd rfl (Or.inl rfl) (pe_lst (pa_cons (pe_tup (pa_cons pe_str (pa_cons (pe_tup (pa_cons (pv 7) (pa_cons pe_non pa_nil))) (pa_cons (pe_lst (pa_cons pe_str (pa_cons pe_str (pa_cons (pe_tup (pa_cons pe_str pa_nil)) pa_nil)))) pa_nil)))) (pa_cons (pe_tup (pa_cons pe_str (pa_cons (pe_tup (pa_cons (pv 1) (pa_cons (pv 7) pa_nil))) (pa_cons (pe_lst (pa_cons pe_str (pa_cons pe_str (pa_cons (pe_tup (pa_cons pe_str pa_nil)) pa_nil)))) pa_nil)))) pa_nil))))
      (pss_cons (ps_expr (kApp (K := K) (pv 8) (pa_cons (pe_tup (pa_cons pe_str (pa_cons (pe_tup (pa_cons (pe_lst (pa_cons (pv 5) (pa_cons (pe_tup (pa_cons (pe_tup (pa_cons pe_int (pa_cons pe_int pa_nil))) (pa_cons (pe_tup (pa_cons pe_int (pa_cons pe_int pa_nil))) pa_nil))) (pa_cons (pe_tup (pa_cons (pe_tup (pa_cons pe_int (pa_cons pe_int pa_nil))) (pa_cons (pe_tup (pa_cons pe_int (pa_cons pe_int pa_nil))) pa_nil))) pa_nil)))) (pa_cons (pv 7) pa_nil))) (pa_cons (pe_lst (pa_cons pe_str (pa_cons pe_str (pa_cons (pe_tup (pa_cons pe_str pa_nil)) pa_nil)))) pa_nil)))) pa_nil)))
      (pss_one (ps_ret (pe_op (kAdd (K := K)) (pv 8) (pe_lst (pa_cons (pe_tup (pa_cons pe_str (pa_cons (pe_tup (pa_cons (pv 2) (pa_cons (pe_lst (pa_cons (pe_tup (pa_cons (pe_tup (pa_cons pe_int (pa_cons pe_int pa_nil))) (pa_cons (pe_tup (pa_cons pe_int (pa_cons pe_int pa_nil))) pa_nil))) (pa_cons (pv 5) (pa_cons (pe_tup (pa_cons (pe_tup (pa_cons pe_int (pa_cons pe_int pa_nil))) (pa_cons (pe_tup (pa_cons pe_int (pa_cons pe_int pa_nil))) pa_nil))) pa_nil)))) pa_nil))) (pa_cons (pe_lst (pa_cons pe_str (pa_cons pe_str (pa_cons (pe_tup (pa_cons pe_str pa_nil)) pa_nil)))) pa_nil)))) pa_nil)))))))))))), fun as k hc => ?_⟩
  try dsimp only [cxOf]
  clear hr E H s outer A cdv f d B
  obtain ⟨p, q, r, u, v, w, rfl, ht, hu, kk⟩ := hc
  have tb := tenB_b
  simp only [st0, List.map_cons, List.map_nil, List.replicate, List.cons_append, List.nil_append]
  walk_at "w"
  refine ⟨_, _, rfl, .inl rfl, (by show 0 < 4; decide), (by show 4 ≤ 1000; decide), fun d hd => ?_⟩
  obtain ⟨f, rfl, hf⟩ := lens hd
  clear hd
  walk_at "w"
  refine ⟨p, q, f, 47, 47, 3, rfl, ht.hp, ht.hq, hf, by decide, ?_⟩
  have ha : PSz 200 (p.along q f) := ⟨(ht.hp.1.add (hf.mul (ht.hq.1.sub ht.hp.1))).mono (by decide), (ht.hp.2.add (hf.mul (ht.hq.2.sub ht.hp.2))).mono (by decide)⟩
  walk_at "w"
  refine rb_c ⟨by decide, by decide, by decide⟩ ?_
  walk_at "w"
  refine rb_c ⟨by decide, by decide, by decide⟩ ?_
  walk_at "w"
  refine b_mulI (mulx (a := 167) (b := 167) (by decide) (by decide) (by decide)) ?_
  walk_at "w"
  refine rb_c ⟨by decide, by decide, by decide⟩ ?_
  walk_at "w"
  refine b_mulI (mulx (a := 334) (b := 167) (by decide +kernel) (by decide) (by decide)) ?_
  rw [tenB_is]
  walk_at "w"
  refine ⟨_, rfl, (by show 3 ≤ 1000; decide), fun es he => ?_⟩
  obtain ⟨a, b, c, rfl, hpm⟩ := shuf3 he
  clear he
  have hab := pt3 hpm (ht.hp.mono (by decide)) (ht.hq.mono (by decide)) ha
  have hfl : NoH (th a b c) := .b a b c 200 (by decide) hab.1 hab.2.1 hab.2.2 (flat3 hpm (tri_along p q f))
  walk_at "w"
  refine ⟨_, _, rfl, .inl rfl, (by show 0 < 8; decide), (by show 8 ≤ 1000; decide), fun d hd => ?_⟩
  have hno := nones hfl ht.hp hd
  clear hd
  walk_at "w"
  refine kk _ (by show 4 ≤ 10; decide) ?_
  simp only [tenC_is]
  repeat' (first | refine List.forall_mem_append.mpr ⟨?_, ?_⟩ | refine List.forall_mem_cons.mpr ⟨?_, ?_⟩ | exact fun _ h => absurd h List.not_mem_nil)
  · exact ⟨_, _, _, rfl, r_three_a hno rfl⟩
  · exact ⟨_, _, _, rfl, r_three_b ht (by decide) hno⟩
  · exact ⟨_, _, _, rfl, r_three_c (p := farP) (q := oP) (r := eP) (n := 1000) (by decide) farP_sz oP_sz eP_sz far_tri1 (by rw [farP_fig, Bool.false_and]) hno.dep⟩
  · exact ⟨_, _, _, rfl, r_three_d (p := oP) (q := farP) (r := eP) (n := 1000) hu (by decide) (by decide) oP_sz farP_sz eP_sz far_tri2 (by rw [farP_fig, Bool.false_and, Bool.and_false])⟩
end K88
/-! T25 -/
namespace K88
open PySem PySem.Spec PyProof.Rows L2 AL
local macro_rules | `(tactic| walk_at "bd") => `(tactic| first
  | assumption
  | (apply Sz.n; assumption)
  | (apply Sz.d; assumption)
  | ((with_reducible apply lt_mul); (case h1 => walk_at "bd"); (case h2 => walk_at "bd"))
  | ((with_reducible apply lt_addx); (case h1 => walk_at "bd"); (case h2 => walk_at "bd"))
  | ((with_reducible apply lt_subx); (case h1 => walk_at "bd"); (case h2 => walk_at "bd"))
  | ((with_reducible apply lt_neg); (case h => walk_at "bd")))
local macro_rules | `(tactic| walk_at "nz") => `(tactic| first
  | assumption
  | exact dnz _
  | ((with_reducible apply inz); (case h1 => walk_at "nz"); (case h2 => walk_at "nz")))
local macro_rules | `(tactic| walk_at "w") => `(tactic| repeat (first
  | with_reducible apply w_int
  | ((with_reducible apply w_var); (case h => exact rfl))
  | with_reducible apply wl_cons
  | with_reducible apply wl_nil
  | ((with_reducible refine And.intro (Nat.le_of_ble_eq_true ?hlen) ?_); (case hlen => exact rfl))
  | with_reducible apply w_tup
  | with_reducible apply w_op
  | with_reducible apply s_seq
  | ((with_reducible apply wa_consO); (case h => exact rfl))
  | with_reducible apply wa_cons
  | with_reducible apply wa_nil
  | with_reducible apply ru_i
  | with_reducible apply w_un
  | with_reducible apply s_asg
  | with_reducible apply w_call0
  | with_reducible apply w_callD2
  | with_reducible apply w_callD1
  | ((with_reducible apply w_callX0); (case hz => exact rfl))
  | ((with_reducible apply w_callXS); (case hz => exact rfl))
  | with_reducible apply w_callZ
  | with_reducible apply b_addI
  | ((with_reducible apply rb_ixT); (case e => exact rfl))
  | ((with_reducible apply rb_ixL); (case e => exact rfl))
  | with_reducible apply w_str
  | with_reducible apply w_lst
  | with_reducible apply w_sl
  | with_reducible apply o_none
  | with_reducible apply o_some
  | with_reducible apply sG_T
  | with_reducible apply sG_L
  | ((with_reducible apply s_app); (case e => exact rfl))
  | with_reducible apply s_drop
  | with_reducible apply w_if
  | with_reducible apply p_if
  | with_reducible apply t_test
  | with_reducible apply b_eqI
  | with_reducible apply s_next
  | with_reducible apply p_ret
  | ((with_reducible apply b_mulI); (case hc => (apply mulx; (case h1 => walk_at "bd"); (case h2 => walk_at "bd"); (case h => omega))))
  | ((with_reducible apply b_mulL); (case h0 => decide); (case hz => (show 1 * 201 ≤ 100000; decide)))
  | with_reducible apply b_sub
  | with_reducible apply s_raiseK
  | with_reducible apply w_isT
  | with_reducible apply w_isL
  | with_reducible apply w_isI
  | with_reducible apply w_isB
  | with_reducible apply w_isS
  | with_reducible apply w_isN
  | with_reducible apply w_notN
  | with_reducible apply w_or
  | with_reducible apply w_and
  | with_reducible apply w_not
  | with_reducible apply w_chain
  | with_reducible apply w_bmL
  | with_reducible apply w_bmS
  | ((with_reducible apply w_isR); (case h => exact rfl); (case e => assumption))
  | ((with_reducible apply w_isV); (case h => exact rfl); (case e => assumption))
  | with_reducible apply w_cb
  | with_reducible apply t_or
  | with_reducible apply t_and
  | with_reducible apply t_not
  | with_reducible apply t_yes
  | ((with_reducible apply b_addT); (case hz => exact Nat.le_of_ble_eq_true rfl))
  | ((with_reducible apply b_addL); (case hz => exact Nat.le_of_ble_eq_true rfl))
  | with_reducible apply s_break
  | with_reducible apply rb_b
  | with_reducible apply t_truthI
  | with_reducible apply b_neI
  | with_reducible apply b_eqS
  | with_reducible apply b_eqB
  | with_reducible apply b_neB
  | with_reducible apply w_bl
  | with_reducible apply w_non
  | with_reducible apply t_B
  | with_reducible apply m_lst
  | ((with_reducible apply m_catO); (case e => exact rfl))
  | with_reducible apply m_cat
  | with_reducible apply m_list
  | with_reducible apply w_lcLU
  | with_reducible apply w_lcTU
  | with_reducible apply s_forTU
  | (with_reducible apply lcU_nil)
  | (with_reducible apply unr_nil)
  | with_reducible apply unr_one
  | ((with_reducible show LcU _ _ _ _ _ _ _ _ _); (refine lcU_one rfl (Nat.lt_of_succ_le (Nat.le_of_ble_eq_true rfl)) ?_))
  | ((with_reducible show (_ = true → _) ∧ (_ = false → _)); (first | refine ybt rfl ?_ | refine ybf rfl ?_))
  | ((with_reducible show (_ = false → _) ∧ (_ = true → _)); (first | refine obt rfl ?_ | refine obf rfl ?_))
  | with_reducible apply yt
  | with_reducible apply yf
  | with_reducible apply fy
  | with_reducible apply ft
  | ((with_reducible apply f_frz); (case e => exact rfl))
  | with_reducible apply s_asgG
  | (refine Exists.intro _ (And.intro (g_lst (by repeat (first | exact gs_nil | apply gs_one)) rfl) ?_))
  | (refine Exists.intro _ (And.intro (g_tup (by repeat (first | exact gs_nil | apply gs_one)) rfl) ?_))
  | with_reducible apply c_lenL
  | with_reducible apply c_lenT
  | with_reducible apply c_listL
  | with_reducible apply c_listT
  | with_reducible apply c_tupL
  | with_reducible apply c_abs
  | with_reducible apply c_int
  | with_reducible apply c_min
  | with_reducible apply rc_gcd
  | with_reducible apply rb_b
  | (refine And.intro (Nat.lt_of_succ_le (Nat.le_of_ble_eq_true rfl)) ?_)
  | with_reducible refine Exists.intro _ (And.intro rfl ?_)
  | refine And.intro (Nat.le_of_ble_eq_true rfl) ?_
  ))
variable {P : Program} {w : World} {K : PySem.W.Frag} {mg : Str → Option Value} {base : Heap}
variable {S : Zs} {cl : Str → Addr}
theorem pss_any {X : Cx} {body : List Stmt} {T : Zs → L2.TS} (h : ∀ S, PSs X body (T S)) : PSs X body (fun D σ H => ∃ S, T S D σ H) := ⟨fun pins s σ H D I ⟨S, q⟩ => (h S).run pins s σ H D I q⟩
def spStream (K : PySem.W.Frag) : Sp := fun vs H Q _ => ∃ (a : Addr) (ns : List Int), vs = [.ref a] ∧ SqL K H a (ns.map V.int) ∧ ∀ l p, H l = none → upd H l (.lst (ns.map V.int)) p = none → Q (.ref p) (upd (upd H l (.lst (ns.map V.int))) p (.lst [.ref l, .int 0, .int 0]))
abbrev n__law_stream : List Str := ["script"]
abbrev s__law_stream : Stmt := top 74
theorem sc__law_stream : FnScope ["script"] ["script"] (defScope s__law_stream) := ⟨rfl, rfl, rfl, by decide +kernel, rfl, by decide +kernel, by decide +kernel⟩
theorem h__law_stream (B : Bl mg) (d : DefAt K mg "_law_stream" s__law_stream []) : Has P w K mg base CX0 "_law_stream" 1 [] (spStream K) := by
  refine d.has (fun _ _ _ _ _ _ us hl => match us, hl with | [_], _ => rfl) fun f fd D => D.ok sc__law_stream (fun vs H Q E ⟨a, ns, e, _⟩ => by rw [e]; rfl) fun cdv A outer s H vs Q E hr h => ⟨_, PSs.nox ((pss_one (ps_ret (pe_lst (pa_cons (pe_callTy (kList (K := K)) (by rfl) B.list (by decide +kernel) (pa_cons (pv 0) pa_nil)) (pa_cons pe_int (pa_cons pe_int pa_nil))))))), ?_⟩
  obtain ⟨a, ns, rfl, hs, q⟩ := h
  exact ⟨.ref a, rfl, a, _, rfl, .inl hs, fun l hl => ⟨by show 3 ≤ sizeLine; decide, fun p hp => q l p hl hp⟩⟩
def spLaw (K : PySem.W.Frag) : Sp := fun vs H Q _ => ∃ (a : Addr) (ns : List Int), vs = [.ref a] ∧ SqL K H a (ns.map V.int) ∧ ∀ H', Q (.bl true) H'
def YRow (cl : Str → Addr) (d : D) : Prop := ∃ word a due, d = .tuple [.str word, a, due] ∧ Asked cl word a (toldD due)
theorem fig11 {x : Rat} (h : Sz 11 x) : wFig 150 x = true := fig_of h (by decide +kernel)
theorem ok_small {t : Tf} (h : TS 11 5 t) (h0 : t.det ≠ 0) : OkT t := ⟨h0, by
  unfold figT
  rw [fig11 h.a, fig11 h.b, fig11 h.c, fig11 h.d, fig11 (h.e.mono (by decide)), fig11 (h.f.mono (by decide))]
  rfl⟩
theorem ok_e {t : Tf} {z : Rat} (h : TS 11 5 t) (h0 : t.det ≠ 0) (hz : wFig 150 z = true) : OkT ⟨t.a, t.b, t.c, t.d, z, t.f⟩ := ⟨h0, by
  show (wFig 150 t.a && (wFig 150 t.b && (wFig 150 t.c && (wFig 150 t.d && (wFig 150 z && (wFig 150 t.f && true)))))) = true
  rw [fig11 h.a, fig11 h.b, fig11 h.c, fig11 h.d, hz, fig11 (h.f.mono (by decide))]
  rfl⟩
theorem ok_f {t : Tf} {z : Rat} (h : TS 11 5 t) (h0 : t.det ≠ 0) (hz : wFig 150 z = true) : OkT ⟨t.a, t.b, t.c, t.d, t.e, z⟩ := ⟨h0, by
  show (wFig 150 t.a && (wFig 150 t.b && (wFig 150 t.c && (wFig 150 t.d && (wFig 150 t.e && (wFig 150 z && true)))))) = true
  rw [fig11 h.a, fig11 h.b, fig11 h.c, fig11 h.d, fig11 (h.e.mono (by decide)), hz]
  rfl⟩
theorem ok_rows {a b c d e f : Rat} (ha : Sz 7 a) (hb : Sz 7 b) (hc : Sz 7 c) (hd : Sz 7 d) (he : Sz 5 e) (hf : Sz 5 f) (h0 : a * d - b * c ≠ 0) : OkT ⟨a, b, c, d, e, f⟩ := ok_small (t := ⟨a, b, c, d, e, f⟩) ⟨ha.mono (by decide), hb.mono (by decide), hc.mono (by decide), hd.mono (by decide), he, hf⟩ h0
theorem figP_of {n : Nat} {p : Pt} (h : PSz n p) (l : 2 ^ n ≤ 10 ^ 300) : figP p = true := by
  unfold figP
  rw [fig_of h.1 l, fig_of h.2 l]
  rfl
theorem longD_of {l : List Sg} (h : ∀ s ∈ l, SSz 7 s) : longD l = true := by
  unfold longD
  rw [all_id', List.all_eq_true]
  intro x hx
  obtain ⟨s, hs, hx⟩ := List.mem_flatMap.mp hx
  have q := h s hs
  simp only [snum, List.mem_cons, List.not_mem_nil, or_false] at hx
  rcases hx with rfl | rfl | rfl | rfl
  · exact fig11 (q.1.1.mono (by decide))
  · exact fig11 (q.1.2.mono (by decide))
  · exact fig11 (q.2.1.mono (by decide))
  · exact fig11 (q.2.2.mono (by decide))
/-- the points that are drawn, the transforms that are drawn -/
structure Drawn3 (one two : Tf) (p : Pt) : Prop where
  o : OkT one
  t : OkT two
  ts1 : TS 11 499 one
  ts2 : TS 11 499 two
  ps : PSz 997 p
  pf : figP p = true
theorem s_forLA {Γ : Gam} {ρ : Rho} {nx bk ct : Rho → Prop} {rt : D → Prop} {tb : L2.TS} {tl : TE} {g : TG} {P : D → Prop} (h : AL.WE Γ tl ρ fun x => ∃ ds, x = .list ds ∧ (∀ d ∈ ds, P d) ∧ ∃ Pv : Rho → Prop, Pv ρ ∧ (∀ d ρ', P d → Pv ρ' → ∃ js, WG Γ.K g d js ∧ AL.WS Γ tb (putD ρ' js) Pv rt nx Pv) ∧ ∀ ρ', Pv ρ' → nx ρ') : AL.WS Γ (tFor (iList Γ.K tl) g tb) ρ nx rt bk ct :=
  s_forL (h.mono fun x ⟨ds, e, hP, Pv, p0, ps, pe⟩ => ⟨ds, e, fun _ ρ' => Pv ρ', p0, fun i d ρ' hd pv => ps d ρ' (hP d (List.mem_of_getElem? hd)) pv, pe⟩)
theorem sub_on (t : Tf) (p q : Pt) : (t.on q).sub (t.on p) = ⟨t.a * (q.x - p.x) + t.b * (q.y - p.y), t.c * (q.x - p.x) + t.d * (q.y - p.y)⟩ := by
  have h : ∀ {u v : Pt}, u.x = v.x → u.y = v.y → u = v := fun {u v} h1 h2 => by
    cases u; cases v
    simp only at h1 h2
    subst h1 h2
    rfl
  refine h ?_ ?_ <;> simp only [Pt.sub, Tf.on] <;> grind
theorem sub_sz {t : Tf} {p q : Pt} (h : TS 11 499 t) (hp : PSz 47 p) (hq : PSz 47 q) : PSz 213 ((t.on q).sub (t.on p)) := by
  rw [sub_on]
  exact ⟨((h.a.mul (hq.1.sub hp.1)).add (h.b.mul (hq.2.sub hp.2))).mono (by decide), ((h.c.mul (hq.1.sub hp.1)).add (h.d.mul (hq.2.sub hp.2))).mono (by decide)⟩
theorem thr_of {a b c : Pt} (ha : PSz 47 a) (hb : PSz 47 b) (hc : PSz 47 c) (h0 : tri a b c ≠ 0) : Thr 47 a b c := ⟨ha, hb, hc, h0, by
  rw [figP_of ha (by decide +kernel), figP_of hb (by decide +kernel), figP_of hc (by decide +kernel)]
  rfl⟩
theorem thr_on {t : Tf} {a b c : Pt} (ht : TS 11 499 t) (hd : t.det ≠ 0) (h : Thr 47 a b c) : Thr 617 (t.on a) (t.on b) (t.on c) := by
  have pa : PSz 617 (t.on a) := (ht.on h.hp).mono (by decide)
  have pb : PSz 617 (t.on b) := (ht.on h.hq).mono (by decide)
  have pc : PSz 617 (t.on c) := (ht.on h.hr).mono (by decide)
  exact ⟨pa, pb, pc, by rw [tri_on]; exact mz hd h.ht, by
    rw [figP_of pa (by decide +kernel), figP_of pb (by decide +kernel), figP_of pc (by decide +kernel)]
    rfl⟩
theorem unit_sz : TSz 1 Tf.unit := ⟨sz1, sz0, sz0, sz1, sz0, sz0⟩
theorem two_sz {t : Tf} (h : TS 11 499 t) {i : Nat} (hi : i < 6) : TSz 1504 (pw t i) := by
  cases i with
  | zero => exact unit_sz.mono (by decide)
  | succ n => exact (two_pw h (by omega)).sz (by decide) (by decide)
abbrev n_law : List Str := ["script", "stream", "one", "two", "p", "drawing", "rows", "images", "cycle", "skew", "asked", "even", "row", "refused", "turn", "q"]
abbrev s_law : Stmt := top 128
theorem sc_law : FnScope ["script", "stream", "one", "two", "p", "drawing", "rows", "images", "cycle", "skew", "asked", "even", "row", "refused", "turn", "q"] ["script"] (defScope s_law) := ⟨rfl, rfl, rfl, by decide +kernel, rfl, by decide +kernel, by decide +kernel⟩
theorem k_law (B : Bl mg) {aU : Addr} (g_unit : GUnit K mg aU) (h__law_stream : Has P w K mg base CX0 "_law_stream" 1 [] (spStream K)) (h__law_same : Has P w K mg base CX0 "_law_same" 6 [] (spOf K none (c_same 5))) (h__law_unit : Has P w K mg base CX0 "_law_unit" 1 [] (spOf K none (c_lunit))) (h__law_asked : Has P w K mg base CX0 "_law_asked" 9 [] (spOf K none (c_asked cl))) (h__law_pick : ∀ S : Zs, Has P w K mg base CX0 "_law_pick" 2 [] (spOf K (some S) (c_pick S))) (h__law_refusals : ∀ S : Zs, Has P w K mg base CX0 "_law_refusals" 5 [] (spOf K (some S) (c_refusals cl S))) (h__law_point : ∀ S : Zs, Has P w K mg base CX0 "_law_point" 3 [] (spOf K (some S) (c_lpoint S))) (h__law_three_refusals : ∀ S : Zs, Has P w K mg base CX0 "_law_three_refusals" 5 [] (spOf K (some S) (c_tref cl S))) (h__law_order : Has P w K mg base CX0 "_law_order" 7 [] (spOf K none (c_lorder))) (h__law_scale : Has P w K mg base CX0 "_law_scale" 4 [] (spOf K none (c_lscale))) (h__law_even_rows : ∀ S : Zs, Has P w K mg base CX0 "_law_even_rows" 2 [] (spOf K (some S) (c_even S))) (h__law_det : Has P w K mg base CX0 "_law_det" 4 [] (spOf K none (c_ldet))) (h__law_back : Has P w K mg base CX0 "_law_back" 6 [] (spOf K none (c_lback))) (h__law_chain : Has P w K mg base CX0 "_law_chain" 6 [] (spOf K none (c_lchain))) (h__law_placed : Has P w K mg base CX0 "_law_placed" 6 [] (spOf K none (c_lplaced))) (h__law_image : Has P w K mg base CX0 "_law_image" 5 [] (spOf K none (c_image))) (h__law_alike_rows : ∀ S : Zs, Has P w K mg base CX0 "_law_alike_rows" 4 [] (spOf K (some S) (c_rows4 S 7))) (h__law_cycle : ∀ S : Zs, Has P w K mg base CX0 "_law_cycle" 7 [] (spOf K (some S) (c_cycle S))) (h__law_three : ∀ S : Zs, Has P w K mg base CX0 "_law_three" 6 [] (spOf K (some S) (c_lthree S))) (h__law_drawing : ∀ S : Zs, Has P w K mg base CX0 "_law_drawing" 6 [] (spOf K (some S) (c_drawing S))) (h__law_next : ∀ S : Zs, Has P w K mg base CX0 "_law_next" 1 [] (spOf K (some S) (c_next S))) (h__law_great_number : ∀ S : Zs, Has P w K mg base CX0 "_law_great_number" 3 [] (spOf K (some S) (c_great S))) (h__law_transform : ∀ S : Zs, Has P w K mg base CX0 "_law_transform" 5 [] (spOf K (some S) (c_ltrans S))) {f : Addr} {fd : FuncData} (D : FunD K "law" "law" (defArgs s_law) (defBody s_law) (defScope s_law) [] [] f fd) : FnOk P w K mg base CX0 10 f fd ["script"] (spLaw K) := by
  refine D.ok sc_law (fun vs H Q E ⟨a, ns, e, _⟩ => by rw [e]; rfl) fun cdv A outer s H vs Q E hr h => ⟨_, PSs.nox (pss_cons (ps_set (i := 1) sc_law.nd rfl (Or.inl rfl) (pe_has h__law_stream (hr.mono (by decide)) pass0 (pa_cons (pv 0) pa_nil))) (pss_any fun S => (pss_cons (ps_set (i := 2) sc_law.nd rfl (Or.inl rfl) (pe_has (h__law_transform S) (hr.mono (by decide)) pass0 (pa_cons (pv 1) pa_nil)))
      (pss_cons (ps_set (i := 3) sc_law.nd rfl (Or.inr rfl) (pe_has (h__law_transform S) (hr.mono (by decide)) pass0 (pa_cons (pv 1) pa_nil)))
      (pss_cons (ps_set (i := 4) sc_law.nd rfl (Or.inl rfl) (pe_has (h__law_point S) (hr.mono (by decide)) pass0 (pa_cons (pv 1) pa_nil)))
      (pss_cons (ps_if (pt_cmpR (kEq (K := K) hr.units) (pe_has (h__law_next S) (hr.mono (by decide)) pass0 (pa_cons (pv 1) (pa_cons pe_int pa_nil))) pe_int (nomark _)) (pss_cons (ps_set (i := 2) sc_law.nd rfl (Or.inl rfl) (pe_op (kAdd (K := K)) (pe_slice (kSl (K := K)) (pv 2) po_none (po_some pe_int)) (pe_tup (pa_cons (pe_has (h__law_great_number S) (hr.mono (by decide)) pass0 (pa_cons (pv 1) (pa_cons pe_int pa_nil))) (pa_cons (pe_ix (kIx (K := K)) (pv 2) pe_int (fun _ _ => rfl)) pa_nil)))))
      (pss_cons (ps_set (i := 3) sc_law.nd rfl (Or.inr rfl) (pe_op (kAdd (K := K)) (pe_slice (kSl (K := K)) (pv 3) po_none (po_some pe_int)) (pe_tup (pa_cons (pe_has (h__law_great_number S) (hr.mono (by decide)) pass0 (pa_cons (pv 1) (pa_cons pe_int pa_nil))) pa_nil))))
      (pss_one (ps_set (i := 4) sc_law.nd rfl (Or.inl rfl) (pe_tup (pa_cons (pe_has (h__law_great_number S) (hr.mono (by decide)) pass0 (pa_cons (pv 1) (pa_cons pe_int pa_nil))) (pa_cons (pe_ix (kIx (K := K)) (pv 4) pe_int (fun _ _ => rfl)) pa_nil))))))) pss_nil)
      (pss_cons (ps_set (i := 5) sc_law.nd rfl (Or.inl rfl) (pe_has (h__law_drawing S) (hr.mono (by decide)) pass0 (pa_cons (pv 1) (pa_cons pe_int pa_nil))))
      (pss_cons (ps_set (i := 6) sc_law.nd rfl (Or.inl rfl) (pe_has (h__law_three S) (hr.mono (by decide)) pass0 (pa_cons (pv 1) pa_nil)))
      (pss_cons (ps_setLc (i := 7) (own := [("q", 15)]) (g := gName 15) (tt := tYes) rfl sc_law.nd rfl rfl (sw_true rfl rfl rfl (by decide +kernel)) (kiList (K := K) (pv 6)) (blkOk_by (own := [("q", 15)]) (N := n_law) (sc := defScope s_law) (by decide +kernel)) (fun _ _ _ _ _ => (pg_name (i := 15) sc_law.nd rfl (Or.inl rfl))) (fun _ _ _ _ _ => pts_nil) (fun _ _ _ _ _ => (pe_has h__law_image (hr.mono (by decide)) pass0 (pa_cons (pv 3) (pa_cons (pv 15) pa_nil)))))
      (pss_cons (ps_set (i := 8) sc_law.nd rfl (Or.inl rfl) (pe_has (h__law_cycle S) (hr.mono (by decide)) pass0 (pa_cons (pv 1) pa_nil)))
      (pss_cons (ps_set (i := 9) sc_law.nd rfl (Or.inl rfl) (pe_op (kAdd (K := K)) (pe_has (h__law_alike_rows S) (hr.mono (by decide)) pass0 (pa_cons (pv 1) pa_nil)) (pe_tup (pa_cons (pe_tup (pa_cons pe_int (pa_cons pe_int pa_nil))) (pa_cons (pe_tup (pa_cons pe_int (pa_cons pe_int pa_nil))) pa_nil)))))
      (pss_cons (ps_setM (i := 10) sc_law.nd rfl (Or.inl rfl) (pe_lst (pa_cons (pe_tup (pa_cons pe_str (pa_cons (pe_tup (pa_cons (pv 2) (pa_cons (pv 4) pa_nil))) (pa_cons (pe_has h__law_image (hr.mono (by decide)) pass0 (pa_cons (pv 2) (pa_cons (pv 4) pa_nil))) pa_nil)))) (pa_cons (pe_tup (pa_cons pe_str (pa_cons (pe_tup (pa_cons (pv 3) (pa_cons (pv 5) pa_nil))) (pa_cons (pe_has h__law_placed (hr.mono (by decide)) pass0 (pa_cons (pv 3) (pa_cons (pv 5) pa_nil))) pa_nil)))) (pa_cons (pe_tup (pa_cons pe_str (pa_cons (pe_tup (pa_cons (pv 3) pa_nil)) (pa_cons pe_bl pa_nil)))) pa_nil)))))
      (pss_cons (ps_setM (i := 10) sc_law.nd rfl (Or.inl rfl) (pe_op (kAdd (K := K)) (pv 10) (pe_lst (pa_cons (pe_tup (pa_cons pe_str (pa_cons (pe_tup (pa_cons (pv 2) (pa_cons (pv 3) pa_nil))) (pa_cons (pe_has h__law_chain (hr.mono (by decide)) pass0 (pa_cons (pv 2) (pa_cons (pv 3) pa_nil))) pa_nil)))) (pa_cons (pe_tup (pa_cons pe_str (pa_cons (pe_tup (pa_cons (pv 8) (pa_cons (pv 9) pa_nil))) (pa_cons (pe_has h__law_chain (hr.mono (by decide)) pass0 (pa_cons (pv 8) (pa_cons (pv 9) pa_nil))) pa_nil)))) pa_nil)))))
      (pss_cons (ps_setM (i := 10) sc_law.nd rfl (Or.inl rfl) (pe_op (kAdd (K := K)) (pv 10) (pe_lst (pa_cons (pe_tup (pa_cons pe_str (pa_cons (pe_tup (pa_cons (pv 2) pa_nil)) (pa_cons (pe_has h__law_back (hr.mono (by decide)) pass0 (pa_cons (pv 2) pa_nil)) pa_nil)))) (pa_cons (pe_tup (pa_cons pe_str (pa_cons (pe_tup (pa_cons (pv 2) pa_nil)) (pa_cons (pe_has h__law_det (hr.mono (by decide)) pass0 (pa_cons (pv 2) pa_nil)) pa_nil)))) (pa_cons (pe_tup (pa_cons pe_str (pa_cons (pe_tup (pa_cons (pv 2) pa_nil)) (pa_cons (pe_has h__law_scale (hr.mono (by decide)) pass0 (pa_cons (pv 2) pa_nil)) pa_nil)))) pa_nil))))))
      (pss_cons (ps_set (i := 11) sc_law.nd rfl (Or.inl rfl) (pe_op (kAdd (K := K)) (pe_has (h__law_even_rows S) (hr.mono (by decide)) pass0 (pa_cons (pv 1) pa_nil)) (pe_tup (pa_cons (pe_tup (pa_cons pe_int (pa_cons pe_int pa_nil))) (pa_cons (pe_tup (pa_cons pe_int (pa_cons pe_int pa_nil))) pa_nil)))))
      (pss_cons (ps_setM (i := 10) sc_law.nd rfl (Or.inl rfl) (pe_op (kAdd (K := K)) (pv 10) (pe_lst (pa_cons (pe_tup (pa_cons pe_str (pa_cons (pe_tup (pa_cons (pv 9) pa_nil)) (pa_cons (pe_has h__law_scale (hr.mono (by decide)) pass0 (pa_cons (pv 9) pa_nil)) pa_nil)))) (pa_cons (pe_tup (pa_cons pe_str (pa_cons (pe_tup (pa_cons (pv 11) pa_nil)) (pa_cons (pe_has h__law_scale (hr.mono (by decide)) pass0 (pa_cons (pv 11) pa_nil)) pa_nil)))) (pa_cons (pe_tup (pa_cons pe_str (pa_cons (pe_tup (pa_cons (pv 8) pa_nil)) (pa_cons (pe_has h__law_order (hr.mono (by decide)) pass0 (pa_cons (pv 8) pa_nil)) pa_nil)))) (pa_cons (pe_tup (pa_cons pe_str (pa_cons (pe_tup (pa_cons (pv 3) pa_nil)) (pa_cons (pe_has h__law_order (hr.mono (by decide)) pass0 (pa_cons (pv 3) pa_nil)) pa_nil)))) pa_nil)))))))
      (pss_cons (ps_expr (kApp (K := K) (pv 10) (pa_cons (pe_tup (pa_cons pe_str (pa_cons (pe_tup (pa_cons (pv 6) (pa_cons (pv 7) pa_nil))) (pa_cons (pv 3) pa_nil)))) pa_nil)))
      (pss_frz 10 (pss_cons (ps_for PassesOwn.never rfl (kiList (K := K) (pv 10)) (pg_name (i := 12) sc_law.nd rfl (Or.inl rfl)) (pss_one (ps_if (pt_not (pt_val (pe_has h__law_asked (hr.mono (by decide)) pass0 (pa_cons (pe_ix (kIx (K := K)) (pv 12) pe_int (fun _ _ => rfl)) (pa_cons (pe_ix (kIx (K := K)) (pv 12) pe_int (fun _ _ => rfl)) (pa_cons (pe_lst (pa_cons pe_str (pa_cons (pe_ix (kIx (K := K)) (pv 12) pe_int (fun _ _ => rfl)) pa_nil))) pa_nil)))))) (pss_one (ps_ret pe_bl)) pss_nil)))
      (pss_cons (ps_set (i := 13) sc_law.nd rfl (Or.inl rfl) (pe_op (kAdd (K := K)) (pe_has (h__law_refusals S) (hr.mono (by decide)) pass0 (pa_cons (pv 1) (pa_cons (pv 2) (pa_cons (pe_has (h__law_point S) (hr.mono (by decide)) pass0 (pa_cons (pv 1) pa_nil)) pa_nil)))) (pe_has (h__law_three_refusals S) (hr.mono (by decide)) pass0 (pa_cons (pv 1) (pa_cons (pv 6) (pa_cons (pv 7) pa_nil))))))
      (pss_cons (ps_for PassesOwn.never rfl (pi_range1 (by rfl) B.range (pa_cons pe_int pa_nil)) (pg_name (i := 14) sc_law.nd rfl (Or.inl rfl)) (pss_cons (ps_set (i := 12) sc_law.nd rfl (Or.inl rfl) (pe_has (h__law_pick S) (hr.mono (by decide)) pass0 (pa_cons (pv 1) (pa_cons (pv 13) pa_nil))))
      (pss_one (ps_if (pt_not (pt_val (pe_has h__law_asked (hr.mono (by decide)) pass0 (pa_cons (pe_ix (kIx (K := K)) (pv 12) pe_int (fun _ _ => rfl)) (pa_cons (pe_ix (kIx (K := K)) (pv 12) pe_int (fun _ _ => rfl)) (pa_cons (pe_ix (kIx (K := K)) (pv 12) pe_int (fun _ _ => rfl)) pa_nil)))))) (pss_one (ps_ret pe_bl)) pss_nil))))
      (pss_one (ps_ret (pe_has h__law_same (hr.mono (by decide)) pass0 (pa_cons (pe_gref g_unit.m) (pa_cons (pe_has0 h__law_unit (hr.mono (by decide)) pass0) pa_nil)))))))))))))))))))))))))), ?_⟩
  obtain ⟨a0, ns, rfl, hs, q⟩ := h
  refine ⟨.ref a0, rfl, a0, ns, rfl, hs, fun l p hl hp => ⟨⟨p, l, ns⟩, ?_⟩⟩
  generalize hS : (⟨p, l, ns⟩ : Zs) = S
  have pne : p ≠ l := fun e => by
    rw [e, upd_same] at hp
    cases hp
  have eS : S.a = p := by rw [← hS]
  have w0 : Wd (some S) (upd (fun _ => none) l (.lst (ns.map V.int))) (upd (upd H l (.lst (ns.map V.int))) p (.lst [.ref l, .int 0, .int 0])) := by
    subst hS
    refine ⟨fun x o e => ?_, fun s' e => ?_⟩
    · by_cases h : x = l
      · subst h
        rw [upd_same] at e
        rw [upd_ne pne.symm, upd_same]
        exact e
      · rw [upd_ne h] at e
        cases e
    · cases e
      exact ⟨by show upd _ _ _ p = none; rw [upd_ne pne], upd_same, 0, 0, upd_same, by decide, by decide⟩
  clear hs hS
  refine (?hw : AL.WS ⟨K, some S, E0, fun _ => False⟩ _ [none, some (.o (.ref S.a)), none, none, none, none, none, none, none, none, none, none, none, none, none, none] (fun _ => False) (fun d => d = .bool true) (fun _ => False) (fun _ => False)) _ _ _ _ _ _ ⟨⟨w0, ⟨rfl, fun i => ?_⟩, fun _ _ _ _ _ _ _ _ z => z.elim⟩, w0, fun _ _ _ _ _ _ _ _ z => z.elim, .refl, ⟨fun i ds e => ?_, fun i j ds es a e1 _ _ _ => ?_⟩⟩ (fun _ _ _ _ _ _ z => z.elim) (fun _ _ _ _ _ _ z => z.elim) (fun _ _ _ _ _ _ z => z.elim) (fun v d F' H' _ _ p e => ?_)
  case hw =>
    try dsimp only [cxOf]
    clear w0 eS pne hp hl q hr E
    walk_at "w"
    refine ⟨rfl, fun one h1 m1 n1 d1 => ?_⟩
    walk_at "w"
    refine ⟨rfl, fun two h2 m2 n2 d2 => ?_⟩
    walk_at "w"
    refine ⟨rfl, fun p hp => ?_⟩
    refine s_seq (AL.s_mono (nx := fun ρ' => ∃ one two p, ρ' = [none, some (.o (.ref S.a)), some (.i (tfD one)), some (.i (tfD two)), some (.i (ptD p)), none, none, none, none, none, none, none, none, none, none, none] ∧ Drawn3 one two p) ?_ (fun ρ' hρ => ?_) (fun _ h => h) (fun _ h => h) (fun _ h => h))
    · skip
      walk_at "w"
      refine ⟨_, rfl, by decide, lt_9000 (by decide) (by decide), fun r r1 r2 => ?_⟩
      walk_at "w"
      refine yn (fun h => ?_) (fun h => ?_)
      · walk_at "w"
        refine ⟨150, rfl, .inl rfl, fun z1 hz1 => ?_⟩
        walk_at "w"
        refine ⟨150, rfl, .inl rfl, fun z2 hz2 => ?_⟩
        walk_at "w"
        refine ⟨300, rfl, .inr rfl, fun z3 hz3 => ?_⟩
        walk_at "w"
        exact ⟨⟨one.a, one.b, one.c, one.d, z1, one.f⟩, ⟨two.a, two.b, two.c, two.d, two.e, z2⟩, ⟨z3, p.y⟩, rfl, ok_e h1 d1 hz1, ok_f h2 d2 hz2, ⟨h1.a, h1.b, h1.c, h1.d, Sz_wFig hz1 ten150, h1.f.mono (by decide)⟩, ⟨h2.a, h2.b, h2.c, h2.d, h2.e.mono (by decide), Sz_wFig hz2 ten150⟩, ⟨Sz_wFig hz3 ten300, hp.2.mono (by decide)⟩, by
          show (wFig 300 z3 && wFig 300 p.y) = true
          rw [hz3, fig_of hp.2 (by decide +kernel)]
          rfl⟩
      · walk_at "w"
        exact ⟨one, two, p, rfl, ok_small h1 d1, ok_small h2 d2, h1.mono (by decide) (by decide), h2.mono (by decide) (by decide), hp.mono (by decide), figP_of hp (by decide +kernel)⟩
    clear h1 h2 d1 d2 hp m1 n1 m2 n2 one two p
    obtain ⟨one, two, p, rfl, hd⟩ := hρ
    have t1 := hd.ts1
    have t2 := hd.ts2
    walk_at "w"
    refine ⟨rfl, fun dr dl dz => ?_⟩
    walk_at "w"
    refine ⟨rfl, fun a b c ha hb hc h0 => ?_⟩
    walk_at "w"
    refine ⟨two, a, 11, 499, 47, rfl, t2, ha, by decide, ?_⟩
    walk_at "w"
    refine ⟨two, b, 11, 499, 47, rfl, t2, hb, by decide, ?_⟩
    walk_at "w"
    refine ⟨two, c, 11, 499, 47, rfl, t2, hc, by decide, ?_⟩
    walk_at "w"
    refine ⟨rfl, fun ma mb mc md me mf ct hm h3 h3e h3f d3 => ?_⟩
    have hcy : OkT ((ct.inv.chain (tfI ma mb mc md me mf)).chain ct) := ⟨cycle_det hm d3, cycle_fig hm h3 h3e h3f d3⟩
    have pcy := fun n hn => cycle_pw hm h3 d3 (n := n) hn
    clear hm h3 h3e h3f d3
    generalize (ct.inv.chain (tfI ma mb mc md me mf)).chain ct = cy at *
    walk_at "w"
    refine ⟨rfl, fun sa sb sc sd ga gb gc gd g0 => ?_⟩
    have hsk : OkT ⟨sa, sb, sc, sd, mkRat 1 2, 0⟩ := ok_rows ga gb gc gd (by decide +kernel) (by decide +kernel) g0
    have ssk : TS 7 2 ⟨sa, sb, sc, sd, mkRat 1 2, 0⟩ := ⟨ga, gb, gc, gd, (by decide +kernel : Sz 2 (mkRat 1 2)), (by decide +kernel : Sz 2 0)⟩
    have scy : TS 349 681 cy := by
      have := pcy 1 (by decide)
      rw [pw_one] at this
      exact this
    walk_at "w"
    refine ⟨one, p, 11, 499, 997, rfl, t1, hd.ps, by decide, ?_⟩
    walk_at "w"
    refine ⟨two, dr, 11, 499, 7, rfl, t2, dz, by decide, by omega, ?_⟩
    walk_at "w"
    refine ⟨one, two, 11, 499, 11, 499, rfl, t1, t2, by decide, by decide, ?_⟩
    walk_at "w"
    refine ⟨cy, ⟨sa, sb, sc, sd, mkRat 1 2, 0⟩, 349, 681, 7, 2, rfl, scy, ssk, by decide, by decide, ?_⟩
    walk_at "w"
    refine ⟨one, 11, 499, rfl, t1, hd.o.d, by decide, ?_⟩
    walk_at "w"
    refine ⟨one, 11, 499, rfl, t1, by decide, ?_⟩
    walk_at "w"
    refine ⟨one, 11, 499, rfl, t1, by decide, ?_⟩
    walk_at "w"
    refine ⟨rfl, fun ea eb ec ed ga2 gb2 gc2 gd2 g02 => ?_⟩
    have hev : OkT ⟨ea, eb, ec, ed, 0, mkRat 5 3⟩ := ok_rows (ga2.mono (by decide)) (gb2.mono (by decide)) (gc2.mono (by decide)) (gd2.mono (by decide)) (by decide +kernel) (by decide +kernel) g02
    have sev : TS 7 3 ⟨ea, eb, ec, ed, 0, mkRat 5 3⟩ := ⟨ga2.mono (by decide), gb2.mono (by decide), gc2.mono (by decide), gd2.mono (by decide), (by decide +kernel : Sz 3 0), (by decide +kernel : Sz 3 (mkRat 5 3))⟩
    walk_at "w"
    refine ⟨⟨sa, sb, sc, sd, mkRat 1 2, 0⟩, 7, 2, rfl, ssk, by decide, ?_⟩
    walk_at "w"
    refine ⟨⟨ea, eb, ec, ed, 0, mkRat 5 3⟩, 7, 3, rfl, sev, by decide, ?_⟩
    walk_at "w"
    refine ⟨cy, 349, 681, rfl, scy, fun i hi => ⟨349, 681, pcy (i + 1) (by omega), by decide, by decide⟩, ?_⟩
    walk_at "w"
    refine ⟨two, 11, 499, rfl, t2, fun i hi => ⟨540, 1504, two_pw t2 (by omega), by decide, by decide⟩, ?_⟩
    walk_at "w"
    have hthr := thr_of ha hb hc h0
    have himg := thr_on t2 hd.t.d hthr
    refine s_forLA (P := YRow cl) ?_
    walk_at "w"
    refine ⟨?_, fun ρ' => ∃ s5 s8 s9 s10 s11 s12 s13 s14 s15 : Option AV, ρ' = [none, some (.o (.ref S.a)), some (.i (tfD one)), some (.i (tfD two)), some (.i (ptD p)), s5, some (.i (th a b c)), some (.i (th (two.on a) (two.on b) (two.on c))), s8, s9, s10, s11, s12, s13, s14, s15], ⟨_, _, _, _, _, _, _, _, _, rfl⟩, fun z ρ' hz hρ => ?_, fun ρ' hρ => ?_⟩
    · skip
      repeat' (first | refine List.forall_mem_append.mpr ⟨?_, ?_⟩ | refine List.forall_mem_cons.mpr ⟨?_, ?_⟩ | exact fun _ h => absurd h List.not_mem_nil)
      · exact ⟨_, _, _, rfl, y_point hd.o hd.pf⟩
      · exact ⟨_, _, _, rfl, y_drawing hd.t (longD_of dz) (by omega)⟩
      · exact ⟨_, _, _, rfl, is_yes (n := 499) (t2.sz (by decide) (by decide)) (by decide) hd.t.d⟩
      · exact ⟨_, _, _, rfl, y_chain hd.o hd.t⟩
      · exact ⟨_, _, _, rfl, y_chain hcy hsk⟩
      · exact ⟨_, _, _, rfl, y_back hd.o⟩
      · exact ⟨_, _, _, rfl, y_whole hd.o⟩
      · exact ⟨_, _, _, rfl, y_scale hd.o⟩
      · exact ⟨_, _, _, rfl, y_scale hsk⟩
      · exact ⟨_, _, _, rfl, y_scale hev⟩
      · exact ⟨_, _, _, rfl, y_order (m := 681) (n := 681) hcy (scy.sz (by decide) (by decide)) (fun i hi => (pcy i (by omega)).sz (by decide) (by decide)) (by decide)⟩
      · exact ⟨_, _, _, rfl, y_order (m := 499) (n := 1504) hd.t (t2.sz (by decide) (by decide)) (fun i hi => two_sz t2 hi) (by decide)⟩
      · exact ⟨_, _, _, rfl, y_three (m := 47) (n := 617) (j := 213) hthr himg (sub_sz t2 ha hb) (sub_sz t2 ha hc) (by decide) (by decide) (by decide) (by decide) (by decide)⟩
    · obtain ⟨s5, s8, s9, s10, s11, s12, s13, s14, s15, rfl⟩ := hρ
      obtain ⟨word, x, due, rfl, hask⟩ := hz
      refine ⟨_, g_name, ?_⟩
      walk_at "w"
      refine ⟨_, _, _, rfl, hask.ha, hask.hd, hask.ht, ?_⟩
      walk_at "w"
      exact ⟨_, _, _, _, _, _, _, _, _, rfl⟩
    obtain ⟨s5, s8, s9, s10, s11, s12, s13, s14, s15, rfl⟩ := hρ
    walk_at "w"
    refine ⟨rfl, fun pp hpp => ?_⟩
    walk_at "w"
    refine ⟨one, pp, rfl, hd.o, hpp, fun e1 l1 l2 hr1 => ?_⟩
    walk_at "w"
    refine ⟨a, b, c, two.on a, two.on b, two.on c, rfl, hthr, ⟨himg.hp.mono (by decide), himg.hq.mono (by decide), himg.hr.mono (by decide), himg.ht, himg.hf⟩, fun e2 l3 hr2 => ?_⟩
    refine b_addL (by omega) ?_
    have hr : ∀ d ∈ e1 ++ e2, AskRow cl d := fun d h => (List.mem_append.mp h).elim (hr1 d) (hr2 d)
    have hl0 : 0 < (e1 ++ e2).length := by rw [List.length_append]; omega
    have hl1 : (e1 ++ e2).length ≤ 1000 := by rw [List.length_append]; omega
    walk_at "w"
    refine s_forR ?_
    walk_at "w"
    refine ⟨by decide, by decide, fun _ ρ' => ∃ s5 s8 s9 s10 s11 s12 s14 s15 : Option AV, ρ' = [none, some (.o (.ref S.a)), some (.i (tfD one)), some (.i (tfD two)), some (.i (ptD p)), s5, some (.i (th a b c)), some (.i (th (two.on a) (two.on b) (two.on c))), s8, s9, s10, s11, s12, some (.i (.list (e1 ++ e2))), s14, s15], ⟨_, _, _, _, _, _, _, _, rfl⟩, fun i ρ' hi hρ => ?_, fun ρ' hρ => ?_⟩
    · obtain ⟨s5, s8, s9, s10, s11, s12, s14, s15, rfl⟩ := hρ
      walk_at "w"
      refine ⟨_, _, rfl, .inr rfl, hl0, hl1, fun z hz => ?_⟩
      obtain ⟨word, x, due, rfl, hask⟩ := hr z hz
      walk_at "w"
      refine ⟨_, _, _, rfl, hask.ha, hask.hd, hask.ht, ?_⟩
      walk_at "w"
      exact ⟨_, _, _, _, _, _, _, _, rfl⟩
    obtain ⟨s5, s8, s9, s10, s11, s12, s14, s15, rfl⟩ := hρ
    walk_at "w"
    refine w_ref (d := tfD .unit) g_unit.d ?_
    walk_at "w"
    refine ⟨rfl, ?_⟩
    walk_at "w"
    exact ⟨_, rfl, rfl, rfl⟩
  · have e : gs [none, some (AV.o (.ref S.a)), none, none, none, none, none, none, none, none, none, none, none, none, none, none] i = gs [none, some (AV.o (.ref S.a))] i := gs_start (l := [none, some (AV.o (.ref S.a))]) (n := 14)
    rw [e]
    match i with
    | 0 => exact trivial
    | 1 =>
      show some (V.ref p) = some (V.ref S.a)
      rw [eS]
    | n + 2 => exact trivial
  · have e0 : gs [none, some (AV.o (.ref S.a)), none, none, none, none, none, none, none, none, none, none, none, none, none, none] i = gs [none, some (AV.o (.ref S.a))] i := gs_start (l := [none, some (AV.o (.ref S.a))]) (n := 14)
    rw [e0] at e
    match i, e with
    | 0, e => cases e
    | 1, e => cases e
    | n + 2, e => cases e
  · have e0 : gs [none, some (AV.o (.ref S.a)), none, none, none, none, none, none, none, none, none, none, none, none, none, none] i = gs [none, some (AV.o (.ref S.a))] i := gs_start (l := [none, some (AV.o (.ref S.a))]) (n := 14)
    rw [e0] at e1
    match i, e1 with
    | 0, e => cases e
    | 1, e => cases e
    | n + 2, e => cases e
  · subst e
    cases p
    exact q H'
end K88
/-! T26 -/
namespace K88
open PySem PySem.Spec PyProof.Rows L2 AL
theorem relV_ref {v : V} {a : Addr} (h : RelV v (.ref a)) : v = .ref a := by
  cases v with
  | ref b =>
    have e : Value.ref a = Value.ref b := h
    injection e with e
    rw [e]
  | int i => exact h.elim fun t z => nomatch z
  | str i => exact h.elim fun t z => nomatch z
  | byt i => exact h.elim fun t z => nomatch z
  | flt i => exact h.elim fun t z => nomatch z
  | non => exact nomatch (show Value.ref a = Value.none from h)
  | bl b => exact nomatch (show Value.ref a = Value.bool b from h)
  | ty n => exact nomatch (show Value.ref a = Value.type n from h)
section
variable {P : Program} {w : World} {K : PySem.W.Frag} {h : Heap} {mg : Str → Option Value} {base : Heap}
theorem bl_of (X : K.In h) (G : h.Ns mainGlobals mg) (c : He.SaysD fa fn K) (eg : PySem.W.nsIn K mainGlobals "gcd" = some (some (.builtin "math.gcd"))) : Bl mg where
  len := He.free_ok X G (c.fact 1 (f := .free "len") rfl)
  range := He.free_ok X G (c.fact 2 (f := .free "range") rfl)
  isinstance := He.free_ok X G (c.fact 3 (f := .free "isinstance") rfl)
  tuple := He.free_ok X G (c.fact 4 (f := .free "tuple") rfl)
  list := He.free_ok X G (c.fact 5 (f := .free "list") rfl)
  bool := He.free_ok X G (c.fact 6 (f := .free "bool") rfl)
  int := He.free_ok X G (c.fact 7 (f := .free "int") rfl)
  str := He.free_ok X G (c.fact 8 (f := .free "str") rfl)
  abs := He.free_ok X G (c.fact 9 (f := .free "abs") rfl)
  all := He.free_ok X G (c.fact 10 (f := .free "all") rfl)
  min := He.free_ok X G (c.fact 11 (f := .free "min") rfl)
  gcd := PySem.W.mg_of X G eg
theorem sc_ini_BadValue : FnScope [("self" : Str), "name"] [("self" : Str), "name"] (defScope (meth 5)) := ⟨rfl, rfl, rfl, by decide +kernel, rfl, by decide +kernel, by decide +kernel⟩
theorem exk_BadValue {bs : List Bool} (A : ErrA K (He.ga K "BadValue") "name" ecl bs) {fd : FuncData} (D : FunD K "__init__" "BadValue.__init__" (defArgs (meth 5)) (defBody (meth 5)) (defScope (meth 5)) [] [] (He.ma K (He.ga K "BadValue") "__init__") fd) (m : mg "BadValue" = some (.ref (He.ga K "BadValue"))) : ExK P w K mg base "BadValue" (He.ga K "BadValue") "name" :=
  ⟨A.ox, A.no, m, _, fd, A.ini, A.ty, init_ok D A.ox A.no sc_ini_BadValue fun X hK hN hs => init_body hN hK (.inl (by rw [hs]; decide +kernel)) (.inl (by rw [hs]; decide +kernel)) (pe_var (by rw [hN]; rfl) (.inl (by rw [hs]; decide +kernel)) (by decide) (by decide)) (pe_var (by rw [hN]; rfl) (.inl (by rw [hs]; decide +kernel)) (by decide) (by decide)), D.bindsN fun _ _ _ _ _ _ us hl => match us, hl with | [_, _], _ => rfl⟩
theorem sc_ini_BadSegment : FnScope [("self" : Str), "index"] [("self" : Str), "index"] (defScope (meth 4)) := ⟨rfl, rfl, rfl, by decide +kernel, rfl, by decide +kernel, by decide +kernel⟩
theorem exk_BadSegment {bs : List Bool} (A : ErrA K (He.ga K "BadSegment") "index" ecl bs) {fd : FuncData} (D : FunD K "__init__" "BadSegment.__init__" (defArgs (meth 4)) (defBody (meth 4)) (defScope (meth 4)) [] [] (He.ma K (He.ga K "BadSegment") "__init__") fd) (m : mg "BadSegment" = some (.ref (He.ga K "BadSegment"))) : ExK P w K mg base "BadSegment" (He.ga K "BadSegment") "index" :=
  ⟨A.ox, A.no, m, _, fd, A.ini, A.ty, init_ok D A.ox A.no sc_ini_BadSegment fun X hK hN hs => init_body hN hK (.inl (by rw [hs]; decide +kernel)) (.inl (by rw [hs]; decide +kernel)) (pe_var (by rw [hN]; rfl) (.inl (by rw [hs]; decide +kernel)) (by decide) (by decide)) (pe_var (by rw [hN]; rfl) (.inl (by rw [hs]; decide +kernel)) (by decide) (by decide)), D.bindsN fun _ _ _ _ _ _ us hl => match us, hl with | [_, _], _ => rfl⟩
theorem sc_ini_TooMany : FnScope [("self" : Str), "word"] [("self" : Str), "word"] (defScope (meth 6)) := ⟨rfl, rfl, rfl, by decide +kernel, rfl, by decide +kernel, by decide +kernel⟩
theorem exk_TooMany {bs : List Bool} (A : ErrA K (He.ga K "TooMany") "word" ecl bs) {fd : FuncData} (D : FunD K "__init__" "TooMany.__init__" (defArgs (meth 6)) (defBody (meth 6)) (defScope (meth 6)) [] [] (He.ma K (He.ga K "TooMany") "__init__") fd) (m : mg "TooMany" = some (.ref (He.ga K "TooMany"))) : ExK P w K mg base "TooMany" (He.ga K "TooMany") "word" :=
  ⟨A.ox, A.no, m, _, fd, A.ini, A.ty, init_ok D A.ox A.no sc_ini_TooMany fun X hK hN hs => init_body hN hK (.inl (by rw [hs]; decide +kernel)) (.inl (by rw [hs]; decide +kernel)) (pe_var (by rw [hN]; rfl) (.inl (by rw [hs]; decide +kernel)) (by decide) (by decide)) (pe_var (by rw [hN]; rfl) (.inl (by rw [hs]; decide +kernel)) (by decide) (by decide)), D.bindsN fun _ _ _ _ _ _ us hl => match us, hl with | [_, _], _ => rfl⟩
theorem sc_ini_TooLong : FnScope [("self" : Str), "word"] [("self" : Str), "word"] (defScope (meth 7)) := ⟨rfl, rfl, rfl, by decide +kernel, rfl, by decide +kernel, by decide +kernel⟩
theorem exk_TooLong {bs : List Bool} (A : ErrA K (He.ga K "TooLong") "word" ecl bs) {fd : FuncData} (D : FunD K "__init__" "TooLong.__init__" (defArgs (meth 7)) (defBody (meth 7)) (defScope (meth 7)) [] [] (He.ma K (He.ga K "TooLong") "__init__") fd) (m : mg "TooLong" = some (.ref (He.ga K "TooLong"))) : ExK P w K mg base "TooLong" (He.ga K "TooLong") "word" :=
  ⟨A.ox, A.no, m, _, fd, A.ini, A.ty, init_ok D A.ox A.no sc_ini_TooLong fun X hK hN hs => init_body hN hK (.inl (by rw [hs]; decide +kernel)) (.inl (by rw [hs]; decide +kernel)) (pe_var (by rw [hN]; rfl) (.inl (by rw [hs]; decide +kernel)) (by decide) (by decide)) (pe_var (by rw [hN]; rfl) (.inl (by rw [hs]; decide +kernel)) (by decide) (by decide)), D.bindsN fun _ _ _ _ _ _ us hl => match us, hl with | [_, _], _ => rfl⟩
theorem gc_of (X : K.In h) (G : h.Ns mainGlobals mg) (c : He.SaysD fa fn K) : ∀ x, x ∈ ecls → mg x = some (.ref (He.ga K x)) := fun x hx => by
  simp only [ecls, List.mem_cons, List.not_mem_nil, or_false] at hx
  rcases hx with rfl | rfl | rfl | rfl | rfl | rfl | rfl | rfl | rfl | rfl | rfl | rfl | rfl | rfl
  · exact He.glo_ok X G (c.fact 19 (f := .glo "BadNumber") rfl)
  · exact He.glo_ok X G (c.fact 20 (f := .glo "BadSegment") rfl)
  · exact He.glo_ok X G (c.fact 21 (f := .glo "BadValue") rfl)
  · exact He.glo_ok X G (c.fact 22 (f := .glo "TooMany") rfl)
  · exact He.glo_ok X G (c.fact 23 (f := .glo "TooLong") rfl)
  · exact He.glo_ok X G (c.fact 24 (f := .glo "NoSuch") rfl)
  · exact He.glo_ok X G (c.fact 25 (f := .glo "Endless") rfl)
  · exact He.glo_ok X G (c.fact 26 (f := .glo "NoWay") rfl)
  · exact He.glo_ok X G (c.fact 27 (f := .glo "Near") rfl)
  · exact He.glo_ok X G (c.fact 28 (f := .glo "BadText") rfl)
  · exact He.glo_ok X G (c.fact 29 (f := .glo "NotMap") rfl)
  · exact He.glo_ok X G (c.fact 30 (f := .glo "NothingToUndo") rfl)
  · exact He.glo_ok X G (c.fact 31 (f := .glo "NothingToRedo") rfl)
  · exact He.glo_ok X G (c.fact 32 (f := .glo "MapError") rfl)
theorem dat_is_int (X : K.In h) (G : h.Ns mainGlobals mg) (c : He.SaysD fa fn K) : DefAt K mg "is_int" (top 17) [.non, .non] := by
  obtain ⟨fd, D⟩ := c.def_ 0 (d := dDef "is_int" 17 [.non, .non]) rfl
  exact ⟨_, fd, D, He.glo_ok X G (c.fact 33 (f := .glo "is_int") rfl)⟩
theorem dat_is_tuple (X : K.In h) (G : h.Ns mainGlobals mg) (c : He.SaysD fa fn K) : DefAt K mg "is_tuple" (top 18) [] := by
  obtain ⟨fd, D⟩ := c.def_ 1 (d := dDef "is_tuple" 18 []) rfl
  exact ⟨_, fd, D, He.glo_ok X G (c.fact 34 (f := .glo "is_tuple") rfl)⟩
theorem dat_is_fraction (X : K.In h) (G : h.Ns mainGlobals mg) (c : He.SaysD fa fn K) : DefAt K mg "is_fraction" (top 20) [] := by
  obtain ⟨fd, D⟩ := c.def_ 2 (d := dDef "is_fraction" 20 []) rfl
  exact ⟨_, fd, D, He.glo_ok X G (c.fact 35 (f := .glo "is_fraction") rfl)⟩
theorem dat_within_figures (X : K.In h) (G : h.Ns mainGlobals mg) (c : He.SaysD fa fn K) : DefAt K mg "within_figures" (top 21) [] := by
  obtain ⟨fd, D⟩ := c.def_ 3 (d := dDef "within_figures" 21 []) rfl
  exact ⟨_, fd, D, He.glo_ok X G (c.fact 36 (f := .glo "within_figures") rfl)⟩
theorem dat_power_of_ten (X : K.In h) (G : h.Ns mainGlobals mg) (c : He.SaysD fa fn K) : DefAt K mg "power_of_ten" (top 22) [] := by
  obtain ⟨fd, D⟩ := c.def_ 4 (d := dDef "power_of_ten" 22 []) rfl
  exact ⟨_, fd, D, He.glo_ok X G (c.fact 37 (f := .glo "power_of_ten") rfl)⟩
theorem dat_reduced (X : K.In h) (G : h.Ns mainGlobals mg) (c : He.SaysD fa fn K) : DefAt K mg "reduced" (top 23) [] := by
  obtain ⟨fd, D⟩ := c.def_ 5 (d := dDef "reduced" 23 []) rfl
  exact ⟨_, fd, D, He.glo_ok X G (c.fact 38 (f := .glo "reduced") rfl)⟩
theorem dat_add_f (X : K.In h) (G : h.Ns mainGlobals mg) (c : He.SaysD fa fn K) : DefAt K mg "add_f" (top 24) [] := by
  obtain ⟨fd, D⟩ := c.def_ 6 (d := dDef "add_f" 24 []) rfl
  exact ⟨_, fd, D, He.glo_ok X G (c.fact 39 (f := .glo "add_f") rfl)⟩
theorem dat_sub_f (X : K.In h) (G : h.Ns mainGlobals mg) (c : He.SaysD fa fn K) : DefAt K mg "sub_f" (top 25) [] := by
  obtain ⟨fd, D⟩ := c.def_ 7 (d := dDef "sub_f" 25 []) rfl
  exact ⟨_, fd, D, He.glo_ok X G (c.fact 40 (f := .glo "sub_f") rfl)⟩
theorem dat_mul_f (X : K.In h) (G : h.Ns mainGlobals mg) (c : He.SaysD fa fn K) : DefAt K mg "mul_f" (top 26) [] := by
  obtain ⟨fd, D⟩ := c.def_ 8 (d := dDef "mul_f" 26 []) rfl
  exact ⟨_, fd, D, He.glo_ok X G (c.fact 41 (f := .glo "mul_f") rfl)⟩
theorem dat_div_f (X : K.In h) (G : h.Ns mainGlobals mg) (c : He.SaysD fa fn K) : DefAt K mg "div_f" (top 27) [] := by
  obtain ⟨fd, D⟩ := c.def_ 9 (d := dDef "div_f" 27 []) rfl
  exact ⟨_, fd, D, He.glo_ok X G (c.fact 42 (f := .glo "div_f") rfl)⟩
theorem dat_neg_f (X : K.In h) (G : h.Ns mainGlobals mg) (c : He.SaysD fa fn K) : DefAt K mg "neg_f" (top 28) [] := by
  obtain ⟨fd, D⟩ := c.def_ 10 (d := dDef "neg_f" 28 []) rfl
  exact ⟨_, fd, D, He.glo_ok X G (c.fact 43 (f := .glo "neg_f") rfl)⟩
theorem dat_triple_of (X : K.In h) (G : h.Ns mainGlobals mg) (c : He.SaysD fa fn K) : DefAt K mg "triple_of" (top 30) [] := by
  obtain ⟨fd, D⟩ := c.def_ 11 (d := dDef "triple_of" 30 []) rfl
  exact ⟨_, fd, D, He.glo_ok X G (c.fact 44 (f := .glo "triple_of") rfl)⟩
theorem dat_cross3 (X : K.In h) (G : h.Ns mainGlobals mg) (c : He.SaysD fa fn K) : DefAt K mg "cross3" (top 31) [] := by
  obtain ⟨fd, D⟩ := c.def_ 12 (d := dDef "cross3" 31 []) rfl
  exact ⟨_, fd, D, He.glo_ok X G (c.fact 45 (f := .glo "cross3") rfl)⟩
theorem dat_dot3 (X : K.In h) (G : h.Ns mainGlobals mg) (c : He.SaysD fa fn K) : DefAt K mg "dot3" (top 32) [] := by
  obtain ⟨fd, D⟩ := c.def_ 13 (d := dDef "dot3" 32 []) rfl
  exact ⟨_, fd, D, He.glo_ok X G (c.fact 46 (f := .glo "dot3") rfl)⟩
theorem dat_sign_of (X : K.In h) (G : h.Ns mainGlobals mg) (c : He.SaysD fa fn K) : DefAt K mg "sign_of" (top 33) [] := by
  obtain ⟨fd, D⟩ := c.def_ 14 (d := dDef "sign_of" 33 []) rfl
  exact ⟨_, fd, D, He.glo_ok X G (c.fact 47 (f := .glo "sign_of") rfl)⟩
theorem dat_is_point (X : K.In h) (G : h.Ns mainGlobals mg) (c : He.SaysD fa fn K) : DefAt K mg "is_point" (top 35) [] := by
  obtain ⟨fd, D⟩ := c.def_ 15 (d := dDef "is_point" 35 []) rfl
  exact ⟨_, fd, D, He.glo_ok X G (c.fact 48 (f := .glo "is_point") rfl)⟩
theorem dat_is_segment (X : K.In h) (G : h.Ns mainGlobals mg) (c : He.SaysD fa fn K) : DefAt K mg "is_segment" (top 36) [] := by
  obtain ⟨fd, D⟩ := c.def_ 16 (d := dDef "is_segment" 36 []) rfl
  exact ⟨_, fd, D, He.glo_ok X G (c.fact 49 (f := .glo "is_segment") rfl)⟩
theorem dat_side_p (X : K.In h) (G : h.Ns mainGlobals mg) (c : He.SaysD fa fn K) : DefAt K mg "side_p" (top 37) [] := by
  obtain ⟨fd, D⟩ := c.def_ 17 (d := dDef "side_p" 37 []) rfl
  exact ⟨_, fd, D, He.glo_ok X G (c.fact 50 (f := .glo "side_p") rfl)⟩
theorem dat_numbers_of (X : K.In h) (G : h.Ns mainGlobals mg) (c : He.SaysD fa fn K) : DefAt K mg "numbers_of" (top 44) [] := by
  obtain ⟨fd, D⟩ := c.def_ 18 (d := dDef "numbers_of" 44 []) rfl
  exact ⟨_, fd, D, He.glo_ok X G (c.fact 51 (f := .glo "numbers_of") rfl)⟩
theorem dat_check_drawing (X : K.In h) (G : h.Ns mainGlobals mg) (c : He.SaysD fa fn K) : DefAt K mg "check_drawing" (top 45) [.str "drawing"] := by
  obtain ⟨fd, D⟩ := c.def_ 19 (d := dDef "check_drawing" 45 [.str "drawing"]) rfl
  exact ⟨_, fd, D, He.glo_ok X G (c.fact 52 (f := .glo "check_drawing") rfl)⟩
theorem dat_check_point (X : K.In h) (G : h.Ns mainGlobals mg) (c : He.SaysD fa fn K) : DefAt K mg "check_point" (top 46) [] := by
  obtain ⟨fd, D⟩ := c.def_ 20 (d := dDef "check_point" 46 []) rfl
  exact ⟨_, fd, D, He.glo_ok X G (c.fact 53 (f := .glo "check_point") rfl)⟩
theorem dat_check_place (X : K.In h) (G : h.Ns mainGlobals mg) (c : He.SaysD fa fn K) : DefAt K mg "check_place" (top 47) [.int 300] := by
  obtain ⟨fd, D⟩ := c.def_ 21 (d := dDef "check_place" 47 [.int 300]) rfl
  exact ⟨_, fd, D, He.glo_ok X G (c.fact 54 (f := .glo "check_place") rfl)⟩
theorem dat_det_t (X : K.In h) (G : h.Ns mainGlobals mg) (c : He.SaysD fa fn K) : DefAt K mg "det_t" (top 52) [] := by
  obtain ⟨fd, D⟩ := c.def_ 22 (d := dDef "det_t" 52 []) rfl
  exact ⟨_, fd, D, He.glo_ok X G (c.fact 55 (f := .glo "det_t") rfl)⟩
theorem dat_is_transform (X : K.In h) (G : h.Ns mainGlobals mg) (c : He.SaysD fa fn K) : DefAt K mg "is_transform" (top 53) [] := by
  obtain ⟨fd, D⟩ := c.def_ 23 (d := dDef "is_transform" 53 []) rfl
  exact ⟨_, fd, D, He.glo_ok X G (c.fact 56 (f := .glo "is_transform") rfl)⟩
theorem dat_check_transform (X : K.In h) (G : h.Ns mainGlobals mg) (c : He.SaysD fa fn K) : DefAt K mg "check_transform" (top 54) [.str "transform"] := by
  obtain ⟨fd, D⟩ := c.def_ 24 (d := dDef "check_transform" 54 [.str "transform"]) rfl
  exact ⟨_, fd, D, He.glo_ok X G (c.fact 57 (f := .glo "check_transform") rfl)⟩
theorem dat_sum_row (X : K.In h) (G : h.Ns mainGlobals mg) (c : He.SaysD fa fn K) : DefAt K mg "sum_row" (top 55) [] := by
  obtain ⟨fd, D⟩ := c.def_ 25 (d := dDef "sum_row" 55 []) rfl
  exact ⟨_, fd, D, He.glo_ok X G (c.fact 58 (f := .glo "sum_row") rfl)⟩
theorem dat_placed_p (X : K.In h) (G : h.Ns mainGlobals mg) (c : He.SaysD fa fn K) : DefAt K mg "placed_p" (top 56) [] := by
  obtain ⟨fd, D⟩ := c.def_ 26 (d := dDef "placed_p" 56 []) rfl
  exact ⟨_, fd, D, He.glo_ok X G (c.fact 59 (f := .glo "placed_p") rfl)⟩
theorem dat_placed_rows (X : K.In h) (G : h.Ns mainGlobals mg) (c : He.SaysD fa fn K) : DefAt K mg "placed_rows" (top 57) [] := by
  obtain ⟨fd, D⟩ := c.def_ 27 (d := dDef "placed_rows" 57 []) rfl
  exact ⟨_, fd, D, He.glo_ok X G (c.fact 60 (f := .glo "placed_rows") rfl)⟩
theorem dat_chained_t (X : K.In h) (G : h.Ns mainGlobals mg) (c : He.SaysD fa fn K) : DefAt K mg "chained_t" (top 58) [] := by
  obtain ⟨fd, D⟩ := c.def_ 28 (d := dDef "chained_t" 58 []) rfl
  exact ⟨_, fd, D, He.glo_ok X G (c.fact 61 (f := .glo "chained_t") rfl)⟩
theorem dat_inverse_t (X : K.In h) (G : h.Ns mainGlobals mg) (c : He.SaysD fa fn K) : DefAt K mg "inverse_t" (top 59) [] := by
  obtain ⟨fd, D⟩ := c.def_ 29 (d := dDef "inverse_t" 59 []) rfl
  exact ⟨_, fd, D, He.glo_ok X G (c.fact 62 (f := .glo "inverse_t") rfl)⟩
theorem dat_steps_from (X : K.In h) (G : h.Ns mainGlobals mg) (c : He.SaysD fa fn K) : DefAt K mg "steps_from" (top 60) [] := by
  obtain ⟨fd, D⟩ := c.def_ 30 (d := dDef "steps_from" 60 []) rfl
  exact ⟨_, fd, D, He.glo_ok X G (c.fact 63 (f := .glo "steps_from") rfl)⟩
theorem dat_crossed (X : K.In h) (G : h.Ns mainGlobals mg) (c : He.SaysD fa fn K) : DefAt K mg "crossed" (top 61) [] := by
  obtain ⟨fd, D⟩ := c.def_ 31 (d := dDef "crossed" 61 []) rfl
  exact ⟨_, fd, D, He.glo_ok X G (c.fact 64 (f := .glo "crossed") rfl)⟩
theorem dat_transform_t (X : K.In h) (G : h.Ns mainGlobals mg) (c : He.SaysD fa fn K) : DefAt K mg "transform_t" (top 62) [] := by
  obtain ⟨fd, D⟩ := c.def_ 32 (d := dDef "transform_t" 62 []) rfl
  exact ⟨_, fd, D, He.glo_ok X G (c.fact 65 (f := .glo "transform_t") rfl)⟩
theorem dat_placed_point (X : K.In h) (G : h.Ns mainGlobals mg) (c : He.SaysD fa fn K) : DefAt K mg "placed_point" (top 63) [] := by
  obtain ⟨fd, D⟩ := c.def_ 33 (d := dDef "placed_point" 63 []) rfl
  exact ⟨_, fd, D, He.glo_ok X G (c.fact 66 (f := .glo "placed_point") rfl)⟩
theorem dat_placed_drawing (X : K.In h) (G : h.Ns mainGlobals mg) (c : He.SaysD fa fn K) : DefAt K mg "placed_drawing" (top 64) [] := by
  obtain ⟨fd, D⟩ := c.def_ 34 (d := dDef "placed_drawing" 64 []) rfl
  exact ⟨_, fd, D, He.glo_ok X G (c.fact 67 (f := .glo "placed_drawing") rfl)⟩
theorem dat_chained_transform (X : K.In h) (G : h.Ns mainGlobals mg) (c : He.SaysD fa fn K) : DefAt K mg "chained_transform" (top 65) [] := by
  obtain ⟨fd, D⟩ := c.def_ 35 (d := dDef "chained_transform" 65 []) rfl
  exact ⟨_, fd, D, He.glo_ok X G (c.fact 68 (f := .glo "chained_transform") rfl)⟩
theorem dat_inverse_of (X : K.In h) (G : h.Ns mainGlobals mg) (c : He.SaysD fa fn K) : DefAt K mg "inverse_of" (top 66) [] := by
  obtain ⟨fd, D⟩ := c.def_ 36 (d := dDef "inverse_of" 66 []) rfl
  exact ⟨_, fd, D, He.glo_ok X G (c.fact 69 (f := .glo "inverse_of") rfl)⟩
theorem dat_determinant_of (X : K.In h) (G : h.Ns mainGlobals mg) (c : He.SaysD fa fn K) : DefAt K mg "determinant_of" (top 67) [] := by
  obtain ⟨fd, D⟩ := c.def_ 37 (d := dDef "determinant_of" 67 []) rfl
  exact ⟨_, fd, D, He.glo_ok X G (c.fact 70 (f := .glo "determinant_of") rfl)⟩
theorem dat_scale_t (X : K.In h) (G : h.Ns mainGlobals mg) (c : He.SaysD fa fn K) : DefAt K mg "scale_t" (top 68) [] := by
  obtain ⟨fd, D⟩ := c.def_ 38 (d := dDef "scale_t" 68 []) rfl
  exact ⟨_, fd, D, He.glo_ok X G (c.fact 71 (f := .glo "scale_t") rfl)⟩
theorem dat_scale_of (X : K.In h) (G : h.Ns mainGlobals mg) (c : He.SaysD fa fn K) : DefAt K mg "scale_of" (top 69) [] := by
  obtain ⟨fd, D⟩ := c.def_ 39 (d := dDef "scale_of" 69 []) rfl
  exact ⟨_, fd, D, He.glo_ok X G (c.fact 72 (f := .glo "scale_of") rfl)⟩
theorem dat_order_of (X : K.In h) (G : h.Ns mainGlobals mg) (c : He.SaysD fa fn K) : DefAt K mg "order_of" (top 70) [] := by
  obtain ⟨fd, D⟩ := c.def_ 40 (d := dDef "order_of" 70 []) rfl
  exact ⟨_, fd, D, He.glo_ok X G (c.fact 73 (f := .glo "order_of") rfl)⟩
theorem dat_check_three (X : K.In h) (G : h.Ns mainGlobals mg) (c : He.SaysD fa fn K) : DefAt K mg "check_three" (top 71) [] := by
  obtain ⟨fd, D⟩ := c.def_ 41 (d := dDef "check_three" 71 []) rfl
  exact ⟨_, fd, D, He.glo_ok X G (c.fact 74 (f := .glo "check_three") rfl)⟩
theorem dat_transform_of (X : K.In h) (G : h.Ns mainGlobals mg) (c : He.SaysD fa fn K) : DefAt K mg "transform_of" (top 72) [] := by
  obtain ⟨fd, D⟩ := c.def_ 42 (d := dDef "transform_of" 72 []) rfl
  exact ⟨_, fd, D, He.glo_ok X G (c.fact 75 (f := .glo "transform_of") rfl)⟩
theorem dat__law_stream (X : K.In h) (G : h.Ns mainGlobals mg) (c : He.SaysD fa fn K) : DefAt K mg "_law_stream" (top 74) [] := by
  obtain ⟨fd, D⟩ := c.def_ 43 (d := dDef "_law_stream" 74 []) rfl
  exact ⟨_, fd, D, He.glo_ok X G (c.fact 76 (f := .glo "_law_stream") rfl)⟩
theorem dat__law_next (X : K.In h) (G : h.Ns mainGlobals mg) (c : He.SaysD fa fn K) : DefAt K mg "_law_next" (top 75) [] := by
  obtain ⟨fd, D⟩ := c.def_ 44 (d := dDef "_law_next" 75 []) rfl
  exact ⟨_, fd, D, He.glo_ok X G (c.fact 77 (f := .glo "_law_next") rfl)⟩
theorem dat__law_pick (X : K.In h) (G : h.Ns mainGlobals mg) (c : He.SaysD fa fn K) : DefAt K mg "_law_pick" (top 76) [] := by
  obtain ⟨fd, D⟩ := c.def_ 45 (d := dDef "_law_pick" 76 []) rfl
  exact ⟨_, fd, D, He.glo_ok X G (c.fact 78 (f := .glo "_law_pick") rfl)⟩
theorem dat__law_from (X : K.In h) (G : h.Ns mainGlobals mg) (c : He.SaysD fa fn K) : DefAt K mg "_law_from" (top 77) [] := by
  obtain ⟨fd, D⟩ := c.def_ 46 (d := dDef "_law_from" 77 []) rfl
  exact ⟨_, fd, D, He.glo_ok X G (c.fact 79 (f := .glo "_law_from") rfl)⟩
theorem dat__law_shuffled (X : K.In h) (G : h.Ns mainGlobals mg) (c : He.SaysD fa fn K) : DefAt K mg "_law_shuffled" (top 78) [] := by
  obtain ⟨fd, D⟩ := c.def_ 47 (d := dDef "_law_shuffled" 78 []) rfl
  exact ⟨_, fd, D, He.glo_ok X G (c.fact 80 (f := .glo "_law_shuffled") rfl)⟩
theorem dat__law_same (X : K.In h) (G : h.Ns mainGlobals mg) (c : He.SaysD fa fn K) : DefAt K mg "_law_same" (top 79) [] := by
  obtain ⟨fd, D⟩ := c.def_ 48 (d := dDef "_law_same" 79 []) rfl
  exact ⟨_, fd, D, He.glo_ok X G (c.fact 81 (f := .glo "_law_same") rfl)⟩
theorem dat__law_copy (X : K.In h) (G : h.Ns mainGlobals mg) (c : He.SaysD fa fn K) : DefAt K mg "_law_copy" (top 80) [] := by
  obtain ⟨fd, D⟩ := c.def_ 49 (d := dDef "_law_copy" 80 []) rfl
  exact ⟨_, fd, D, He.glo_ok X G (c.fact 82 (f := .glo "_law_copy") rfl)⟩
theorem dat__law_error (X : K.In h) (G : h.Ns mainGlobals mg) (c : He.SaysD fa fn K) : DefAt K mg "_law_error" (top 81) [] := by
  obtain ⟨fd, D⟩ := c.def_ 50 (d := dDef "_law_error" 81 []) rfl
  exact ⟨_, fd, D, He.glo_ok X G (c.fact 83 (f := .glo "_law_error") rfl)⟩
theorem dat__law_gcd (X : K.In h) (G : h.Ns mainGlobals mg) (c : He.SaysD fa fn K) : DefAt K mg "_law_gcd" (top 82) [] := by
  obtain ⟨fd, D⟩ := c.def_ 51 (d := dDef "_law_gcd" 82 []) rfl
  exact ⟨_, fd, D, He.glo_ok X G (c.fact 84 (f := .glo "_law_gcd") rfl)⟩
theorem dat__law_frac (X : K.In h) (G : h.Ns mainGlobals mg) (c : He.SaysD fa fn K) : DefAt K mg "_law_frac" (top 83) [] := by
  obtain ⟨fd, D⟩ := c.def_ 52 (d := dDef "_law_frac" 83 []) rfl
  exact ⟨_, fd, D, He.glo_ok X G (c.fact 85 (f := .glo "_law_frac") rfl)⟩
theorem dat__law_add (X : K.In h) (G : h.Ns mainGlobals mg) (c : He.SaysD fa fn K) : DefAt K mg "_law_add" (top 84) [] := by
  obtain ⟨fd, D⟩ := c.def_ 53 (d := dDef "_law_add" 84 []) rfl
  exact ⟨_, fd, D, He.glo_ok X G (c.fact 86 (f := .glo "_law_add") rfl)⟩
theorem dat__law_sub (X : K.In h) (G : h.Ns mainGlobals mg) (c : He.SaysD fa fn K) : DefAt K mg "_law_sub" (top 85) [] := by
  obtain ⟨fd, D⟩ := c.def_ 54 (d := dDef "_law_sub" 85 []) rfl
  exact ⟨_, fd, D, He.glo_ok X G (c.fact 87 (f := .glo "_law_sub") rfl)⟩
theorem dat__law_mul (X : K.In h) (G : h.Ns mainGlobals mg) (c : He.SaysD fa fn K) : DefAt K mg "_law_mul" (top 86) [] := by
  obtain ⟨fd, D⟩ := c.def_ 55 (d := dDef "_law_mul" 86 []) rfl
  exact ⟨_, fd, D, He.glo_ok X G (c.fact 88 (f := .glo "_law_mul") rfl)⟩
theorem dat__law_div (X : K.In h) (G : h.Ns mainGlobals mg) (c : He.SaysD fa fn K) : DefAt K mg "_law_div" (top 87) [] := by
  obtain ⟨fd, D⟩ := c.def_ 56 (d := dDef "_law_div" 87 []) rfl
  exact ⟨_, fd, D, He.glo_ok X G (c.fact 89 (f := .glo "_law_div") rfl)⟩
theorem dat__law_along (X : K.In h) (G : h.Ns mainGlobals mg) (c : He.SaysD fa fn K) : DefAt K mg "_law_along" (top 88) [] := by
  obtain ⟨fd, D⟩ := c.def_ 57 (d := dDef "_law_along" 88 []) rfl
  exact ⟨_, fd, D, He.glo_ok X G (c.fact 90 (f := .glo "_law_along") rfl)⟩
theorem dat__law_scatter (X : K.In h) (G : h.Ns mainGlobals mg) (c : He.SaysD fa fn K) : DefAt K mg "_law_scatter" (top 89) [] := by
  obtain ⟨fd, D⟩ := c.def_ 58 (d := dDef "_law_scatter" 89 []) rfl
  exact ⟨_, fd, D, He.glo_ok X G (c.fact 91 (f := .glo "_law_scatter") rfl)⟩
theorem dat__law_star (X : K.In h) (G : h.Ns mainGlobals mg) (c : He.SaysD fa fn K) : DefAt K mg "_law_star" (top 90) [] := by
  obtain ⟨fd, D⟩ := c.def_ 59 (d := dDef "_law_star" 90 []) rfl
  exact ⟨_, fd, D, He.glo_ok X G (c.fact 92 (f := .glo "_law_star") rfl)⟩
theorem dat__law_onto (X : K.In h) (G : h.Ns mainGlobals mg) (c : He.SaysD fa fn K) : DefAt K mg "_law_onto" (top 91) [] := by
  obtain ⟨fd, D⟩ := c.def_ 60 (d := dDef "_law_onto" 91 []) rfl
  exact ⟨_, fd, D, He.glo_ok X G (c.fact 93 (f := .glo "_law_onto") rfl)⟩
theorem dat__law_loop (X : K.In h) (G : h.Ns mainGlobals mg) (c : He.SaysD fa fn K) : DefAt K mg "_law_loop" (top 92) [] := by
  obtain ⟨fd, D⟩ := c.def_ 61 (d := dDef "_law_loop" 92 []) rfl
  exact ⟨_, fd, D, He.glo_ok X G (c.fact 94 (f := .glo "_law_loop") rfl)⟩
theorem dat__law_sides (X : K.In h) (G : h.Ns mainGlobals mg) (c : He.SaysD fa fn K) : DefAt K mg "_law_sides" (top 93) [] := by
  obtain ⟨fd, D⟩ := c.def_ 62 (d := dDef "_law_sides" 93 []) rfl
  exact ⟨_, fd, D, He.glo_ok X G (c.fact 95 (f := .glo "_law_sides") rfl)⟩
theorem dat__law_nested (X : K.In h) (G : h.Ns mainGlobals mg) (c : He.SaysD fa fn K) : DefAt K mg "_law_nested" (top 94) [] := by
  obtain ⟨fd, D⟩ := c.def_ 63 (d := dDef "_law_nested" 94 []) rfl
  exact ⟨_, fd, D, He.glo_ok X G (c.fact 96 (f := .glo "_law_nested") rfl)⟩
theorem dat__law_spiked (X : K.In h) (G : h.Ns mainGlobals mg) (c : He.SaysD fa fn K) : DefAt K mg "_law_spiked" (top 95) [] := by
  obtain ⟨fd, D⟩ := c.def_ 64 (d := dDef "_law_spiked" 95 []) rfl
  exact ⟨_, fd, D, He.glo_ok X G (c.fact 97 (f := .glo "_law_spiked") rfl)⟩
theorem dat__law_grid (X : K.In h) (G : h.Ns mainGlobals mg) (c : He.SaysD fa fn K) : DefAt K mg "_law_grid" (top 96) [] := by
  obtain ⟨fd, D⟩ := c.def_ 65 (d := dDef "_law_grid" 96 []) rfl
  exact ⟨_, fd, D, He.glo_ok X G (c.fact 98 (f := .glo "_law_grid") rfl)⟩
theorem dat__law_touching (X : K.In h) (G : h.Ns mainGlobals mg) (c : He.SaysD fa fn K) : DefAt K mg "_law_touching" (top 97) [] := by
  obtain ⟨fd, D⟩ := c.def_ 66 (d := dDef "_law_touching" 97 []) rfl
  exact ⟨_, fd, D, He.glo_ok X G (c.fact 99 (f := .glo "_law_touching") rfl)⟩
theorem dat__law_case (X : K.In h) (G : h.Ns mainGlobals mg) (c : He.SaysD fa fn K) : DefAt K mg "_law_case" (top 98) [] := by
  obtain ⟨fd, D⟩ := c.def_ 67 (d := dDef "_law_case" 98 []) rfl
  exact ⟨_, fd, D, He.glo_ok X G (c.fact 100 (f := .glo "_law_case") rfl)⟩
theorem dat__law_rows (X : K.In h) (G : h.Ns mainGlobals mg) (c : He.SaysD fa fn K) : DefAt K mg "_law_rows" (top 99) [] := by
  obtain ⟨fd, D⟩ := c.def_ 68 (d := dDef "_law_rows" 99 []) rfl
  exact ⟨_, fd, D, He.glo_ok X G (c.fact 101 (f := .glo "_law_rows") rfl)⟩
theorem dat__law_laid (X : K.In h) (G : h.Ns mainGlobals mg) (c : He.SaysD fa fn K) : DefAt K mg "_law_laid" (top 100) [] := by
  obtain ⟨fd, D⟩ := c.def_ 69 (d := dDef "_law_laid" 100 []) rfl
  exact ⟨_, fd, D, He.glo_ok X G (c.fact 102 (f := .glo "_law_laid") rfl)⟩
theorem dat__law_move (X : K.In h) (G : h.Ns mainGlobals mg) (c : He.SaysD fa fn K) : DefAt K mg "_law_move" (top 101) [] := by
  obtain ⟨fd, D⟩ := c.def_ 70 (d := dDef "_law_move" 101 []) rfl
  exact ⟨_, fd, D, He.glo_ok X G (c.fact 103 (f := .glo "_law_move") rfl)⟩
theorem dat__law_mixed (X : K.In h) (G : h.Ns mainGlobals mg) (c : He.SaysD fa fn K) : DefAt K mg "_law_mixed" (top 102) [] := by
  obtain ⟨fd, D⟩ := c.def_ 71 (d := dDef "_law_mixed" 102 []) rfl
  exact ⟨_, fd, D, He.glo_ok X G (c.fact 104 (f := .glo "_law_mixed") rfl)⟩
theorem dat__law_drawing (X : K.In h) (G : h.Ns mainGlobals mg) (c : He.SaysD fa fn K) : DefAt K mg "_law_drawing" (top 103) [] := by
  obtain ⟨fd, D⟩ := c.def_ 72 (d := dDef "_law_drawing" 103 []) rfl
  exact ⟨_, fd, D, He.glo_ok X G (c.fact 105 (f := .glo "_law_drawing") rfl)⟩
theorem dat__law_sum_of (X : K.In h) (G : h.Ns mainGlobals mg) (c : He.SaysD fa fn K) : DefAt K mg "_law_sum_of" (top 104) [] := by
  obtain ⟨fd, D⟩ := c.def_ 73 (d := dDef "_law_sum_of" 104 []) rfl
  exact ⟨_, fd, D, He.glo_ok X G (c.fact 106 (f := .glo "_law_sum_of") rfl)⟩
theorem dat__law_image (X : K.In h) (G : h.Ns mainGlobals mg) (c : He.SaysD fa fn K) : DefAt K mg "_law_image" (top 105) [] := by
  obtain ⟨fd, D⟩ := c.def_ 74 (d := dDef "_law_image" 105 []) rfl
  exact ⟨_, fd, D, He.glo_ok X G (c.fact 107 (f := .glo "_law_image") rfl)⟩
theorem dat__law_placed (X : K.In h) (G : h.Ns mainGlobals mg) (c : He.SaysD fa fn K) : DefAt K mg "_law_placed" (top 106) [] := by
  obtain ⟨fd, D⟩ := c.def_ 75 (d := dDef "_law_placed" 106 []) rfl
  exact ⟨_, fd, D, He.glo_ok X G (c.fact 108 (f := .glo "_law_placed") rfl)⟩
theorem dat__law_det (X : K.In h) (G : h.Ns mainGlobals mg) (c : He.SaysD fa fn K) : DefAt K mg "_law_det" (top 107) [] := by
  obtain ⟨fd, D⟩ := c.def_ 76 (d := dDef "_law_det" 107 []) rfl
  exact ⟨_, fd, D, He.glo_ok X G (c.fact 109 (f := .glo "_law_det") rfl)⟩
theorem dat__law_chain (X : K.In h) (G : h.Ns mainGlobals mg) (c : He.SaysD fa fn K) : DefAt K mg "_law_chain" (top 108) [] := by
  obtain ⟨fd, D⟩ := c.def_ 77 (d := dDef "_law_chain" 108 []) rfl
  exact ⟨_, fd, D, He.glo_ok X G (c.fact 110 (f := .glo "_law_chain") rfl)⟩
theorem dat__law_minus (X : K.In h) (G : h.Ns mainGlobals mg) (c : He.SaysD fa fn K) : DefAt K mg "_law_minus" (top 109) [] := by
  obtain ⟨fd, D⟩ := c.def_ 78 (d := dDef "_law_minus" 109 []) rfl
  exact ⟨_, fd, D, He.glo_ok X G (c.fact 111 (f := .glo "_law_minus") rfl)⟩
theorem dat__law_back (X : K.In h) (G : h.Ns mainGlobals mg) (c : He.SaysD fa fn K) : DefAt K mg "_law_back" (top 110) [] := by
  obtain ⟨fd, D⟩ := c.def_ 79 (d := dDef "_law_back" 110 []) rfl
  exact ⟨_, fd, D, He.glo_ok X G (c.fact 112 (f := .glo "_law_back") rfl)⟩
theorem dat__law_some (X : K.In h) (G : h.Ns mainGlobals mg) (c : He.SaysD fa fn K) : DefAt K mg "_law_some" (top 111) [] := by
  obtain ⟨fd, D⟩ := c.def_ 80 (d := dDef "_law_some" 111 []) rfl
  exact ⟨_, fd, D, He.glo_ok X G (c.fact 113 (f := .glo "_law_some") rfl)⟩
theorem dat__law_alike_rows (X : K.In h) (G : h.Ns mainGlobals mg) (c : He.SaysD fa fn K) : DefAt K mg "_law_alike_rows" (top 112) [] := by
  obtain ⟨fd, D⟩ := c.def_ 81 (d := dDef "_law_alike_rows" 112 []) rfl
  exact ⟨_, fd, D, He.glo_ok X G (c.fact 114 (f := .glo "_law_alike_rows") rfl)⟩
theorem dat__law_free_rows (X : K.In h) (G : h.Ns mainGlobals mg) (c : He.SaysD fa fn K) : DefAt K mg "_law_free_rows" (top 113) [] := by
  obtain ⟨fd, D⟩ := c.def_ 82 (d := dDef "_law_free_rows" 113 []) rfl
  exact ⟨_, fd, D, He.glo_ok X G (c.fact 115 (f := .glo "_law_free_rows") rfl)⟩
theorem dat__law_transform (X : K.In h) (G : h.Ns mainGlobals mg) (c : He.SaysD fa fn K) : DefAt K mg "_law_transform" (top 114) [] := by
  obtain ⟨fd, D⟩ := c.def_ 83 (d := dDef "_law_transform" 114 []) rfl
  exact ⟨_, fd, D, He.glo_ok X G (c.fact 116 (f := .glo "_law_transform") rfl)⟩
theorem dat__law_unit (X : K.In h) (G : h.Ns mainGlobals mg) (c : He.SaysD fa fn K) : DefAt K mg "_law_unit" (top 115) [] := by
  obtain ⟨fd, D⟩ := c.def_ 84 (d := dDef "_law_unit" 115 []) rfl
  exact ⟨_, fd, D, He.glo_ok X G (c.fact 117 (f := .glo "_law_unit") rfl)⟩
theorem dat__law_great_number (X : K.In h) (G : h.Ns mainGlobals mg) (c : He.SaysD fa fn K) : DefAt K mg "_law_great_number" (top 116) [] := by
  obtain ⟨fd, D⟩ := c.def_ 85 (d := dDef "_law_great_number" 116 []) rfl
  exact ⟨_, fd, D, He.glo_ok X G (c.fact 118 (f := .glo "_law_great_number") rfl)⟩
theorem dat__law_order (X : K.In h) (G : h.Ns mainGlobals mg) (c : He.SaysD fa fn K) : DefAt K mg "_law_order" (top 117) [] := by
  obtain ⟨fd, D⟩ := c.def_ 86 (d := dDef "_law_order" 117 []) rfl
  exact ⟨_, fd, D, He.glo_ok X G (c.fact 119 (f := .glo "_law_order") rfl)⟩
theorem dat__law_cycle (X : K.In h) (G : h.Ns mainGlobals mg) (c : He.SaysD fa fn K) : DefAt K mg "_law_cycle" (top 118) [] := by
  obtain ⟨fd, D⟩ := c.def_ 87 (d := dDef "_law_cycle" 118 []) rfl
  exact ⟨_, fd, D, He.glo_ok X G (c.fact 120 (f := .glo "_law_cycle") rfl)⟩
theorem dat__law_scale (X : K.In h) (G : h.Ns mainGlobals mg) (c : He.SaysD fa fn K) : DefAt K mg "_law_scale" (top 119) [] := by
  obtain ⟨fd, D⟩ := c.def_ 88 (d := dDef "_law_scale" 119 []) rfl
  exact ⟨_, fd, D, He.glo_ok X G (c.fact 121 (f := .glo "_law_scale") rfl)⟩
theorem dat__law_even_rows (X : K.In h) (G : h.Ns mainGlobals mg) (c : He.SaysD fa fn K) : DefAt K mg "_law_even_rows" (top 120) [] := by
  obtain ⟨fd, D⟩ := c.def_ 89 (d := dDef "_law_even_rows" 120 []) rfl
  exact ⟨_, fd, D, He.glo_ok X G (c.fact 122 (f := .glo "_law_even_rows") rfl)⟩
theorem dat__law_point (X : K.In h) (G : h.Ns mainGlobals mg) (c : He.SaysD fa fn K) : DefAt K mg "_law_point" (top 121) [] := by
  obtain ⟨fd, D⟩ := c.def_ 90 (d := dDef "_law_point" 121 []) rfl
  exact ⟨_, fd, D, He.glo_ok X G (c.fact 123 (f := .glo "_law_point") rfl)⟩
theorem dat__law_three (X : K.In h) (G : h.Ns mainGlobals mg) (c : He.SaysD fa fn K) : DefAt K mg "_law_three" (top 122) [] := by
  obtain ⟨fd, D⟩ := c.def_ 91 (d := dDef "_law_three" 122 []) rfl
  exact ⟨_, fd, D, He.glo_ok X G (c.fact 124 (f := .glo "_law_three") rfl)⟩
theorem dat__law_told (X : K.In h) (G : h.Ns mainGlobals mg) (c : He.SaysD fa fn K) : DefAt K mg "_law_told" (top 123) [] := by
  obtain ⟨fd, D⟩ := c.def_ 92 (d := dDef "_law_told" 123 []) rfl
  exact ⟨_, fd, D, He.glo_ok X G (c.fact 125 (f := .glo "_law_told") rfl)⟩
theorem dat__law_asked (X : K.In h) (G : h.Ns mainGlobals mg) (c : He.SaysD fa fn K) : DefAt K mg "_law_asked" (top 124) [] := by
  obtain ⟨fd, D⟩ := c.def_ 93 (d := dDef "_law_asked" 124 []) rfl
  exact ⟨_, fd, D, He.glo_ok X G (c.fact 126 (f := .glo "_law_asked") rfl)⟩
theorem dat__law_no_transform (X : K.In h) (G : h.Ns mainGlobals mg) (c : He.SaysD fa fn K) : DefAt K mg "_law_no_transform" (top 125) [] := by
  obtain ⟨fd, D⟩ := c.def_ 94 (d := dDef "_law_no_transform" 125 []) rfl
  exact ⟨_, fd, D, He.glo_ok X G (c.fact 127 (f := .glo "_law_no_transform") rfl)⟩
theorem dat__law_refusals (X : K.In h) (G : h.Ns mainGlobals mg) (c : He.SaysD fa fn K) : DefAt K mg "_law_refusals" (top 126) [] := by
  obtain ⟨fd, D⟩ := c.def_ 95 (d := dDef "_law_refusals" 126 []) rfl
  exact ⟨_, fd, D, He.glo_ok X G (c.fact 128 (f := .glo "_law_refusals") rfl)⟩
theorem dat__law_three_refusals (X : K.In h) (G : h.Ns mainGlobals mg) (c : He.SaysD fa fn K) : DefAt K mg "_law_three_refusals" (top 127) [] := by
  obtain ⟨fd, D⟩ := c.def_ 96 (d := dDef "_law_three_refusals" 127 []) rfl
  exact ⟨_, fd, D, He.glo_ok X G (c.fact 129 (f := .glo "_law_three_refusals") rfl)⟩
theorem dat_law (X : K.In h) (G : h.Ns mainGlobals mg) (c : He.SaysD fa fn K) : DefAt K mg "law" (top 128) [] := by
  obtain ⟨fd, D⟩ := c.def_ 97 (d := dDef "law" 128 []) rfl
  exact ⟨_, fd, D, He.glo_ok X G (c.fact 0 (f := .glo "law") rfl)⟩
theorem facts (X : K.In h) (G : h.Ns mainGlobals mg) {f : Addr} (hfa : mg ("law" : Str) = some (.ref f)) (c : He.SaysD fa fn K) (hx : ex K = true) :
    ∃ fd : FuncData, (∀ (s : Shared) (v : Value), BindsTo s fd ⟨[v], []⟩ [("script", v)]) ∧ ∀ base : Heap, K.In base → base.Ns mainGlobals mg → FnOk P w K mg base CX0 10 f fd ["script"] (spLaw K) := by
  unfold ex at hx
  simp only [Bool.and_eq_true, decide_eq_true_eq] at hx
  obtain ⟨eg, hu, hx4⟩ := hx
  obtain ⟨⟨⟨xV, xS⟩, xM⟩, xL⟩ := hx4
  have xaV : ErrA K (He.ga K "BadValue") "name" ecl [false, false, true, false, false, false, false, false, false, false, false, false, false, true] := errA_ok rfl xV
  have xaS : ErrA K (He.ga K "BadSegment") "index" ecl [false, true, false, false, false, false, false, false, false, false, false, false, false, true] := errA_ok rfl xS
  have xaM : ErrA K (He.ga K "TooMany") "word" ecl [false, false, false, true, false, false, false, false, false, false, false, false, false, true] := errA_ok rfl xM
  have xaL : ErrA K (He.ga K "TooLong") "word" ecl [false, false, false, false, true, false, false, false, false, false, false, false, false, true] := errA_ok rfl xL
  obtain ⟨fd, DLaw⟩ := c.def_ 97 (d := dDef "law" 128 []) rfl
  have el := hfa.symm.trans (He.glo_ok X G (c.fact 0 (f := .glo "law") rfl))
  injection el with el
  injection el with el
  subst el
  have bl := FunD.bindsA (ps := ["script"]) DLaw fun _ _ _ _ _ _ us hl => match us, hl with | [_], _ => rfl
  refine ⟨fd, fun s v => bl s [v] rfl, fun base _ _ => ?_⟩
  have B := bl_of X G c eg
  have gc := gc_of X G c
  have bv : mg "ValueError" = none := He.free_ok X G (c.fact 12 (f := .free "ValueError") rfl)
  have gi_MOST_TRANSFORM : GInt mg "MOST_TRANSFORM" 150 := He.int_ok X G (c.fact 13 (f := .int "MOST_TRANSFORM" 150) rfl)
  have gi_MOST_PLACE : GInt mg "MOST_PLACE" 300 := He.int_ok X G (c.fact 14 (f := .int "MOST_PLACE" 300) rfl)
  have gi_MOST_FIGURES : GInt mg "MOST_FIGURES" 150 := He.int_ok X G (c.fact 15 (f := .int "MOST_FIGURES" 150) rfl)
  have gi_MOST_SEGMENTS : GInt mg "MOST_SEGMENTS" 200 := He.int_ok X G (c.fact 16 (f := .int "MOST_SEGMENTS" 200) rfl)
  have gi_FEW_FIGURES : GInt mg "FEW_FIGURES" 9 := He.int_ok X G (c.fact 17 (f := .int "FEW_FIGURES" 9) rfl)
  have gi_FEW_SEGMENTS : GInt mg "FEW_SEGMENTS" 40 := He.int_ok X G (c.fact 18 (f := .int "FEW_SEGMENTS" 40) rfl)
  have g_unit : GUnit K mg (He.ga K "UNIT") := ⟨He.glo_ok X G (c.fact 131 (f := .glo "UNIT") rfl), fun F => by
    obtain ⟨v, r, q⟩ := dqB_ok F _ _ hu
    rw [relV_ref r] at q
    exact q⟩
  obtain ⟨fdV, DV⟩ := c.def_ 98 (d := dIni "BadValue" "BadValue.__init__" 5) rfl
  have e_BadValue : ExK P w K mg base "BadValue" (He.ga K "BadValue") "name" := exk_BadValue xaV DV (He.glo_ok X G (c.fact 21 (f := .glo "BadValue") rfl))
  obtain ⟨fdS, DS⟩ := c.def_ 99 (d := dIni "BadSegment" "BadSegment.__init__" 4) rfl
  have e_BadSegment : ExK P w K mg base "BadSegment" (He.ga K "BadSegment") "index" := exk_BadSegment xaS DS (He.glo_ok X G (c.fact 20 (f := .glo "BadSegment") rfl))
  obtain ⟨fdM, DM⟩ := c.def_ 100 (d := dIni "TooMany" "TooMany.__init__" 6) rfl
  have e_TooMany : ExK P w K mg base "TooMany" (He.ga K "TooMany") "word" := exk_TooMany xaM DM (He.glo_ok X G (c.fact 22 (f := .glo "TooMany") rfl))
  obtain ⟨fdL, DL⟩ := c.def_ 101 (d := dIni "TooLong" "TooLong.__init__" 7) rfl
  have e_TooLong : ExK P w K mg base "TooLong" (He.ga K "TooLong") "word" := exk_TooLong xaL DL (He.glo_ok X G (c.fact 23 (f := .glo "TooLong") rfl))
  obtain ⟨fdE, DE⟩ := c.def_ 50 (d := dDef "_law_error" 81 []) rfl
  have FE : FnE P w K mg base 1 _ fdE ["e"] (spErr K (c_err (He.ga K))) := k__law_error B bv gc xaV.ef xaS.ef xaM.ef xaL.ef DE
  have gE := He.glo_ok X G (c.fact 83 (f := .glo "_law_error") rfl)
  have keE := DE.kp
  have bE := DE.bindsN (ps := ["e"]) fun _ _ _ _ _ _ us hl => match us, hl with | [_], _ => rfl
  have gM : mg "MapError" = some (.ref (He.ga K "MapError")) := He.glo_ok X G (c.fact 32 (f := .glo "MapError") rfl)
  have hM : ∀ x ∈ (["BadValue", "BadSegment", "TooMany", "TooLong"] : List Str), PySem.W.exmOne K (.ref (He.ga K x)) (.ref (He.ga K "MapError")) = some true := fun x hx => by
    simp only [List.mem_cons, List.not_mem_nil, or_false] at hx
    rcases hx with rfl | rfl | rfl | rfl
    · exact xaV.exm
    · exact xaS.exm
    · exact xaM.exm
    · exact xaL.exm
  have h_reduced := K88.h_reduced (P := P) (w := w) (base := base) B (dat_reduced X G c)
  have h_add_f := K88.h_add_f (P := P) (w := w) (base := base) B (dat_add_f X G c) h_reduced
  have h_sub_f := K88.h_sub_f (P := P) (w := w) (base := base) B (dat_sub_f X G c) h_reduced
  have h_mul_f := K88.h_mul_f (P := P) (w := w) (base := base) B (dat_mul_f X G c) h_reduced
  have h_div_f := K88.h_div_f (P := P) (w := w) (base := base) B (dat_div_f X G c) h_reduced
  have h_neg_f := K88.h_neg_f (P := P) (w := w) (base := base) B (dat_neg_f X G c)
  have h_sum_row := K88.h_sum_row (P := P) (w := w) (base := base) B (dat_sum_row X G c) h_reduced
  have h_placed_p := K88.h_placed_p (P := P) (w := w) (base := base) B (dat_placed_p X G c) h_sum_row
  have h_det_t := K88.h_det_t (P := P) (w := w) (base := base) B (dat_det_t X G c) h_sub_f h_mul_f
  have h_chained_t := K88.h_chained_t (P := P) (w := w) (base := base) B (dat_chained_t X G c) h_sum_row h_placed_p
  have h_inverse_t := K88.h_inverse_t (P := P) (w := w) (base := base) B (dat_inverse_t X G c) h_neg_f h_placed_p h_div_f h_det_t
  have h_scale_t := K88.h_scale_t (P := P) (w := w) (base := base) B (dat_scale_t X G c) h_add_f h_mul_f
  have h_crossed := K88.h_crossed (P := P) (w := w) (base := base) B (dat_crossed X G c) h_sub_f h_mul_f
  have h_steps_from := K88.h_steps_from (P := P) (w := w) (base := base) B (dat_steps_from X G c) h_sub_f
  have h_transform_t := K88.h_transform_t (P := P) (w := w) (base := base) B (dat_transform_t X G c) h_sub_f h_placed_p h_div_f h_crossed h_steps_from
  have h_is_int_1 := K88.h_is_int_1 (P := P) (w := w) (base := base) B (dat_is_int X G c)
  have h_is_int_2 := K88.h_is_int_2 (P := P) (w := w) (base := base) B (dat_is_int X G c)
  have h_is_tuple := K88.h_is_tuple (P := P) (w := w) (base := base) B (dat_is_tuple X G c)
  have h_is_fraction := K88.h_is_fraction (P := P) (w := w) (base := base) B (dat_is_fraction X G c) h_is_int_2 h_is_int_1 h_is_tuple
  have h_power_of_ten := K88.h_power_of_ten (P := P) (w := w) (base := base) B (dat_power_of_ten X G c)
  have h_within_figures := K88.h_within_figures (P := P) (w := w) (base := base) B (dat_within_figures X G c) h_power_of_ten
  have h_is_point := K88.h_is_point (P := P) (w := w) (base := base) B (dat_is_point X G c) h_is_fraction h_is_tuple
  have h_is_segment := K88.h_is_segment (P := P) (w := w) (base := base) B (dat_is_segment X G c) h_is_point h_is_tuple
  have h_triple_of := K88.h_triple_of (P := P) (w := w) (base := base) B (dat_triple_of X G c)
  have h_cross3 := K88.h_cross3 (P := P) (w := w) (base := base) B (dat_cross3 X G c)
  have h_dot3 := K88.h_dot3 (P := P) (w := w) (base := base) B (dat_dot3 X G c)
  have h_sign_of := K88.h_sign_of (P := P) (w := w) (base := base) B (dat_sign_of X G c)
  have h_side_p := K88.h_side_p (P := P) (w := w) (base := base) B (dat_side_p X G c) h_sign_of h_dot3 h_triple_of h_cross3
  have h_placed_rows := K88.h_placed_rows (P := P) (w := w) (base := base) B (dat_placed_rows X G c) h_placed_p
  have h_is_transform := K88.h_is_transform (P := P) (w := w) (base := base) B (dat_is_transform X G c) h_det_t h_is_fraction h_is_tuple
  have h_check_point := K88.h_check_point (P := P) (w := w) (base := base) B e_BadValue h_is_point (dat_check_point X G c)
  have h_check_place := K88.h_check_place (P := P) (w := w) (base := base) B e_TooLong h_within_figures h_check_point (dat_check_place X G c)
  have h_check_transform_1 := K88.h_check_transform_1 (P := P) (w := w) (base := base) B e_BadValue e_TooLong h_within_figures h_is_transform gi_MOST_TRANSFORM (dat_check_transform X G c)
  have h_check_transform := K88.h_check_transform (P := P) (w := w) (base := base) B e_BadValue e_TooLong h_within_figures h_is_transform gi_MOST_TRANSFORM (dat_check_transform X G c)
  have h_placed_point := K88.h_placed_point (P := P) (w := w) (base := base) B h_placed_p h_check_place h_check_transform_1 gi_MOST_PLACE (dat_placed_point X G c)
  have h_chained_transform := K88.h_chained_transform (P := P) (w := w) (base := base) B h_chained_t h_check_transform (dat_chained_transform X G c)
  have h_inverse_of := K88.h_inverse_of (P := P) (w := w) (base := base) B h_inverse_t h_check_transform_1 (dat_inverse_of X G c)
  have h_determinant_of := K88.h_determinant_of (P := P) (w := w) (base := base) B h_det_t h_check_transform_1 (dat_determinant_of X G c)
  have h_scale_of := K88.h_scale_of (P := P) (w := w) (base := base) B h_scale_t h_check_transform_1 (dat_scale_of X G c)
  have h_order_of := K88.h_order_of (P := P) (w := w) (base := base) B h_chained_t h_check_transform_1 g_unit (dat_order_of X G c)
  have h_check_three := K88.h_check_three (P := P) (w := w) (base := base) B e_BadValue h_check_place h_side_p h_is_point gi_MOST_PLACE (dat_check_three X G c)
  have h_transform_of := K88.h_transform_of (P := P) (w := w) (base := base) B h_transform_t h_check_three (dat_transform_of X G c)
  have h_numbers_of := K88.h_numbers_of (P := P) (w := w) (base := base) B (dat_numbers_of X G c)
  have h_check_drawing_1 := K88.h_check_drawing_1 (P := P) (w := w) (base := base) B e_BadValue e_BadSegment e_TooLong e_TooMany h_within_figures h_numbers_of h_is_segment gi_MOST_FIGURES gi_MOST_SEGMENTS gi_FEW_FIGURES gi_FEW_SEGMENTS (dat_check_drawing X G c)
  have h_placed_drawing := K88.h_placed_drawing (P := P) (w := w) (base := base) B h_placed_rows h_check_drawing_1 h_check_transform_1 (dat_placed_drawing X G c)
  have h__law_gcd := K88.h__law_gcd (P := P) (w := w) (base := base) B (dat__law_gcd X G c)
  have h__law_frac := K88.h__law_frac (P := P) (w := w) (base := base) B (dat__law_frac X G c) h__law_gcd
  have h__law_add := K88.h__law_add (P := P) (w := w) (base := base) B (dat__law_add X G c) h__law_frac
  have h__law_sub := K88.h__law_sub (P := P) (w := w) (base := base) B (dat__law_sub X G c) h__law_frac
  have h__law_mul := K88.h__law_mul (P := P) (w := w) (base := base) B (dat__law_mul X G c) h__law_frac
  have h__law_div := K88.h__law_div (P := P) (w := w) (base := base) B (dat__law_div X G c) h__law_frac
  have h__law_minus := K88.h__law_minus (P := P) (w := w) (base := base) B (dat__law_minus X G c)
  have h__law_sum_of := K88.h__law_sum_of (P := P) (w := w) (base := base) B (dat__law_sum_of X G c) h__law_add h__law_mul
  have h__law_image := K88.h__law_image (P := P) (w := w) (base := base) B (dat__law_image X G c) h__law_sum_of
  have h__law_placed := K88.h__law_placed (P := P) (w := w) (base := base) B (dat__law_placed X G c) h__law_image
  have h__law_det := K88.h__law_det (P := P) (w := w) (base := base) B (dat__law_det X G c) h__law_sub h__law_mul
  have h__law_chain := K88.h__law_chain (P := P) (w := w) (base := base) B (dat__law_chain X G c) h__law_image h__law_sum_of
  have h__law_back := K88.h__law_back (P := P) (w := w) (base := base) B (dat__law_back X G c) h__law_minus h__law_image h__law_div h__law_det
  have h__law_unit := K88.h__law_unit (P := P) (w := w) (base := base) B (dat__law_unit X G c)
  have h__law_order := K88.h__law_order (P := P) (w := w) (base := base) B (dat__law_order X G c) h__law_chain h__law_unit
  have h__law_scale := K88.h__law_scale (P := P) (w := w) (base := base) B (dat__law_scale X G c) h__law_add h__law_mul
  have h__law_along := K88.h__law_along (P := P) (w := w) (base := base) B (dat__law_along X G c) h__law_add h__law_mul h__law_sub
  have h__law_next := fun S : Zs => K88.h__law_next (P := P) (w := w) (base := base) (S := S) B (dat__law_next X G c)
  have h__law_pick := fun S : Zs => K88.h__law_pick (P := P) (w := w) (base := base) (S := S) B (dat__law_pick X G c) (h__law_next S)
  have h__law_from := fun S : Zs => K88.h__law_from (P := P) (w := w) (base := base) (S := S) B (dat__law_from X G c) (h__law_next S)
  have h__law_shuffled := fun S : Zs => K88.h__law_shuffled (P := P) (w := w) (base := base) (S := S) B (dat__law_shuffled X G c) (h__law_next S)
  have h__law_some := fun S : Zs => K88.h__law_some (P := P) (w := w) (base := base) (S := S) B (dat__law_some X G c) (h__law_pick S)
  have h__law_point := fun S : Zs => K88.h__law_point (P := P) (w := w) (base := base) (S := S) B (dat__law_point X G c) h__law_frac (h__law_pick S) (h__law_from S)
  have h__law_alike_rows := fun S : Zs => K88.h__law_alike_rows (P := P) (w := w) (base := base) (S := S) B (dat__law_alike_rows X G c) h__law_minus (h__law_next S) h__law_mul h__law_frac (h__law_some S) (h__law_pick S)
  have h__law_free_rows := fun S : Zs => K88.h__law_free_rows (P := P) (w := w) (base := base) (S := S) B (dat__law_free_rows X G c) (h__law_next S) h__law_add (h__law_some S) h__law_mul h__law_frac (h__law_pick S) (h__law_from S)
  have h__law_transform := fun S : Zs => K88.h__law_transform (P := P) (w := w) (base := base) (S := S) B (dat__law_transform X G c) h__law_frac (h__law_pick S) (h__law_from S) (h__law_alike_rows S) (h__law_free_rows S) (h__law_next S)
  have h__law_great_number := fun S : Zs => K88.h__law_great_number (P := P) (w := w) (base := base) (S := S) B (dat__law_great_number X G c) h__law_frac (h__law_next S) (h__law_pick S)
  have h__law_three := fun S : Zs => K88.h__law_three (P := P) (w := w) (base := base) (S := S) B (dat__law_three X G c) (h__law_shuffled S) h__law_image (h__law_transform S) h__law_add (h__law_some S) (h__law_point S)
  have h__law_even_rows := fun S : Zs => K88.h__law_even_rows (P := P) (w := w) (base := base) (S := S) B (dat__law_even_rows X G c) (h__law_next S)
  have h__law_cycle := fun S : Zs => K88.h__law_cycle (P := P) (w := w) (base := base) (S := S) B (dat__law_cycle X G c) h__law_chain h__law_back (h__law_transform S) (h__law_pick S)
  have h__law_scatter := fun S : Zs => K88.h__law_scatter (P := P) (w := w) (base := base) (S := S) B (dat__law_scatter X G c) (h__law_next S) (h__law_pick S)
  have h__law_star := fun S : Zs => K88.h__law_star (P := P) (w := w) (base := base) (S := S) B (dat__law_star X G c) (h__law_next S) (h__law_from S)
  have h__law_onto := fun S : Zs => K88.h__law_onto (P := P) (w := w) (base := base) (S := S) B (dat__law_onto X G c) (h__law_next S) (h__law_pick S)
  have h__law_sides := K88.h__law_sides (P := P) (w := w) (base := base) B (dat__law_sides X G c)
  have h__law_loop := fun S : Zs => K88.h__law_loop (P := P) (w := w) (base := base) (S := S) B (dat__law_loop X G c) (h__law_next S)
  have h__law_nested := fun S : Zs => K88.h__law_nested (P := P) (w := w) (base := base) (S := S) B (dat__law_nested X G c) (h__law_from S) h__law_sides (h__law_next S) (h__law_pick S)
  have h__law_spiked := fun S : Zs => K88.h__law_spiked (P := P) (w := w) (base := base) (S := S) B (dat__law_spiked X G c) (h__law_from S) (h__law_pick S)
  have h__law_grid := fun S : Zs => K88.h__law_grid (P := P) (w := w) (base := base) (S := S) B (dat__law_grid X G c) (h__law_pick S) (h__law_next S)
  have h__law_touching := fun S : Zs => K88.h__law_touching (P := P) (w := w) (base := base) (S := S) B (dat__law_touching X G c) (h__law_scatter S) h__law_sides (h__law_pick S)
  have h__law_case := K88.h__law_case (P := P) (w := w) (base := base) B (dat__law_case X G c) h__law_sides
  have h__law_rows := fun S : Zs => K88.h__law_rows (P := P) (w := w) (base := base) (S := S) B (dat__law_rows X G c) (h__law_touching S) (h__law_scatter S) (h__law_grid S) (h__law_spiked S) (h__law_nested S) (h__law_loop S) (h__law_onto S) (h__law_star S) h__law_case (h__law_next S)
  have h__law_laid := K88.h__law_laid (P := P) (w := w) (base := base) B (dat__law_laid X G c) h__law_frac
  have h__law_move := fun S : Zs => K88.h__law_move (P := P) (w := w) (base := base) (S := S) B (dat__law_move X G c) (h__law_from S) (h__law_pick S)
  have h__law_mixed := fun S : Zs => K88.h__law_mixed (P := P) (w := w) (base := base) (S := S) B (dat__law_mixed X G c) (h__law_shuffled S) (h__law_next S)
  have h__law_drawing := fun S : Zs => K88.h__law_drawing (P := P) (w := w) (base := base) (S := S) B (dat__law_drawing X G c) (h__law_mixed S) h__law_laid (h__law_pick S) (h__law_move S) (h__law_next S) (h__law_rows S)
  have h__law_same := K88.h__law_same (P := P) (w := w) (base := base) B (dat__law_same X G c) 5
  have h__law_copy := K88.h__law_copy (P := P) (w := w) (base := base) B (dat__law_copy X G c) 5
  have h__law_told := K88.h__law_told (P := P) (w := w) (base := base) B gM hM FE gE keE bE (dat__law_told X G c) h_is_transform h_transform_of h_order_of h_scale_of h_determinant_of h_inverse_of h_chained_transform h_placed_drawing h_placed_point
  have h__law_asked := K88.h__law_asked (P := P) (w := w) (base := base) B (dat__law_asked X G c) h__law_same h__law_told h__law_copy
  have h__law_no_transform := fun S : Zs => K88.h__law_no_transform (P := P) (w := w) (base := base) (S := S) B (dat__law_no_transform X G c) (h__law_pick S) h__law_mul (h__law_next S)
  have h__law_refusals := fun S : Zs => K88.h__law_refusals (P := P) (w := w) (base := base) (S := S) (cl := He.ga K) B (dat__law_refusals X G c) (h__law_pick S) (h__law_next S) (h__law_no_transform S)
  have h__law_three_refusals := fun S : Zs => K88.h__law_three_refusals (P := P) (w := w) (base := base) (S := S) (cl := He.ga K) B (dat__law_three_refusals X G c) (h__law_pick S) (h__law_shuffled S) h__law_along
  have h__law_stream := K88.h__law_stream (P := P) (w := w) (base := base) B (dat__law_stream X G c)
  exact k_law B g_unit h__law_stream h__law_same h__law_unit h__law_asked h__law_pick h__law_refusals h__law_point h__law_three_refusals h__law_order h__law_scale h__law_even_rows h__law_det h__law_back h__law_chain h__law_placed h__law_image h__law_alike_rows h__law_cycle h__law_three h__law_drawing h__law_next h__law_great_number h__law_transform DLaw
end
end K88
/-! H2 -/
open PySem PySem.W PySem.Calls PyProof.Rows
theorem PySem.Challenge.cw_mappedout_k88_transforms_and_their_numbe_holds : PySem.Challenge.rw_mappedout_k88_transforms_and_their_numbe.Holds := by
  refine K88.pre ?_
  refine L2.walk_ofE (l := PySem.Challenge.rw_mappedout_k88_transforms_and_their_numbe) (n := 63) (k := 10) (x := "script") (CX := L2.CX0) rfl (by decide) (by kernel_rfl) ⟨rfl, by decide, by decide⟩ ?F (fun _ _ _ _ z => z)
  intro w mg fa h Y G hmg0
  obtain ⟨K, KX, c, hx⟩ := Y
  have hmg : mg ("law" : PySem.Str) = some (.ref fa) := by
    have e : (HandSHeadRun.topDef (OpenLaw.row PySem.Challenge.rw_mappedout_k88_transforms_and_their_numbe).prog 128).name = ("law" : PySem.Str) := by kernel_rfl
    rw [← e]
    exact hmg0
  obtain ⟨fd, hb, hF⟩ := K88.facts (P := (PySem.Challenge.rw_mappedout_k88_transforms_and_their_numbe).prog) (w := w) KX G hmg c hx
  exact ⟨K, fd, K88.spLaw K, KX, hb, fun H a ns hl _ hS => ⟨a, ns, rfl, hS, fun _ => rfl⟩, hF⟩
