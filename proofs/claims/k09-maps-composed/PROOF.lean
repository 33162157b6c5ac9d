import PyProof.Rows.All
import Wide.All
import OpenK.AllK
import Wide.FinOn
import HandS.ForMost
import PySem.Challenge.RW_foundvalues_k09_whole_maps_composed
import HandS.IsInst
import HandS.Star
import HandS.Defaults
import HandS.Flow
import HandS.More
import HandS.CallSlots
import HandS.ForExc
import HandS.TupAny
import HandS.Deep
import HandS.RaiseMore
import HandS.Conv
import KE.DatumIndex
import HandS.Style
set_option Elab.async false
set_option Elab.async false
set_option linter.all false
set_option maxRecDepth 100000
namespace Fv
open PySem L2

/-- a value: tuples by what they hold, all that may change by its address -/
inductive PV where
  | non | bl (b : Bool) | int (i : Int) | str (x : Str) | ref (a : Addr) | ty (n : String) | tup (xs : List PV)
  /-- a list that is only read; a dict of the text with text keys -/
  | wl (xs : List PV) | wd (ks : List Str) (vs : List PV)

/-- an object that may change -/
inductive PO where
  | lst (xs : List PV)
  | dict (kvs : List (PV × PV))
  | ins (C : Addr) (fs : List (Str × PV))

abbrev PH := Addr → Option PO
abbrev PSt := List (Option PV)
abbrev VP := PV → PH → Prop
def pu (G : PH) (a : Addr) (o : PO) : PH := fun b => if b = a then some o else G b
theorem pu_same {G : PH} {a : Addr} {o : PO} : pu G a o a = some o := by unfold pu; rw [if_pos rfl]
theorem pu_ne {G : PH} {a b : Addr} {o : PO} (h : b ≠ a) : pu G a o b = G b := by unfold pu; rw [if_neg h]
theorem pu_pu {G : PH} {a : Addr} {o u : PO} : pu (pu G a o) a u = pu G a u := by
  funext b; unfold pu; split <;> rfl
/-- less is known -/
def Sub (G2 G1 : PH) : Prop := ∀ a o, G2 a = some o → G1 a = some o
theorem Sub.refl (G : PH) : Sub G G := fun _ _ h => h
theorem Sub.trans {A B C : PH} (h : Sub A B) (k : Sub B C) : Sub A C := fun a o e => k a o (h a o e)
theorem Sub.free {A B : PH} (h : Sub A B) {a : Addr} (e : B a = none) : A a = none := by
  cases q : A a with
  | none => rfl
  | some o => rw [h a o q] at e; cases e
theorem Sub.pu {A B : PH} (h : Sub A B) (a : Addr) (o : PO) : Sub (pu A a o) (pu B a o) := fun b u e => by
  unfold Fv.pu at e ⊢
  split
  · rename_i hb; rw [if_pos hb] at e; exact e
  · rename_i hb; rw [if_neg hb] at e; exact h b u e
theorem Sub.new {G : PH} {p : Addr} {o : PO} (h : G p = none) : Sub G (Fv.pu G p o) := fun b u e => by
  have : b ≠ p := by rintro rfl; rw [h] at e; cases e
  rw [pu_ne this]; exact e
theorem ne_of_free {G : PH} {a p : Addr} {o : PO} (h : G a = some o) (k : G p = none) : a ≠ p := by
  rintro rfl; rw [h] at k; cases k

/-- a list that no one writes -/
def FzL (K : PySem.W.Frag) (H : Hp) (a : Addr) (vs : List V) : Prop := (∃ o, H a = some (.frz o (.lst vs))) ∨
  ∃ (o : Obj) (its : Array Value) (n : Nat), K.lookup a = some o ∧ o.cls = .type "list" ∧ o.dict = none ∧ o.data = .seq its n ∧ its.size ≤ sizeLine ∧ Vals vs its.toList
theorem FzL.sq {K : PySem.W.Frag} {H : Hp} {a : Addr} {vs : List V} (h : FzL K H a vs) : SqL K H a vs := by
  rcases h with h | h
  · exact .inl (.inr h)
  · exact .inr h
/-- a dict of the text: its keys, its values -/
def WDt (K : PySem.W.Frag) (w : World) (d : Addr) (ks : List Str) (vs : List V) : Prop :=
  ks.length = vs.length ∧ (∃ es n, KDict K w d es n) ∧ ∀ z : Str, match (ks.zip vs).lookup z with
    | some v => ∃ u, PySem.W.nsIn K d z = some (some u) ∧ RelV v u
    | none => PySem.W.nsIn K d z = some none

section
variable (K : PySem.W.Frag) (w : World)
mutual
def RepV (H : Hp) : PV → V → Prop
  | .non, v => v = .non
  | .bl b, v => v = .bl b
  | .int i, v => v = .int i
  | .str x, v => v = .str x
  | .ref a, v => v = .ref a
  | .ty n, v => v = .ty n
  | .tup xs, v => ∃ p vs, v = .ref p ∧ SqT K H p vs ∧ RepL H xs vs
  | .wl xs, v => ∃ p vs, v = .ref p ∧ FzL K H p vs ∧ RepL H xs vs
  | .wd ks xs, v => ∃ p vs, v = .ref p ∧ WDt K w p ks vs ∧ RepL H xs vs
def RepL (H : Hp) : List PV → List V → Prop
  | [], vs => vs = []
  | x :: xs, vs => ∃ v r, vs = v :: r ∧ RepV H x v ∧ RepL H xs r
end
/-- keys of a dict at its address -/
def RepK : PV → Key → Prop
  | .int i, k => k = .inl i
  | .str x, k => k = .inr x
  | _, _ => False
def RepKs : List PV → List Key → Prop
  | [], ks => ks = []
  | x :: xs, ks => ∃ k r, ks = k :: r ∧ RepK x k ∧ RepKs xs r
def RepKT : PV → List Key → Prop
  | .tup xs, ks => RepKs xs ks
  | _, _ => False
def RepO (H : Hp) (a : Addr) : PO → Prop
  | .lst xs => ∃ vs, H a = some (.lst vs) ∧ RepL K w H xs vs
  | .dict kvs => (∃ es, H a = some (.dK es) ∧ Paired (fun (p : PV × PV) (q : Key × V) => RepK p.1 q.1 ∧ RepV K w H p.2 q.2) kvs es) ∨
      ∃ es, H a = some (.dT es) ∧ Paired (fun (p : PV × PV) (q : List Key × V) => RepKT p.1 q.1 ∧ RepV K w H p.2 q.2) kvs es
  | .ins C fs => ∃ dx vs, H a = some (.ins C dx vs) ∧ Paired (fun (p : Str × PV) (q : Str × V) => p.1 = q.1 ∧ RepV K w H p.2 q.2) fs vs
def RepO1 : Option PV → Option V → Prop := fun x v => ∀ y, x = some y → ∃ u, v = some u
end

/-- tuples stand -/
structure Stay (H H1 : Hp) : Prop where
  tup : ∀ p xs, H p = some (.tup xs) → H1 p = some (.tup xs)
  frz : ∀ p o u, H p = some (.frz o u) → H1 p = some (.frz o u)
theorem Stay.sqT {K : PySem.W.Frag} {H H1 : Hp} (h : Stay H H1) {p : Addr} {xs : List V} (q : SqT K H p xs) : SqT K H1 p xs := by
  rcases q with (q | ⟨o, q⟩) | q
  · exact .inl (.inl (h.tup _ _ q))
  · exact .inl (.inr ⟨o, h.frz _ _ _ q⟩)
  · exact .inr q
theorem Stay.fz {K : PySem.W.Frag} {H H1 : Hp} (h : Stay H H1) {p : Addr} {xs : List V} (q : FzL K H p xs) : FzL K H1 p xs := by
  rcases q with ⟨o, q⟩ | q
  · exact .inl ⟨o, h.frz _ _ _ q⟩
  · exact .inr q
structure Step (S : Addr → Prop) (H H1 : Hp) : Prop extends Stay H H1 where
  hid : ∀ a, S a → H1 a = H a
theorem Step.refl {S : Addr → Prop} {H : Hp} : Step S H H := ⟨⟨fun _ _ h => h, fun _ _ _ h => h⟩, fun _ _ => rfl⟩
theorem Step.trans {S : Addr → Prop} {H H1 H2 : Hp} (a : Step S H H1) (b : Step S H1 H2) : Step S H H2 :=
  ⟨⟨fun p xs h => b.tup p xs (a.tup p xs h), fun p o u h => b.frz p o u (a.frz p o u h)⟩, fun c s => (b.hid c s).trans (a.hid c s)⟩
theorem Step.new {S : Addr → Prop} {H : Hp} {p : Addr} {o : HO} (h : H p = none) (hs : ∀ a, S a → H a ≠ none) : Step S H (upd H p o) :=
  ⟨⟨fun q xs e => by rw [upd_ne (ne_of_none e h)]; exact e, fun q x u e => by rw [upd_ne (ne_of_none e h)]; exact e⟩, fun a s => by
    rw [upd_ne]; rintro rfl; exact hs _ s h⟩
/-- what may be written over -/
def Soft : HO → Prop
  | .tup _ => False
  | .frz _ _ => False
  | _ => True
theorem Step.put {S : Addr → Prop} {H : Hp} {p : Addr} {o u : HO} (h : H p = some u) (hu : Soft u) (hs : ¬ S p) : Step S H (upd H p o) :=
  ⟨⟨fun q xs e => by
      rw [upd_ne]; · exact e
      rintro rfl; rw [h] at e; cases e; exact hu,
    fun q x u' e => by
      rw [upd_ne]; · exact e
      rintro rfl; rw [h] at e; cases e; exact hu⟩, fun a s => by
    rw [upd_ne]; rintro rfl; exact hs s⟩

section
variable {K : PySem.W.Frag} {w : World} {H H1 : Hp}
mutual
theorem RepV.mono (h : Stay H H1) : ∀ {x : PV} {v : V}, RepV K w H x v → RepV K w H1 x v
  | .non, _, r => r
  | .bl _, _, r => r
  | .int _, _, r => r
  | .str _, _, r => r
  | .ref _, _, r => r
  | .ty _, _, r => r
  | .tup xs, _, ⟨p, vs, e, t, r⟩ => ⟨p, vs, e, h.sqT t, RepL.mono h r⟩
  | .wl xs, _, ⟨p, vs, e, t, r⟩ => ⟨p, vs, e, h.fz t, RepL.mono h r⟩
  | .wd ks xs, _, ⟨p, vs, e, t, r⟩ => ⟨p, vs, e, t, RepL.mono h r⟩
theorem RepL.mono (h : Stay H H1) : ∀ {xs : List PV} {vs : List V}, RepL K w H xs vs → RepL K w H1 xs vs
  | [], _, r => r
  | _ :: _, _, ⟨v, r, e, a, b⟩ => ⟨v, r, e, RepV.mono h a, RepL.mono h b⟩
end
theorem RepL.length : ∀ {xs : List PV} {vs : List V}, RepL K w H xs vs → xs.length = vs.length
  | [], _, r => by cases r; rfl
  | _ :: _, _, ⟨v, r, e, a, b⟩ => by cases e; simp [RepL.length b]
theorem RepL.get : ∀ {xs : List PV} {vs : List V} {i : Nat} {x : PV}, RepL K w H xs vs → xs[i]? = some x → ∃ v, vs[i]? = some v ∧ RepV K w H x v
  | [], _, _, _, _, e => by simp at e
  | _ :: _, _, 0, _, ⟨v, r, rfl, a, b⟩, e => by simp at e; subst e; exact ⟨v, rfl, a⟩
  | _ :: _, _, i + 1, x, ⟨v, r, rfl, a, b⟩, e => by
    obtain ⟨u, h1, h2⟩ := RepL.get (i := i) (x := x) b (by simpa using e)
    exact ⟨u, by simpa using h1, h2⟩
theorem RepL.app : ∀ {xs ys : List PV} {vs ws : List V}, RepL K w H xs vs → RepL K w H ys ws → RepL K w H (xs ++ ys) (vs ++ ws)
  | [], _, _, _, r, q => by cases r; exact q
  | _ :: _, _, _, _, ⟨v, r, rfl, a, b⟩, q => ⟨v, r ++ _, rfl, a, RepL.app b q⟩
theorem RepL.one {x : PV} {v : V} (h : RepV K w H x v) : RepL K w H [x] [v] := ⟨v, [], rfl, h, rfl⟩
theorem RepL.take : ∀ {xs : List PV} {vs : List V} (n : Nat), RepL K w H xs vs → RepL K w H (xs.take n) (vs.take n)
  | [], _, n, r => by cases r; simp [RepL]
  | _ :: _, _, 0, _ => by simp [RepL]
  | _ :: _, _, n + 1, ⟨v, r, rfl, a, b⟩ => ⟨v, r.take n, rfl, a, RepL.take n b⟩
theorem RepL.drop : ∀ {xs : List PV} {vs : List V} (n : Nat), RepL K w H xs vs → RepL K w H (xs.drop n) (vs.drop n)
  | [], _, n, r => by cases r; simp [RepL]
  | _ :: _, _, 0, r => r
  | _ :: _, _, n + 1, ⟨v, r, rfl, a, b⟩ => RepL.drop n b
theorem RepL.set : ∀ {xs : List PV} {vs : List V} (i : Nat) {x : PV} {v : V}, RepL K w H xs vs → RepV K w H x v → RepL K w H (xs.set i x) (vs.set i v)
  | [], _, _, _, _, r, _ => by cases r; simp [RepL]
  | _ :: _, _, 0, _, _, ⟨v, r, rfl, a, b⟩, q => ⟨_, r, rfl, q, b⟩
  | _ :: _, _, i + 1, _, _, ⟨v, r, rfl, a, b⟩, q => ⟨v, r.set i _, rfl, a, RepL.set i b q⟩
theorem PairedMap {α β : Type} {F F' : α → β → Prop} {l : List α} {m : List β} (h : Paired F l m) (f : ∀ a b, F a b → F' a b) : Paired F' l m := Paired.mapP h f
end

/-- the heap of values stands for the hand layer's; S: what is hidden -/
structure At (K : PySem.W.Frag) (w : World) (S : Addr → Prop) (G : PH) (H : Hp) : Prop where
  hid : ∀ a, S a → G a = none ∧ H a ≠ none
  ob : ∀ a o, G a = some o → RepO K w H a o
section
variable {K : PySem.W.Frag} {w : World} {S : Addr → Prop} {G : PH} {H H1 : Hp}
theorem RepO.there {a : Addr} {o : PO} (r : RepO K w H a o) : ∃ u, H a = some u ∧ Soft u := by
  cases o with
  | lst xs => obtain ⟨_, e, _⟩ := r; exact ⟨_, e, trivial⟩
  | dict kvs => rcases r with ⟨_, e, _⟩ | ⟨_, e, _⟩ <;> exact ⟨_, e, trivial⟩
  | ins C fs => obtain ⟨_, _, e, _⟩ := r; exact ⟨_, e, trivial⟩
theorem At.free (h : At K w S G H) {p : Addr} (e : H p = none) : G p = none := by
  cases q : G p with
  | none => rfl
  | some o => obtain ⟨u, z, _⟩ := (h.ob p o q).there; rw [e] at z; cases z
theorem At.there (h : At K w S G H) {p : Addr} {o : PO} (e : G p = some o) : ¬ S p := fun s => by
  rw [(h.hid p s).1] at e; cases e
theorem RepO.mono (h : Stay H H1) {a : Addr} (e : H1 a = H a) {o : PO} (r : RepO K w H a o) : RepO K w H1 a o := by
  cases o with
  | lst xs => obtain ⟨vs, q, r⟩ := r; exact ⟨vs, e.trans q, r.mono h⟩
  | dict kvs =>
    rcases r with ⟨es, q, r⟩ | ⟨es, q, r⟩
    · exact .inl ⟨es, e.trans q, PairedMap r fun _ _ z => ⟨z.1, z.2.mono h⟩⟩
    · exact .inr ⟨es, e.trans q, PairedMap r fun _ _ z => ⟨z.1, z.2.mono h⟩⟩
  | ins C fs => obtain ⟨dx, vs, q, r⟩ := r; exact ⟨dx, vs, e.trans q, PairedMap r fun _ _ z => ⟨z.1, z.2.mono h⟩⟩
/-- a new object that no value shows -/
theorem At.silent (h : At K w S G H) {p : Addr} {o : HO} (e : H p = none) : At K w S G (upd H p o) :=
  ⟨fun a s => ⟨(h.hid a s).1, by rw [upd_ne (by rintro rfl; exact (h.hid _ s).2 e)]; exact (h.hid a s).2⟩, fun a u q => by
    have hne : a ≠ p := by rintro rfl; rw [h.free e] at q; cases q
    exact (h.ob a u q).mono (Step.new (S := fun _ => False) e fun _ z => z.elim).toStay (upd_ne hne)⟩
theorem At.new (h : At K w S G H) {p : Addr} {o : HO} {u : PO} (e : H p = none) (r : RepO K w (upd H p o) p u) : At K w S (pu G p u) (upd H p o) :=
  ⟨fun a s => by
    have hne : a ≠ p := by rintro rfl; exact (h.hid _ s).2 e
    rw [pu_ne hne, upd_ne hne]; exact h.hid a s, fun a v q => by
    by_cases hb : a = p
    · subst hb; rw [pu_same] at q; cases q; exact r
    · rw [pu_ne hb] at q
      exact (h.ob a v q).mono (Step.new (S := fun _ => False) e fun _ z => z.elim).toStay (upd_ne hb)⟩
theorem At.put (h : At K w S G H) {p : Addr} {o : HO} {u v : PO} (e : G p = some v) (r : RepO K w (upd H p o) p u) : At K w S (pu G p u) (upd H p o) := by
  obtain ⟨x, hx, sx⟩ := (h.ob p v e).there
  refine ⟨fun a s => ?_, fun a v q => ?_⟩
  · have hne : a ≠ p := by rintro rfl; exact h.there e s
    rw [pu_ne hne, upd_ne hne]; exact h.hid a s
  · by_cases hb : a = p
    · subst hb; rw [pu_same] at q; cases q; exact r
    · rw [pu_ne hb] at q
      exact (h.ob a v q).mono (Step.put (S := fun _ => False) hx sx fun z => z).toStay (upd_ne hb)
theorem At.step_put (h : At K w S G H) {p : Addr} {o : HO} {v : PO} (e : G p = some v) : Step S H (upd H p o) := by
  obtain ⟨x, hx, sx⟩ := (h.ob p v e).there
  exact Step.put hx sx (h.there e)
theorem At.step_new (h : At K w S G H) {p : Addr} {o : HO} (e : H p = none) : Step S H (upd H p o) := Step.new e fun a s => (h.hid a s).2
theorem At.sub {G2 : PH} (h : At K w S G H) (s : Sub G2 G) : At K w S G2 H := ⟨fun a z => ⟨s.free (h.hid a z).1, (h.hid a z).2⟩, fun a o e => h.ob a o (s a o e)⟩
theorem At.soft {a : Addr} {o : PO} (h : At K w S G H) (e : G a = some o) : ∃ u, H a = some u ∧ Soft u := (h.ob a o e).there
end
end Fv

set_option Elab.async false
set_option linter.all false
set_option maxRecDepth 100000
namespace Fv
open PySem L2

/-- what is wanted of an exception: its class, its fields, the slots, the heap -/
abbrev PX := Value → List (Str × PV) → PSt → PH → Prop
structure PD where
  nx : PSt → PH → Prop
  rt : VP
  bk : PSt → PH → Prop
  ct : PSt → PH → Prop
  ex : PX
abbrev TPE := PSt → PH → VP → PX → Prop
abbrev TPA := PSt → PH → (List PV → PH → Prop) → PX → Prop
abbrev TPT := PSt → PH → (Bool → PH → Prop) → PX → Prop
abbrev TPS := PD → PSt → PH → Prop
/-- by values -/
abbrev P2 := PV → PV → PH → VP → Prop
abbrev P1 := PV → PH → VP → Prop

section
variable (K : PySem.W.Frag) (w : World)
def RepS (H : Hp) (σ' : PSt) (σ : St) : Prop := σ'.length = σ.length ∧ ∀ (i : Nat) (x : PV), σ'[i]? = some (some x) → ∃ v, σ[i]? = some (some v) ∧ RepV K w H x v
def RepF (H : Hp) (fs : List (Str × PV)) (vs : List (Str × V)) : Prop := Paired (fun (p : Str × PV) (q : Str × V) => p.1 = q.1 ∧ RepV K w H p.2 q.2) fs vs
def XRep (H : Hp) : Option Addr → List (Str × PV) → Prop
  | none, fs => fs = []
  | some d, fs => ∃ vs, H d = some (.xd vs) ∧ RepF K w H fs vs
structure Si (W : WX) (S : Addr → Prop) (σ' : PSt) (σ : St) (G : PH) (H : Hp) (W' : PX) : Prop where
  at_ : At K w S G H
  sl : RepS K w H σ' σ
  wx : ∀ cls fs d τ' τ G1 H1, Step S H H1 → At K w S G1 H1 → RepS K w H1 τ' τ → XRep K w H1 d fs → W' cls fs τ' G1 → W cls d τ H1
def Back (S : Addr → Prop) (H : Hp) (Q' : VP) (Q : VK) : Prop := ∀ x v G1 H1, Step S H H1 → At K w S G1 H1 → RepV K w H1 x v → Q' x G1 → Q v H1
def BackS (S : Addr → Prop) (H : Hp) (N' : PSt → PH → Prop) (N : St → Hp → Prop) : Prop := ∀ τ' τ G1 H1, Step S H H1 → At K w S G1 H1 → RepS K w H1 τ' τ → N' τ' G1 → N τ H1
def low (W : WX) (t : TPE) : TE := fun σ H Q => ∃ S σ' G W' Q', Si K w W S σ' σ G H W' ∧ t σ' G Q' W' ∧ Back K w S H Q' Q
def lowT (W : WX) (t : TPT) : TT := fun σ H Q => ∃ S σ' G W' Q', Si K w W S σ' σ G H W' ∧ t σ' G Q' W' ∧ ∀ b G1 H1, Step S H H1 → At K w S G1 H1 → Q' b G1 → Q b H1
def lowA (W : WX) (t : TPA) : TA := fun σ H Q => ∃ S σ' G W' Q', Si K w W S σ' σ G H W' ∧ t σ' G Q' W' ∧ ∀ xs vs G1 H1, Step S H H1 → At K w S G1 H1 → RepL K w H1 xs vs → Q' xs G1 → Q vs H1
structure Ba (S : Addr → Prop) (H : Hp) (D' : PD) (D : Ends) : Prop where
  nx : BackS K w S H D'.nx D.nx
  rt : Back K w S H D'.rt D.rt
  bk : BackS K w S H D'.bk D.bk
  ct : BackS K w S H D'.ct D.ct
def lowS (W : WX) (t : TPS) : TS := fun D σ H => ∃ S σ' G D', Si K w W S σ' σ G H D'.ex ∧ t D' σ' G ∧ Ba K w S H D' D
def lowR (r : P2) : R2 := fun x y H Q => ∃ S G x' y' Q', At K w S G H ∧ RepV K w H x' x ∧ RepV K w H y' y ∧ r x' y' G Q' ∧ Back K w S H Q' Q
def lowU (r : P1) : V → Hp → VK → Prop := fun x H Q => ∃ S G x' Q', At K w S G H ∧ RepV K w H x' x ∧ r x' G Q' ∧ Back K w S H Q' Q
/-- a built-in's call, by values -/
def lowC (r : List PV → PH → VP → Prop) : List V → Hp → VK → Prop := fun xs H Q => ∃ S G xs' Q', At K w S G H ∧ RepL K w H xs' xs ∧ r xs' G Q' ∧ Back K w S H Q' Q
end

section
variable {K : PySem.W.Frag} {w : World} {W : WX} {S : Addr → Prop} {σ' : PSt} {σ : St} {G G1 : PH} {H H1 : Hp} {W' : PX} {Q' : VP} {Q : VK}
theorem RepS.mono (r : RepS K w H σ' σ) (h : Stay H H1) : RepS K w H1 σ' σ := ⟨r.1, fun i x e => let ⟨v, a, b⟩ := r.2 i x e; ⟨v, a, b.mono h⟩⟩
theorem RepS.set (r : RepS K w H σ' σ) (i : Nat) {x : PV} {v : V} (q : RepV K w H x v) : RepS K w H (σ'.set i (some x)) (σ.set i (some v)) := by
  refine ⟨by simp [r.1], fun j y e => ?_⟩
  by_cases hj : i = j
  · subst hj
    by_cases hl : i < σ'.length
    · rw [List.getElem?_set_self hl] at e; cases e
      exact ⟨v, by rw [List.getElem?_set_self (by rw [← r.1]; exact hl)], q⟩
    · rw [List.getElem?_eq_none (by simpa using hl)] at e; cases e
  · rw [List.getElem?_set_ne hj] at e
    obtain ⟨u, a, b⟩ := r.2 j y e
    exact ⟨u, by rw [List.getElem?_set_ne hj]; exact a, b⟩
theorem Si.next (s : Si K w W S σ' σ G H W') (st : Step S H H1) (a : At K w S G1 H1) : Si K w W S σ' σ G1 H1 W' :=
  ⟨a, s.sl.mono st.toStay, fun cls fs d τ' τ G2 H2 st2 a2 r x q => s.wx cls fs d τ' τ G2 H2 (st.trans st2) a2 r x q⟩
theorem Si.slots {τ' : PSt} {τ : St} (s : Si K w W S σ' σ G H W') (r : RepS K w H τ' τ) : Si K w W S τ' τ G H W' := ⟨s.at_, r, s.wx⟩
theorem Back.next (b : Back K w S H Q' Q) (st : Step S H H1) : Back K w S H1 Q' Q := fun x v G2 H2 s2 a2 r q => b x v G2 H2 (st.trans s2) a2 r q
theorem BackS.next {N' : PSt → PH → Prop} {N : St → Hp → Prop} (b : BackS K w S H N' N) (st : Step S H H1) : BackS K w S H1 N' N := fun x v G2 H2 s2 a2 r q => b x v G2 H2 (st.trans s2) a2 r q
theorem Ba.next {D' : PD} {D : Ends} (b : Ba K w S H D' D) (st : Step S H H1) : Ba K w S H1 D' D := ⟨b.nx.next st, b.rt.next st, b.bk.next st, b.ct.next st⟩
end

section
variable {X : Cx} {e a b c : Expr} {pos : Pos}
theorem imp_e {t t' : TE} (h : PE X e t) (k : ∀ σ H Q, t' σ H Q → t σ H Q) : PE X e t' := ⟨fun pins s σ H Q I q => h.run pins s σ H Q I (k σ H Q q)⟩
theorem imp_t {t t' : TT} (h : PT X e t) (k : ∀ σ H Q, t' σ H Q → t σ H Q) : PT X e t' := ⟨fun pins s σ H Q I q => h.run pins s σ H Q I (k σ H Q q)⟩
theorem imp_w {t t' : TT} (h : L2.PW X e t) (k : ∀ σ H Q, t' σ H Q → t σ H Q) : L2.PW X e t' := ⟨fun wh pins s σ H Q I q => h.run wh pins s σ H Q I (k σ H Q q)⟩
theorem imp_a {es : List Expr} {t t' : TA} (h : PA X es t) (k : ∀ σ H Q, t' σ H Q → t σ H Q) : PA X es t' := ⟨fun pos pins s σ H Q I q => h.run pos pins s σ H Q I (k σ H Q q)⟩
theorem imp_s {st : Stmt} {t t' : TS} (h : PS X st t) (k : ∀ D σ H, t' D σ H → t D σ H) : PS X st t' := ⟨fun pins s σ H D I q => h.run pins s σ H D I (k D σ H q)⟩
theorem imp_ss {st : List Stmt} {t t' : TS} (h : PSs X st t) (k : ∀ D σ H, t' D σ H → t D σ H) : PSs X st t' := ⟨fun pins s σ H D I q => h.run pins s σ H D I (k D σ H q)⟩
end

def wVar (i : Nat) : TPE := fun σ G Q _ => match σ[i]? with
  | some (some v) => Q v G
  | _ => False
def wCst (v : PV) : TPE := fun _ G Q _ => Q v G
def wOp (r : P2) (ta tb : TPE) : TPE := fun σ G Q W => ta σ G (fun x G1 => tb σ G1 (fun y G2 => r x y G2 Q) W) W
def wUn (r : P1) (ta : TPE) : TPE := fun σ G Q W => ta σ G (fun x G1 => r x G1 Q) W
def wIte (c : TPT) (ta tb : TPE) : TPE := fun σ G Q W => c σ G (fun k G1 => if k = true then ta σ G1 Q W else tb σ G1 Q W) W
def wNil : TPA := fun _ G Q _ => Q [] G
def wCons (ta : TPE) (tr : TPA) : TPA := fun σ G Q W => ta σ G (fun x G1 => tr σ G1 (fun xs G2 => Q (x :: xs) G2) W) W
def wTup (t : TPA) : TPE := fun σ G Q W => t σ G (fun xs G1 => xs.length ≤ sizeLine ∧ Q (.tup xs) G1) W
def wLst (t : TPA) : TPE := fun σ G Q W => t σ G (fun xs G1 => xs.length ≤ sizeLine ∧ ∀ p, G1 p = none → Q (.ref p) (pu G1 p (.lst xs))) W

section
variable {X : Cx} {W : WX} {e a b c : Expr} {pos : Pos} {ta tb : TPE}
theorem low_var {i : Nat} : ∀ σ H Q, low X.K X.w W (wVar i) σ H Q → tVar i σ H Q := by
  rintro σ H Q ⟨S, σ', G, W', Q', s, t, b⟩
  unfold wVar at t
  split at t
  · rename_i v hv
    obtain ⟨u, e, r⟩ := s.sl.2 i v hv
    exact ⟨u, e, b _ _ _ _ Step.refl s.at_ r t⟩
  · exact t.elim
/-- one value, then what follows -/
theorem low_bind {f : V → Hp → Prop} {S : Addr → Prop} {σ' : PSt} {σ : St} {G : PH} {H : Hp} {W' : PX} {Q1 : VP} (s : Si X.K X.w W S σ' σ G H W') (t : ta σ' G Q1 W')
    (h : ∀ x v G1 H1, Step S H H1 → Si X.K X.w W S σ' σ G1 H1 W' → RepV X.K X.w H1 x v → Q1 x G1 → f v H1) : low X.K X.w W ta σ H f :=
  ⟨S, σ', G, W', Q1, s, t, fun x v G1 H1 st a r q => h x v G1 H1 st (s.next st a) r q⟩
theorem pe_opP {op : Operator} {r : P2} (ho : OpR X (binaryOp op) (lowR X.K X.w r)) (ha : PE X a (low X.K X.w W ta)) (hb : PE X b (low X.K X.w W tb)) : PE X (.BinOp a op b pos) (low X.K X.w W (wOp r ta tb)) := by
  refine imp_e (pe_op ho ha hb) ?_
  rintro σ H Q ⟨S, σ', G, W', Q', s, t, bk⟩
  refine low_bind s t fun x v G1 H1 st s1 r1 t1 => ?_
  refine low_bind s1 t1 fun y u G2 H2 st2 s2 r2 t2 => ?_
  exact ⟨S, G2, x, y, Q', s2.at_, r1.mono st2.toStay, r2, t2, bk.next (st.trans st2)⟩
theorem pe_unP {op : UnaryOp} {r : P1} (ho : UnR X (unaryOp op) (lowU X.K X.w r)) (ha : PE X a (low X.K X.w W ta)) : PE X (.UnaryOp op a pos) (low X.K X.w W (wUn r ta)) := by
  refine imp_e (pe_un ho ha) ?_
  rintro σ H Q ⟨S, σ', G, W', Q', s, t, bk⟩
  refine low_bind s t fun x v G1 H1 st s1 r1 t1 => ?_
  exact ⟨S, G1, x, Q', s1.at_, r1, t1, bk.next st⟩
theorem pe_cmpP {op : CmpOp} {r : P2} (ho : OpR X (compareOp op) (lowR X.K X.w r)) (ha : PE X a (low X.K X.w W ta)) (hb : PE X b (low X.K X.w W tb)) (hm : behindInMarks op b = false) : PE X (.Compare a [op] [b] pos) (low X.K X.w W (wOp r ta tb)) := by
  refine imp_e (pe_cmpR ho ha hb hm) ?_
  rintro σ H Q ⟨S, σ', G, W', Q', s, t, bk⟩
  refine low_bind s t fun x v G1 H1 st s1 r1 t1 => ?_
  refine low_bind s1 t1 fun y u G2 H2 st2 s2 r2 t2 => ?_
  exact ⟨S, G2, x, y, Q', s2.at_, r1.mono st2.toStay, r2, t2, bk.next (st.trans st2)⟩
theorem pe_iteP {tc : TPT} (hc : PT X c (lowT X.K X.w W tc)) (ha : PE X a (low X.K X.w W ta)) (hb : PE X b (low X.K X.w W tb)) : PE X (.IfExp c a b pos) (low X.K X.w W (wIte tc ta tb)) := by
  refine imp_e (pe_ifExp hc ha hb) ?_
  rintro σ H Q ⟨S, σ', G, W', Q', s, t, bk⟩
  refine ⟨S, σ', G, W', _, s, t, fun k G1 H1 st a q => ?_⟩
  cases k with
  | true => exact ⟨S, σ', G1, W', Q', s.next st a, by simpa using q, bk.next st⟩
  | false => exact ⟨S, σ', G1, W', Q', s.next st a, by simpa using q, bk.next st⟩
theorem pa_nilP : PA X [] (lowA X.K X.w W wNil) := by
  refine imp_a pa_nil ?_
  rintro σ H Q ⟨S, σ', G, W', Q', s, t, bk⟩
  exact bk [] [] G H Step.refl s.at_ rfl t
theorem pa_consP {es : List Expr} {tr : TPA} (ha : PE X e (low X.K X.w W ta)) (hr : PA X es (lowA X.K X.w W tr)) (hs : starEach (e :: es) X.env = (false, eval e X.env) :: starEach es X.env) : PA X (e :: es) (lowA X.K X.w W (wCons ta tr)) := by
  refine imp_a (pa_cons ha hr hs) ?_
  rintro σ H Q ⟨S, σ', G, W', Q', s, t, bk⟩
  refine low_bind s t fun x v G1 H1 st s1 r1 t1 => ?_
  refine ⟨S, σ', G1, W', _, s1, t1, fun xs vs G2 H2 st2 a2 r2 t2 => ?_⟩
  exact bk (x :: xs) (v :: vs) G2 H2 (st.trans st2) a2 ⟨v, vs, rfl, r1.mono st2.toStay, r2⟩ t2
theorem pe_tupP {es : List Expr} {k : Nat} {t : TPA} (h : PA X es (lowA X.K X.w W t)) : PE X (.Tuple es k pos) (low X.K X.w W (wTup t)) := by
  refine imp_e (pe_tup h) ?_
  rintro σ H Q ⟨S, σ', G, W', Q', s, t, bk⟩
  refine ⟨S, σ', G, W', _, s, t, fun xs vs G1 H1 st a r q => ⟨by rw [← r.length]; exact q.1, fun p hp => ?_⟩⟩
  have st1 := a.step_new (o := .tup vs) hp
  exact bk (.tup xs) _ G1 _ (st.trans st1) (a.silent hp) ⟨p, vs, rfl, SqT.of upd_same, r.mono st1.toStay⟩ q.2
theorem pe_lstP {es : List Expr} {t : TPA} (h : PA X es (lowA X.K X.w W t)) : PE X (.List es pos) (low X.K X.w W (wLst t)) := by
  refine imp_e (pe_lst h) ?_
  rintro σ H Q ⟨S, σ', G, W', Q', s, t, bk⟩
  refine ⟨S, σ', G, W', _, s, t, fun xs vs G1 H1 st a r q => ⟨by rw [← r.length]; exact q.1, fun p hp => ?_⟩⟩
  have st1 := a.step_new (o := .lst vs) hp
  exact bk (.ref p) _ _ _ (st.trans st1) (a.new (u := .lst xs) hp ⟨vs, upd_same, r.mono st1.toStay⟩) rfl (q.2 p (a.free hp))
end
end Fv

set_option Elab.async false
set_option linter.all false
set_option maxRecDepth 100000
namespace Fv
open PySem L2

mutual
def PV.dat : PV → PyData
  | .non => .none
  | .bl b => .bool b
  | .int i => .int i
  | .str x => .str x
  | .tup xs => .tuple (dats xs)
  | .wl xs => .list (dats xs)
  | .ref _ => .dict []
  | .ty _ => .dict []
  | .wd _ _ => .dict []
def dats : List PV → List PyData
  | [] => []
  | x :: xs => x.dat :: dats xs
end
/-- data with the lists of the heap, to a depth -/
def datH (G : PH) : Nat → PV → PyData
  | 0, x => x.dat
  | n + 1, .tup xs => .tuple (xs.map (datH G n))
  | n + 1, .wl xs => .list (xs.map (datH G n))
  | n + 1, .ref a => match G a with
    | some (.lst xs) => .list (xs.map (datH G n))
    | _ => .dict []
  | n + 1, x => x.dat
mutual
def peq : PV → PV → Bool
  | .non, .non => true
  | .bl a, .bl b => a == b
  | .int a, .int b => a == b
  | .str a, .str b => a == b
  | .tup a, .tup b => peqs a b
  | _, _ => false
def peqs : List PV → List PV → Bool
  | [], [] => true
  | a :: as, b :: bs => peq a b && peqs as bs
  | _, _ => false
end
def keyOk : PV → Bool
  | .int _ => true
  | .str _ => true
  | .tup xs => xs.all fun x => match x with | .int _ => true | .str _ => true | _ => false
  | _ => false
def isNon : PV → Bool
  | .non => true
  | _ => false
def isInt : PV → Bool
  | .int _ => true
  | _ => false
def isStr : PV → Bool
  | .str _ => true
  | _ => false

/-- the value's truth -/
def pTru : PV → PH → (Bool → Prop) → Prop
  | .non, _, Q => Q false
  | .bl b, _, Q => Q b
  | .int i, _, Q => Q (i != 0)
  | .str x, _, Q => x.length ≤ sizeLine ∧ Q (x.length != 0)
  | .tup xs, _, Q => Q (!xs.isEmpty)
  | .wl xs, _, Q => Q (!xs.isEmpty)
  | .ref a, G, Q => match G a with
    | some (.lst xs) => Q (!xs.isEmpty)
    | _ => False
  | _, _, _ => False
def pAdd : P2 := fun x y G Q => match x, y with
  | .int i, .int j => Q (.int (i + j)) G
  | .str a, .str b => a.length + b.length ≤ sizeLine ∧ Q (.str (a ++ b)) G
  | .tup a, .tup b => a.length + b.length ≤ sizeLine ∧ Q (.tup (a ++ b)) G
  | .ref a, .ref b => match G a, G b with
    | some (.lst xs), some (.lst ys) => xs.length + ys.length ≤ sizeLine ∧ ∀ p, G p = none → Q (.ref p) (pu G p (.lst (xs ++ ys)))
    | _, _ => False
  | _, _ => False
def pSub : P2 := fun x y G Q => match x, y with
  | .int i, .int j => Q (.int (i - j)) G
  | _, _ => False
def pMul : P2 := fun x y G Q => match x, y with
  | .int i, .int j => CMul i j ∧ Q (.int (i * j)) G
  | .ref a, .int k => match G a with
    | some (.lst xs) => (-(2 ^ 63) ≤ k ∧ k < 2 ^ 63) ∧ xs.length * k.toNat ≤ sizeLine ∧ ∀ p, G p = none → Q (.ref p) (pu G p (.lst (List.replicate k.toNat xs).flatten))
    | _ => False
  | _, _ => False
def pMod : P2 := fun x y G Q => match x, y with
  | .int i, .int j => 0 < j ∧ Q (.int (i % j)) G
  | _, _ => False
def pDiv : P2 := fun x y G Q => match x, y with
  | .int i, .int j => CDiv i j ∧ Q (.int (i / j)) G
  | _, _ => False
def pPow : P2 := fun x y G Q => match x, y with
  | .int i, .int j => CPow i j ∧ Q (.int (i ^ j.toNat)) G
  | _, _ => False
def pBin : Operator → P2
  | .Add => pAdd
  | .Sub => pSub
  | .Mult => pMul
  | .Mod => pMod
  | .FloorDiv => pDiv
  | .Pow => pPow
  | _ => fun _ _ _ _ => False
def scalP : PV → PV → Bool
  | .non, .non => true
  | .non, .int _ => true
  | .int _, .non => true
  | .non, .bl _ => true
  | .bl _, .non => true
  | .non, .str _ => true
  | .str _, .non => true
  | .int _, .int _ => true
  | .bl _, .bl _ => true
  | .str _, .str _ => true
  | .int _, .str _ => true
  | .str _, .int _ => true
  | .bl _, .str _ => true
  | .str _, .bl _ => true
  | _, _ => false
def flatP : PV → Bool
  | .non => true
  | .bl _ => true
  | .int _ => true
  | .str _ => true
  | _ => false
/-- == of flat values -/
def feq : PV → PV → Bool
  | .non, .non => true
  | .bl a, .bl b => a == b
  | .bl a, .int b => (if a then 1 else 0) == b
  | .int a, .bl b => a == (if b then 1 else 0)
  | .int a, .int b => a == b
  | .str a, .str b => a == b
  | _, _ => false
def pEq (G : PH) (x y : PV) (Q : Bool → Prop) : Prop := if scalP x y = true then Q (peq x y) else
  SeqAt.shaped (datH G 60 x) = true ∧ SeqAt.shaped (datH G 60 y) = true ∧ Q (PyData.eqv (datH G 60 x) (datH G 60 y))
def pInS (G : PH) (x c : PV) (ys : List PV) (Q : Bool → Prop) : Prop := if (flatP x && ys.all flatP) = true then Q (ys.any fun y => feq y x) else
  SeqAt.shaped (datH G 60 x) = true ∧ SeqAt.shaped (datH G 60 c) = true ∧ Q (ys.any fun y => PyData.eqv (datH G 59 y) (datH G 60 x))
def pIn (G : PH) (x c : PV) (Q : Bool → Prop) : Prop := match c with
  | .tup ys => pInS G x c ys Q
  | .wl ys => pInS G x c ys Q
  | .str z => match x with
    | .str a => Q (!(Builtin.Str.occurrences z a 0 z.length 1).isEmpty)
    | _ => False
  | .wd ks vs => ks.length = vs.length ∧ match x with
    | .str z => Q (ks.contains z)
    | _ => False
  | .ref a => match G a with
    | some (.lst ys) => pInS G x c ys Q
    | _ => False
  | _ => False
/-- texts, numbers in order -/
def pLt (f : Int → Int → Bool) (g : List Nat → List Nat → Bool) (x y : PV) (Q : Bool → Prop) : Prop := match x, y with
  | .int i, .int j => Q (f i j)
  | .str a, .str b => Q (g a.cps.toList b.cps.toList)
  | _, _ => False
def pIsN (f : PV → Bool) (x y : PV) (Q : Bool → Prop) : Prop := match y with
  | .non => Q (f x)
  | _ => False
def pCmpB : CmpOp → PH → PV → PV → (Bool → Prop) → Prop
  | .Eq => pEq
  | .NotEq => fun G x y Q => pEq G x y fun b => Q (!b)
  | .In => pIn
  | .NotIn => fun G x y Q => pIn G x y fun b => Q (!b)
  | .Lt => fun _ => pLt (fun i j => decide (i < j)) fun a b => decide (a < b)
  | .LtE => fun _ => pLt (fun i j => decide (i ≤ j)) fun a b => !decide (b < a)
  | .Gt => fun _ => pLt (fun i j => decide (j < i)) fun a b => decide (b < a)
  | .GtE => fun _ => pLt (fun i j => decide (j ≤ i)) fun a b => !decide (a < b)
  | .Is => fun _ => pIsN isNon
  | .IsNot => fun _ => pIsN fun x => !isNon x
def pCmp (op : CmpOp) : P2 := fun x y G Q => pCmpB op G x y fun b => Q (.bl b) G
/-- an item -/
def pIdx : P2 := fun x y G Q => match x with
  | .tup xs => match y with
    | .int i => match atI xs i with
      | some v => Q v G
      | none => False
    | _ => False
  | .wl xs => match y with
    | .int i => match atI xs i with
      | some v => Q v G
      | none => False
    | _ => False
  | .str z => match y with
    | .int i => z.length ≤ sizeLine ∧ match atI z.cps.toList i with
      | some c => Q (.str ⟨#[c]⟩) G
      | none => False
    | _ => False
  | .wd ks vs => ks.length = vs.length ∧ match y with
    | .str z => match (ks.zip vs).lookup z with
      | some v => Q v G
      | none => False
    | _ => False
  | .ref a => match G a with
    | some (.lst xs) => match y with
      | .int i => match atI xs i with
        | some v => Q v G
        | none => False
      | _ => False
    | _ => False
  | _ => False
/-- a slice without a step -/
def pSl : PV → Option Int → Option Int → PH → VP → Prop := fun x lo hi G Q => match x with
  | .tup xs => Q (.tup ((xs.drop (HT.sIx xs.length 0 lo)).take (HT.sIx xs.length xs.length hi - HT.sIx xs.length 0 lo))) G
  | .str z => z.length ≤ sizeLine ∧ Q (.str (cutS z lo hi)) G
  | .ref a => match G a with
    | some (.lst xs) => ∀ p, G p = none → Q (.ref p) (pu G p (.lst ((xs.drop (HT.sIx xs.length 0 lo)).take (HT.sIx xs.length xs.length hi - HT.sIx xs.length 0 lo))))
    | _ => False
  | _ => False
def tyOf (G : PH) : PV → Option (String ⊕ Addr)
  | .non => some (.inl "NoneType")
  | .bl _ => some (.inl "bool")
  | .int _ => some (.inl "int")
  | .str _ => some (.inl "str")
  | .tup _ => some (.inl "tuple")
  | .wl _ => some (.inl "list")
  | .wd _ _ => some (.inl "dict")
  | .ref a => match G a with
    | some (.lst _) => some (.inl "list")
    | some (.dict _) => some (.inl "dict")
    | some (.ins C _) => some (.inr C)
    | none => none
  | .ty _ => none
/-- isinstance with a built-in class -/
def pIsi (t : String) : P1 := fun x G Q => match tyOf G x with
  | some (.inl u) => match kitB u t with
    | some b => Q (.bl b) G
    | none => False
  | _ => False
def rangeP (lo : Int) (n : Nat) : List PV := (List.range n).map fun (i : Nat) => PV.int (lo + i)
def signsP (z : Str) : List PV := z.cps.toList.map fun c => PV.str ⟨#[c]⟩
abbrev Keep := List (Addr × PO)
def Kept (kp : Keep) (G : PH) : Prop := ∀ p ∈ kp, G p.1 = some p.2
/-- len -/
def pLen : PV → PH → Option Nat
  | .tup xs, _ => some xs.length
  | .wl xs, _ => some xs.length
  | .str z, _ => if z.length ≤ sizeLine then some z.length else none
  | .ref a, G => match G a with
    | some (.lst xs) => some xs.length
    | _ => none
  | _, _ => none
end Fv

set_option Elab.async false
set_option linter.all false
set_option maxRecDepth 100000
namespace Fv
open PySem L2

/-- built-ins that are called by name -/
inductive Bn where
  | len | abs | max | min | str | repr | tuple | list | all | any
  deriving DecidableEq
def Bn.name : Bn → Str
  | .len => "len" | .abs => "abs" | .max => "max" | .min => "min" | .str => "str" | .repr => "repr" | .tuple => "tuple" | .list => "list" | .all => "all" | .any => "any"
def allB : List PV → Option (List Bool)
  | [] => some []
  | .bl b :: r => (allB r).map (b :: ·)
  | _ :: _ => none
def bLen (xs : List PV) (G : PH) (Q : VP) : Prop := match xs with
  | [x] => match pLen x G with
    | some n => Q (.int n) G
    | none => False
  | _ => False
def bAbs (xs : List PV) (G : PH) (Q : VP) : Prop := match xs with
  | [.int i] => Q (.int (if i < 0 then -i else i)) G
  | _ => False
def bMax (xs : List PV) (G : PH) (Q : VP) : Prop := match xs with
  | [.int i, .int j] => Q (.int (if j > i then j else i)) G
  | _ => False
def bMin (xs : List PV) (G : PH) (Q : VP) : Prop := match xs with
  | [.int i, .int j] => Q (.int (if j < i then j else i)) G
  | _ => False
def bStr (xs : List PV) (G : PH) (Q : VP) : Prop := match xs with
  | [.int i] => i.natAbs.log2 < 1920 ∧ Q (.str (toString i)) G
  | _ => False
def bRepr (xs : List PV) (G : PH) (Q : VP) : Prop := match xs with
  | [x] => SeqAt.shaped (datH G 60 x) = true ∧ (datH G 60 x).showable = true ∧ (datH G 60 x).shown.length ≤ sizeLine ∧ Q (.str (datH G 60 x).shown) G
  | _ => False
def bTuple (xs : List PV) (G : PH) (Q : VP) : Prop := match xs with
  | [.tup ys] => Q (.tup ys) G
  | [.ref a] => match G a with
    | some (.lst ys) => Q (.tup ys) G
    | _ => False
  | _ => False
def bList (xs : List PV) (G : PH) (Q : VP) : Prop := match xs with
  | [.tup ys] => ∀ p, G p = none → Q (.ref p) (pu G p (.lst ys))
  | [.ref a] => match G a with
    | some (.lst ys) => ∀ p, G p = none → Q (.ref p) (pu G p (.lst ys))
    | _ => False
  | _ => False
def bAll (xs : List PV) (G : PH) (Q : VP) : Prop := match xs with
  | [.ref a] => match G a with
    | some (.lst ys) => match allB ys with
      | some bs => Q (.bl (bs.all id)) G
      | none => False
    | _ => False
  | _ => False
def bAny (xs : List PV) (G : PH) (Q : VP) : Prop := match xs with
  | [.ref a] => match G a with
    | some (.lst ys) => match allB ys with
      | some bs => Q (.bl (bs.any id)) G
      | none => False
    | _ => False
  | _ => False
def pBn : Bn → List PV → PH → VP → Prop
  | .len => bLen
  | .abs => bAbs
  | .max => bMax
  | .min => bMin
  | .str => bStr
  | .repr => bRepr
  | .tuple => bTuple
  | .list => bList
  | .all => bAll
  | .any => bAny

/-- what calls do: the callee by its name, the written arguments, the keywords' -/
abbrev PC := Value → List (Str × PV) → PH → Prop
structure Orc where
  fn : Str → List PV → List (Str × PV) → PH → VP → PC → Prop
  gl : Str → Option PV

mutual
inductive E where
  | var (i : Nat)
  | cst (v : PV)
  | glob (x : Str)
  | bin (op : Operator) (a b : E)
  | neg (a : E)
  | cmp (op : CmpOp) (a b : E)
  | chain (o1 o2 : CmpOp) (a b c : E)
  | no (a : E)
  | and (a b : E) | or (a b : E)
  | ite (c : T) (a b : E)
  | tup (xs : As) | lst (xs : As)
  | idx (a i : E) | sl (a : E) (lo hi : Eo)
  | call (f : Str) (xs : As) (ks : List Str) (ys : As)
  | blt (f : Bn) (xs : As)
  | isi (a : E) (t : String)
  | lc (elt : E) (tg : Tg) (it : It) (ifs : Ts) (own : List (Str × Nat))
/-- tests -/
inductive T where
  | e (a : E)
  | cmp (op : CmpOp) (a b : E)
  | chain (o1 o2 : CmpOp) (a b c : E)
  | and (a b : T) | or (a b : T) | not (a : T)
inductive Ts where
  | nil | cons (t : T) (r : Ts)
inductive As where
  | nil | one (e : E) (r : As) | star (e : E) (r : As)
inductive Eo where
  | none | some (e : E)
inductive Tg where
  | name (i : Nat)
  | tup (ts : Tgs)
  | sub (a i : E)
inductive Tgs where
  | nil | cons (t : Tg) (r : Tgs)
inductive It where
  | gen (e : E)
  | rng (a : E) | rng2 (a b : E)
end
mutual
inductive S where
  | doc
  | expr (e : E)
  | asg (t : Tg) (e : E)
  | asgL (i : Nat) (e : E)
  | par (is : List Nat) (xs : As)
  | ret (e : E) | retN
  | ifs (c : T) (a b : Ss)
  | for_ (t : Tg) (it : It) (b : Ss)
  | brk | cnt | pass
inductive Ss where
  | nil | cons (s : S) (r : Ss)
end

abbrev TPG := PV → PSt → PH → (PSt → PH → Prop) → PX → Prop
abbrev TPI := PSt → PH → (List PV → Keep → PH → Prop) → PX → Prop
def wName (i : Nat) : TPG := fun v σ G Q _ => Q (σ.set i (some v)) G
/-- o[i] = v, by values -/
def pSet : PV → PV → PV → PH → (PH → Prop) → Prop := fun o i v G Q => match o with
  | .ref a => match G a with
    | some (.lst xs) => match i with
      | .int n => match ixN xs.length n with
        | some j => Q (pu G a (.lst (xs.set j v)))
        | none => False
      | _ => False
    | _ => False
  | _ => False
abbrev noX : PX := fun _ _ _ _ => False
/-- the slots of a comprehension's own names forgotten -/
def wipeP (σ : PSt) : List Nat → PSt
  | [] => σ
  | v :: vs => (wipeP σ vs).set v none
/-- a list comprehension's turns -/
def lcL (kp : Keep) (g : TPG) (tt : TPT) (te : TPE) (σ0 : PSt) : List PV → List PV → PH → (List PV → PH → Prop) → Prop
  | [], acc, G, Q => Kept kp G ∧ Q acc G
  | x :: xs, acc, G, Q => Kept kp G ∧ g x σ0 G (fun σ2 G2 => tt σ2 G2 (fun b G3 => if b = true then te σ2 G3 (fun y G4 => acc.length < sizeLine ∧ lcL kp g tt te σ0 xs (acc ++ [y]) G4 Q) noX
      else lcL kp g tt te σ0 xs acc G3 Q) noX) noX
/-- a for loop's turns -/
def forL (kp : Keep) (g : TPG) (tb : TPS) (D : PD) : List PV → PSt → PH → Prop
  | [], σ, G => Kept kp G ∧ D.nx σ G
  | x :: xs, σ, G => Kept kp G ∧ g x σ G (fun σ2 G2 => tb { D with nx := fun σ3 G3 => ∃ G4, Sub G4 G3 ∧ forL kp g tb D xs σ3 G4, ct := fun σ3 G3 => ∃ G4, Sub G4 G3 ∧ forL kp g tb D xs σ3 G4, bk := D.nx } σ2 G2) D.ex
def wGNil : List PV → PSt → PH → (PSt → PH → Prop) → PX → Prop := fun vs σ G Q _ => vs = [] ∧ Q σ G
def wGCons (t : TPG) (u : List PV → PSt → PH → (PSt → PH → Prop) → PX → Prop) : List PV → PSt → PH → (PSt → PH → Prop) → PX → Prop := fun vs σ G Q W => match vs with
  | v :: r => t v σ G (fun σ2 G2 => u r σ2 G2 Q W) W
  | [] => False

def lenG : Tgs → Nat
  | .nil => 0
  | .cons _ r => lenG r + 1
/-- a call, by what the callee does -/
def wCall (sp : List PV → List (Str × PV) → PH → VP → PC → Prop) (ks : List Str) (t tk : TPA) : TPE := fun σ G Q W => t σ G (fun vs G1 => tk σ G1 (fun zs G2 => sp vs (ks.zip zs) G2 Q fun c fs G3 => W c fs σ G3) W) W
section
variable (o : Orc)
mutual
def wE : E → TPE
  | .var i => wVar i
  | .cst v => wCst v
  | .glob x => fun _ G Q _ => match o.gl x with
    | some v => Q v G
    | none => False
  | .bin op a b => wOp (pBin op) (wE a) (wE b)
  | .neg a => wUn (fun x G Q => match x with | .int i => Q (.int (-i)) G | _ => False) (wE a)
  | .cmp op a b => wOp (pCmp op) (wE a) (wE b)
  | .chain o1 o2 a b c => fun σ G Q W => wE a σ G (fun x G1 => wE b σ G1 (fun y G2 => pCmpB o1 G2 x y fun k => if k = true then wE c σ G2 (fun z G3 => pCmp o2 y z G3 Q) W else Q (.bl false) G2) W) W
  | .no a => fun σ G Q W => wE a σ G (fun x G1 => pTru x G1 fun k => Q (.bl (!k)) G1) W
  | .and a b => fun σ G Q W => wE a σ G (fun x G1 => pTru x G1 fun k => if k = true then wE b σ G1 Q W else Q x G1) W
  | .or a b => fun σ G Q W => wE a σ G (fun x G1 => pTru x G1 fun k => if k = true then Q x G1 else wE b σ G1 Q W) W
  | .ite c a b => wIte (wT c) (wE a) (wE b)
  | .tup xs => wTup (wA xs)
  | .lst xs => wLst (wA xs)
  | .idx a i => wOp pIdx (wE a) (wE i)
  | .sl a lo hi => fun σ G Q W => wE a σ G (fun x G1 => wO lo σ G1 (fun l G2 => wO hi σ G2 (fun h G3 => pSl x l h G3 Q) W) W) W
  | .call f xs ks ys => wCall (o.fn f) ks (wA xs) (wA ys)
  | .blt f xs => fun σ G Q W => wA xs σ G (fun vs G1 => pBn f vs G1 Q) W
  | .isi a t => wUn (pIsi t) (wE a)
  | .lc elt tg it ifs own => fun σ G Q W => wI it σ G (fun xs kp G1 => lcL kp (wG tg) (wTs ifs) (wE elt) (wipeP σ (own.map (·.2))) xs [] G1 fun acc G2 => ∀ D, G2 D = none → Q (.ref D) (pu G2 D (.lst acc))) W
def wT : T → TPT
  | .e a => fun σ G Q W => wE a σ G (fun x G1 => pTru x G1 fun k => Q k G1) W
  | .cmp op a b => fun σ G Q W => wE a σ G (fun x G1 => wE b σ G1 (fun y G2 => pCmpB op G2 x y fun k => Q k G2) W) W
  | .chain o1 o2 a b c => fun σ G Q W => wE a σ G (fun x G1 => wE b σ G1 (fun y G2 => pCmpB o1 G2 x y fun k => if k = true then wE c σ G2 (fun z G3 => pCmpB o2 G3 y z fun k2 => Q k2 G3) W else Q false G2) W) W
  | .and a b => fun σ G Q W => wT a σ G (fun k G1 => if k = true then wT b σ G1 Q W else Q false G1) W
  | .or a b => fun σ G Q W => wT a σ G (fun k G1 => if k = true then Q true G1 else wT b σ G1 Q W) W
  | .not a => fun σ G Q W => wT a σ G (fun k G1 => Q (!k) G1) W
def wTs : Ts → TPT
  | .nil => fun _ G Q _ => Q true G
  | .cons t r => fun σ G Q W => wT t σ G (fun k G1 => if k = true then wTs r σ G1 Q W else Q false G1) W
def wA : As → TPA
  | .nil => wNil
  | .one e r => wCons (wE e) (wA r)
  | .star e r => fun σ G Q W => wE e σ G (fun x G1 => match x with
      | .tup xs => wA r σ G1 (fun ys G2 => Q (xs ++ ys) G2) W
      | .ref a => match G1 a with
        | some (.lst xs) => wA r σ G1 (fun ys G2 => Q (xs ++ ys) G2) W
        | _ => False
      | _ => False) W
def wO : Eo → PSt → PH → (Option Int → PH → Prop) → PX → Prop
  | .none => fun _ G Q _ => Q none G
  | .some e => fun σ G Q W => wE e σ G (fun x G1 => match x with
      | .int i => Q (some i) G1
      | _ => False) W
def wG : Tg → TPG
  | .name i => wName i
  | .tup ts => fun v σ G Q W => match v with
    | .tup xs => xs.length = lenG ts ∧ wGs ts xs σ G Q W
    | _ => False
  | .sub a i => fun v σ G Q W => wE a σ G (fun x G1 => wE i σ G1 (fun y G2 => pSet x y v G2 fun G3 => Q σ G3) W) W
def wGs : Tgs → List PV → PSt → PH → (PSt → PH → Prop) → PX → Prop
  | .nil => wGNil
  | .cons t r => wGCons (wG t) (wGs r)
def wI : It → TPI
  | .gen e => fun σ G R W => wE e σ G (fun x G1 => match x with
      | .tup xs => R xs [] G1
      | .wl xs => R xs [] G1
      | .ref a => match G1 a with
        | some (.lst xs) => R xs [(a, .lst xs)] G1
        | _ => False
      | _ => False) W
  | .rng a => fun σ G R W => wE a σ G (fun x G1 => match x with
      | .int j => -(2 ^ 62) ≤ j ∧ j < 2 ^ 62 ∧ R (rangeP 0 j.toNat) [] G1
      | _ => False) W
  | .rng2 a b => fun σ G R W => wE a σ G (fun x G1 => wE b σ G1 (fun y G2 => match x, y with
      | .int i, .int j => (-(2 ^ 62) ≤ i ∧ i < 2 ^ 62 ∧ -(2 ^ 62) ≤ j ∧ j < 2 ^ 62) ∧ R (rangeP i (j - i).toNat) [] G2
      | _, _ => False) W) W
end
/-- more than one name at once -/
def setAll (σ : PSt) : List Nat → List PV → PSt
  | i :: is, v :: vs => setAll (σ.set i (some v)) is vs
  | _, _ => σ
mutual
def wS : S → TPS
  | .doc => fun D σ G => D.nx σ G
  | .expr e => fun D σ G => wE o e σ G (fun _ G1 => D.nx σ G1) D.ex
  | .asg t e => fun D σ G => wE o e σ G (fun x G1 => wG o t x σ G1 D.nx D.ex) D.ex
  | .asgL i e => fun D σ G => wE o e σ G (fun x G1 => D.nx (σ.set i (some x)) G1) D.ex
  | .par is xs => fun D σ G => wA o xs σ G (fun vs G1 => vs.length = is.length ∧ D.nx (setAll σ is vs) G1) D.ex
  | .ret e => fun D σ G => wE o e σ G D.rt D.ex
  | .retN => fun D _ G => D.rt .non G
  | .ifs c a b => fun D σ G => wT o c σ G (fun k G1 => if k = true then wSs a D σ G1 else wSs b D σ G1) D.ex
  | .for_ t it b => fun D σ G => wI o it σ G (fun xs kp G1 => forL kp (wG o t) (wSs b) D xs σ G1) D.ex
  | .brk => fun D σ G => D.bk σ G
  | .cnt => fun D σ G => D.ct σ G
  | .pass => fun D σ G => D.nx σ G
def wSs : Ss → TPS
  | .nil => fun D σ G => D.nx σ G
  | .cons s r => fun D σ G => wS s { D with nx := fun σ1 G1 => wSs r D σ1 G1 } σ G
end
end
end Fv

set_option Elab.async false
set_option linter.all false
set_option maxRecDepth 100000
set_option maxHeartbeats 1000000
namespace Fv
open PySem L2
section
variable {X : Cx}
/-- the end of an operator: the same heap -/
theorem Back.same {K : PySem.W.Frag} {w : World} {S : Addr → Prop} {G : PH} {H : Hp} {Q' : VP} {Q : VK} (bk : Back K w S H Q' Q) (a : At K w S G H) {x : PV} {v : V} (r : RepV K w H x v) (q : Q' x G) : Q v H := bk x v G H Step.refl a r q
/-- .. a new list -/
theorem Back.newL {K : PySem.W.Frag} {w : World} {S : Addr → Prop} {G : PH} {H : Hp} {Q' : VP} {Q : VK} (bk : Back K w S H Q' Q) (a : At K w S G H) {xs : List PV} {vs : List V} (r : RepL K w H xs vs) (q : ∀ p, G p = none → Q' (.ref p) (pu G p (.lst xs))) :
    ∀ p, H p = none → Q (.ref p) (upd H p (.lst vs)) := fun p hp => by
  have st := a.step_new (o := .lst vs) hp
  exact bk (.ref p) _ _ _ st (a.new (u := .lst xs) hp ⟨vs, upd_same, r.mono st.toStay⟩) rfl (q p (a.free hp))
theorem Back.newT {K : PySem.W.Frag} {w : World} {S : Addr → Prop} {G : PH} {H : Hp} {Q' : VP} {Q : VK} (bk : Back K w S H Q' Q) (a : At K w S G H) {xs : List PV} {vs : List V} (r : RepL K w H xs vs) (q : Q' (.tup xs) G) :
    ∀ p, H p = none → Q (.ref p) (upd H p (.tup vs)) := fun p hp => by
  have st := a.step_new (o := .tup vs) hp
  exact bk (.tup xs) _ _ _ st (a.silent hp) ⟨p, vs, rfl, SqT.of upd_same, r.mono st.toStay⟩ q
theorem rep_int {K : PySem.W.Frag} {w : World} {H : Hp} {i : Int} : RepV K w H (.int i) (.int i) := rfl
theorem rep_str {K : PySem.W.Frag} {w : World} {H : Hp} {i : Str} : RepV K w H (.str i) (.str i) := rfl
theorem rep_bl {K : PySem.W.Frag} {w : World} {H : Hp} {i : Bool} : RepV K w H (.bl i) (.bl i) := rfl
theorem rep_tup {K : PySem.W.Frag} {w : World} {H : Hp} {p : Addr} {xs : List PV} {vs : List V} (h : SqT K H p vs) (r : RepL K w H xs vs) : RepV K w H (.tup xs) (.ref p) := ⟨p, vs, rfl, h, r⟩
theorem ref_lst {K : PySem.W.Frag} {w : World} {S : Addr → Prop} {G : PH} {H : Hp} (a : At K w S G H) {p : Addr} {xs : List PV} (e : G p = some (.lst xs)) : ∃ vs, H p = some (.lst vs) ∧ RepL K w H xs vs := a.ob p _ e

theorem opAdd : OpR X (binaryOp .Add) (lowR X.K X.w pAdd) := by
  rintro pins s σ H x y v u Q I rx ry ⟨S, G, x', y', Q', a, r1, r2, q, bk⟩
  unfold pAdd at q
  split at q
  · cases r1; cases r2
    exact op_add pins s σ H _ _ v u Q I rx ry ⟨_, _, rfl, rfl, bk.same a rep_int q⟩
  · cases r1; cases r2
    exact op_add_str pins s σ H _ _ v u Q I rx ry ⟨_, _, rfl, rfl, q.1, bk.same a rep_str q.2⟩
  · obtain ⟨p, vs, rfl, t1, l1⟩ := r1
    obtain ⟨p2, vs2, rfl, t2, l2⟩ := r2
    refine op_catA pins s σ H _ _ v u Q I rx ry ⟨p, p2, vs, vs2, rfl, rfl, t1, t2, by rw [← l1.length, ← l2.length]; exact q.1, fun e => ?_, fun _ e => ?_, fun _ _ => bk.newT a (l1.app l2) q.2⟩
    · subst e
      have := l1.length
      rename_i xs ys
      have e0 : xs = [] := List.length_eq_zero_iff.mp this
      subst e0
      exact bk.same a (rep_tup t2 l2) q.2
    · subst e
      have := l2.length
      rename_i xs ys _
      have e0 : ys = [] := List.length_eq_zero_iff.mp this
      subst e0
      rw [List.append_nil] at q
      exact bk.same a (rep_tup t1 l1) q.2
  · cases r1; cases r2
    split at q
    · rename_i e1 e2
      obtain ⟨vs, h1, l1⟩ := ref_lst a e1
      obtain ⟨vs2, h2, l2⟩ := ref_lst a e2
      exact op_cat pins s σ H _ _ v u Q I rx ry ⟨_, _, vs, vs2, rfl, rfl, h1, h2, by rw [← l1.length, ← l2.length]; exact q.1, bk.newL a (l1.app l2) q.2⟩
    · exact q.elim
  · exact q.elim
theorem RepL.flat {K : PySem.W.Frag} {w : World} {H : Hp} {xs : List PV} {vs : List V} (r : RepL K w H xs vs) : ∀ n : Nat, RepL K w H (List.replicate n xs).flatten (List.replicate n vs).flatten
  | 0 => rfl
  | n + 1 => by
    rw [List.replicate_succ, List.replicate_succ, List.flatten_cons, List.flatten_cons]
    exact r.app (RepL.flat r n)
theorem opBin : ∀ op : Operator, OpR X (binaryOp op) (lowR X.K X.w (pBin op)) := by
  intro op
  by_cases hadd : op = .Add
  · subst hadd; exact opAdd
  rintro pins s σ H x y v u Q I rx ry ⟨S, G, x', y', Q', a, r1, r2, q, bk⟩
  cases op <;> first | exact absurd rfl hadd | exact (show False from q).elim | skip
  · change pSub x' y' G Q' at q
    unfold pSub at q
    split at q
    · cases r1; cases r2
      exact op_sub pins s σ H _ _ v u Q I rx ry ⟨_, _, rfl, rfl, bk.same a rep_int q⟩
    · exact q.elim
  · change pMul x' y' G Q' at q
    unfold pMul at q
    split at q
    · cases r1; cases r2
      exact op_mul pins s σ H _ _ v u Q I rx ry ⟨_, _, rfl, rfl, q.1, bk.same a rep_int q.2⟩
    · cases r1; cases r2
      split at q
      · rename_i e1
        obtain ⟨vs, h1, l1⟩ := ref_lst a e1
        exact op_rep pins s σ H _ _ v u Q I rx ry ⟨_, _, vs, rfl, rfl, h1, q.1.1, q.1.2, by rw [← l1.length]; exact q.2.1, bk.newL a (l1.flat _) q.2.2⟩
      · exact q.elim
    · exact q.elim
  · change pMod x' y' G Q' at q
    unfold pMod at q
    split at q
    · cases r1; cases r2
      exact op_mod pins s σ H _ _ v u Q I rx ry ⟨_, _, rfl, rfl, q.1, bk.same a rep_int q.2⟩
    · exact q.elim
  · change pPow x' y' G Q' at q
    unfold pPow at q
    split at q
    · cases r1; cases r2
      exact op_pow pins s σ H _ _ v u Q I rx ry ⟨_, _, rfl, rfl, q.1, bk.same a rep_int q.2⟩
    · exact q.elim
  · change pDiv x' y' G Q' at q
    unfold pDiv at q
    split at q
    · cases r1; cases r2
      exact op_fdiv pins s σ H _ _ v u Q I rx ry ⟨_, _, rfl, rfl, q.1, bk.same a rep_int q.2⟩
    · exact q.elim
end
end Fv

set_option Elab.async false
set_option linter.all false
set_option maxRecDepth 100000
set_option maxHeartbeats 1000000
namespace Fv
open PySem L2
section
variable {K : PySem.W.Frag} {w : World} {S : Addr → Prop} {G : PH} {H : Hp}
mutual
theorem dp_dat : ∀ (x : PV) (v : V), RepV K w H x v → x.dat.canLay0 = true → Dp K H v x.dat
  | .non, _, r, _ => by cases r; exact .non
  | .bl b, _, r, _ => by cases r; exact .bl b
  | .int i, _, r, _ => by cases r; exact .int i
  | .str x, _, r, _ => by cases r; exact .str x
  | .tup xs, _, ⟨p, vs, e, t, l⟩, c => by subst e; exact .tup t (dp_dats xs vs l (by simpa [PV.dat, PyData.canLay0] using c))
  | .wl xs, _, ⟨p, vs, e, t, l⟩, c => by subst e; exact .lst t.sq (dp_dats xs vs l (by simpa [PV.dat, PyData.canLay0] using c))
  | .ref _, _, _, c => by simp [PV.dat, PyData.canLay0] at c
  | .ty _, _, _, c => by simp [PV.dat, PyData.canLay0] at c
  | .wd _ _, _, _, c => by simp [PV.dat, PyData.canLay0] at c
theorem dp_dats : ∀ (xs : List PV) (vs : List V), RepL K w H xs vs → PyData.canLayAll0 (dats xs) = true → DpAll K H vs (dats xs)
  | [], _, r, _ => by cases r; exact .nil
  | x :: xs, _, ⟨v, r, e, a, b⟩, c => by
    subst e
    have h : x.dat.canLay0 = true ∧ PyData.canLayAll0 (dats xs) = true := by simpa [dats, PyData.canLayAll0] using c
    exact .cons (dp_dat x v a h.1) (dp_dats xs r b h.2)
end
theorem dp_all {n : Nat} (ih : ∀ (x : PV) (v : V), RepV K w H x v → (datH G n x).canLay0 = true → Dp K H v (datH G n x)) : ∀ (xs : List PV) (vs : List V), RepL K w H xs vs → PyData.canLayAll0 (xs.map (datH G n)) = true → DpAll K H vs (xs.map (datH G n))
  | [], _, r, _ => by cases r; exact .nil
  | x :: xs, _, ⟨v, r, e, a, b⟩, c => by
    subst e
    have h : (datH G n x).canLay0 = true ∧ PyData.canLayAll0 (xs.map (datH G n)) = true := by simpa [PyData.canLayAll0] using c
    exact .cons (ih x v a h.1) (dp_all ih xs r b h.2)
theorem dp_datH (a : At K w S G H) : ∀ (n : Nat) (x : PV) (v : V), RepV K w H x v → (datH G n x).canLay0 = true → Dp K H v (datH G n x)
  | 0, x, v, r, c => dp_dat x v r c
  | n + 1, .tup xs, _, ⟨p, vs, e, t, l⟩, c => by subst e; exact .tup t (dp_all (dp_datH a n) xs vs l (by simpa [datH, PyData.canLay0] using c))
  | n + 1, .wl xs, _, ⟨p, vs, e, t, l⟩, c => by subst e; exact .lst t.sq (dp_all (dp_datH a n) xs vs l (by simpa [datH, PyData.canLay0] using c))
  | n + 1, .ref p, v, r, c => by
    cases r
    unfold datH at c ⊢
    split at c
    · rename_i xs e
      obtain ⟨vs, h, l⟩ := ref_lst a e
      exact .lst (SqL.of h) (dp_all (dp_datH a n) xs vs l (by simpa [PyData.canLay0] using c))
    · simp [PyData.canLay0] at c
  | n + 1, .non, _, r, _ => by cases r; exact .non
  | n + 1, .bl b, _, r, _ => by cases r; exact .bl b
  | n + 1, .int i, _, r, _ => by cases r; exact .int i
  | n + 1, .str x, _, r, _ => by cases r; exact .str x
  | n + 1, .ty _, _, _, c => by simp [datH, PV.dat, PyData.canLay0] at c
  | n + 1, .wd _ _, _, _, c => by simp [datH, PV.dat, PyData.canLay0] at c
theorem dp_sh (a : At K w S G H) {x : PV} {v : V} (r : RepV K w H x v) {n : Nat} (c : SeqAt.shaped (datH G n x) = true) : Dp K H v (datH G n x) := dp_datH a n x v r (SeqAt.canLay_of_shaped c)
end
section
variable {X : Cx}
theorem scal_of {K : PySem.W.Frag} {w : World} {H : Hp} {x y : PV} {u v : V} (r1 : RepV K w H x u) (r2 : RepV K w H y v) (h : scalP x y = true) : scal u v = true ∧ decide (u = v) = peq x y := by
  unfold scalP at h
  split at h <;> first | cases h | skip
  all_goals (cases r1; cases r2; refine ⟨rfl, ?_⟩; unfold peq)
  all_goals first | rfl | skip
  · rw [dec_int]
  · rw [dec_bl]
  · rw [dec_str]
theorem opEq (hu : X.A.units + 65 < cLine) : OpR X (compareOp .Eq) (lowR X.K X.w (pCmp .Eq)) := by
  rintro pins s σ H x y v u Q I rx ry ⟨S, G, x', y', Q', a, r1, r2, q, bk⟩
  have q : pEq G x' y' (fun b => Q' (.bl b) G) := q
  unfold pEq at q
  by_cases hs : scalP x' y' = true
  · rw [if_pos hs] at q
    obtain ⟨h1, h2⟩ := scal_of r1 r2 hs
    exact op_eq pins s σ H _ _ v u Q I rx ry ⟨h1, by rw [h2]; exact bk.same a rep_bl q⟩
  · rw [if_neg hs] at q
    obtain ⟨s1, s2, q⟩ := q
    exact op_eqD (by omega) pins s σ H _ _ v u Q I rx ry ⟨_, _, dp_sh a r1 s1, dp_sh a r2 s2, s1, s2, bk.same a rep_bl q⟩
theorem opNe (hu : X.A.units + 65 < cLine) : OpR X (compareOp .NotEq) (lowR X.K X.w (pCmp .NotEq)) := by
  rintro pins s σ H x y v u Q I rx ry ⟨S, G, x', y', Q', a, r1, r2, q, bk⟩
  have q : pEq G x' y' (fun b => Q' (.bl (!b)) G) := q
  unfold pEq at q
  by_cases hs : scalP x' y' = true
  · rw [if_pos hs] at q
    obtain ⟨h1, h2⟩ := scal_of r1 r2 hs
    exact op_ne pins s σ H _ _ v u Q I rx ry ⟨h1, by rw [h2]; exact bk.same a rep_bl q⟩
  · rw [if_neg hs] at q
    obtain ⟨s1, s2, q⟩ := q
    exact op_neD (by omega) pins s σ H _ _ v u Q I rx ry ⟨_, _, dp_sh a r1 s1, dp_sh a r2 s2, s1, s2, bk.same a rep_bl q⟩
theorem opOrd {op : CmpOp} {f : Int → Int → Bool} {g : List Nat → List Nat → Bool} (hp : ∀ x y G Q, pCmp op x y G Q = pLt f g x y fun b => Q (.bl b) G) (hi : OpR X (compareOp op) (rI0 fun i j => .bl (f i j)))
    (hs : OpR X (compareOp op) (fun x y H Q => ∃ i j, x = .str i ∧ y = .str j ∧ Q (.bl (g i.cps.toList j.cps.toList)) H)) : OpR X (compareOp op) (lowR X.K X.w (pCmp op)) := by
  rintro pins s σ H x y v u Q I rx ry ⟨S, G, x', y', Q', a, r1, r2, q, bk⟩
  rw [hp] at q
  unfold pLt at q
  split at q
  · cases r1; cases r2
    exact hi pins s σ H _ _ v u Q I rx ry ⟨_, _, rfl, rfl, bk.same a rep_bl q⟩
  · cases r1; cases r2
    exact hs pins s σ H _ _ v u Q I rx ry ⟨_, _, rfl, rfl, bk.same a rep_bl q⟩
  · exact q.elim
theorem opIs : OpR X (compareOp .Is) (lowR X.K X.w (pCmp .Is)) := by
  rintro pins s σ H x y v u Q I rx ry ⟨S, G, x', y', Q', a, r1, r2, q, bk⟩
  cases y' <;> first | exact (show False from q).elim | skip
  cases r2
  refine op_isN pins s σ H _ _ v u Q I rx ry ⟨rfl, ?_⟩
  have e : decide (x = V.non) = isNon x' := by
    cases x' <;> first | (cases r1; rfl) | (obtain ⟨p, vs, rfl, _⟩ := r1; rfl)
  rw [e]
  exact bk.same a rep_bl q
theorem opIsNot : OpR X (compareOp .IsNot) (lowR X.K X.w (pCmp .IsNot)) := by
  rintro pins s σ H x y v u Q I rx ry ⟨S, G, x', y', Q', a, r1, r2, q, bk⟩
  cases y' <;> first | exact (show False from q).elim | skip
  cases r2
  refine op_notN pins s σ H _ _ v u Q I rx ry ⟨rfl, ?_⟩
  have e : (!decide (x = V.non)) = !isNon x' := by
    cases x' <;> first | (cases r1; rfl) | (obtain ⟨p, vs, rfl, _⟩ := r1; rfl)
  rw [e]
  exact bk.same a rep_bl q
theorem flat_of {K : PySem.W.Frag} {w : World} {H : Hp} {x : PV} {u : V} (r : RepV K w H x u) (h : flatP x = true) : flatV u = true := by
  cases x <;> first | (cases r; rfl) | cases h
theorem feq_of {K : PySem.W.Frag} {w : World} {H : Hp} {x y : PV} {u v : V} (r1 : RepV K w H x u) (r2 : RepV K w H y v) (h1 : flatP x = true) (h2 : flatP y = true) : eqV u v = feq x y := by
  cases x <;> first | cases h1 | skip
  all_goals (cases r1; cases y <;> first | cases h2 | skip)
  all_goals (cases r2; rfl)
theorem flats_of {K : PySem.W.Frag} {w : World} {H : Hp} {x : PV} {u : V} (r : RepV K w H x u) (hx : flatP x = true) : ∀ (ys : List PV) (vs : List V), RepL K w H ys vs → ys.all flatP = true → vs.all flatV = true ∧ inV u vs = ys.any fun y => feq y x
  | [], _, l, _ => by cases l; exact ⟨rfl, rfl⟩
  | y :: ys, _, ⟨v, t, e, l1, l2⟩, h => by
    subst e
    rw [List.all_cons, Bool.and_eq_true] at h
    obtain ⟨a, b⟩ := flats_of r hx ys t l2 h.2
    refine ⟨by rw [List.all_cons, flat_of l1 h.1, a] <;> rfl, ?_⟩
    unfold inV at b ⊢
    rw [List.any_cons, List.any_cons, b, feq_of l1 r h.1 hx]
theorem shaped_list {ds : List PyData} (h : SeqAt.shaped (.tuple ds) = true) : SeqAt.shaped (.list ds) = true := h
theorem any_map {n : Nat} {G : PH} {d : PyData} (ys : List PV) : ((ys.map (datH G n)).any fun z => PyData.eqv z d) = ys.any fun y => PyData.eqv (datH G n y) d := by
  rw [List.any_map]; rfl
/-- in a list, a tuple -/
theorem in_seq {neg : Bool} {op : CmpOp} (hD : OpR X (compareOp op) (if neg = true then rNotInD X.K else rInD X.K)) (hF : OpR X (compareOp op) (rIn X.K neg)) (hDT : OpR X (compareOp op) (fun x y H Q => ∃ d ds, Dp X.K H x d ∧ Dp X.K H y (.tuple ds) ∧ SeqAt.shaped d = true ∧ SeqAt.shaped (.tuple ds) = true ∧ Q (.bl (if neg = true then !ds.any (fun z => PyData.eqv z d) else ds.any fun z => PyData.eqv z d)) H))
    {pins : List (Addr × Obj)} {s : Shared} {σ : St} {H : Hp} {x y : V} {v u : Value} {Q : VK} (I : Inv X pins σ H s) (rx : RelV x v) (ry : RelV y u) {S : Addr → Prop} {G : PH} {x' y' : PV} {ys : List PV} {Q' : VP} (a : At X.K X.w S G H) (r1 : RepV X.K X.w H x' x) (r2 : RepV X.K X.w H y' y)
    (hy : (∃ p vs, y = .ref p ∧ SqL X.K H p vs ∧ RepL X.K X.w H ys vs ∧ datH G 60 y' = .list (ys.map (datH G 59))) ∨ ∃ p vs, y = .ref p ∧ SqT X.K H p vs ∧ RepL X.K X.w H ys vs ∧ datH G 60 y' = .tuple (ys.map (datH G 59)))
    (q : pInS G x' y' ys fun b => Q' (.bl (if neg = true then !b else b)) G) (bk : Back X.K X.w S H Q' Q) : wpAny (model X.prog X.w) X.A (compareOp op v u) (EP X pins σ Q) X.xe s := by
  unfold pInS at q
  by_cases hs : (flatP x' && ys.all flatP) = true
  · rw [if_pos hs] at q
    rw [Bool.and_eq_true] at hs
    rcases hy with ⟨p, vs, rfl, h, l, _⟩ | ⟨p, vs, rfl, h, l, _⟩
    · obtain ⟨f1, f2⟩ := flats_of r1 hs.1 ys vs l hs.2
      exact hF pins s σ H _ _ v u Q I rx ry ⟨p, vs, rfl, .inl h, flat_of r1 hs.1, f1, by rw [f2]; cases neg <;> exact bk.same a rep_bl q⟩
    · obtain ⟨f1, f2⟩ := flats_of r1 hs.1 ys vs l hs.2
      exact hF pins s σ H _ _ v u Q I rx ry ⟨p, vs, rfl, .inr h, flat_of r1 hs.1, f1, by rw [f2]; cases neg <;> exact bk.same a rep_bl q⟩
  · rw [if_neg hs] at q
    obtain ⟨s1, s2, q⟩ := q
    have d2 := dp_sh a r2 s2
    rcases hy with ⟨p, vs, rfl, h, l, e⟩ | ⟨p, vs, rfl, h, l, e⟩
    · rw [e] at s2 d2
      refine hD pins s σ H _ _ v u Q I rx ry ?_
      cases neg
      · exact ⟨_, _, dp_sh a r1 s1, d2, s1, s2, by rw [any_map]; exact bk.same a rep_bl q⟩
      · exact ⟨_, _, dp_sh a r1 s1, d2, s1, s2, by rw [any_map]; exact bk.same a rep_bl q⟩
    · rw [e] at s2 d2
      exact hDT pins s σ H _ _ v u Q I rx ry ⟨_, _, dp_sh a r1 s1, d2, s1, s2, by rw [any_map]; cases neg <;> exact bk.same a rep_bl q⟩
theorem datH_tup {G : PH} {ys : List PV} : datH G 60 (.tup ys) = .tuple (ys.map (datH G 59)) := by rw [datH]
theorem datH_wl {G : PH} {ys : List PV} : datH G 60 (.wl ys) = .list (ys.map (datH G 59)) := by rw [datH]
theorem datH_ref {G : PH} {a : Addr} {ys : List PV} (e : G a = some (.lst ys)) : datH G 60 (.ref a) = .list (ys.map (datH G 59)) := by rw [datH, e]
theorem str_any : ∀ (ks : List Str) (vs : List V) (z : Str), ks.length = vs.length → ks.contains z = ((ks.zip vs).lookup z).isSome
  | [], [], _, _ => rfl
  | k :: ks, v :: vs, z, h => by
    rw [List.contains_cons, List.zip_cons_cons, List.lookup_cons]
    cases e : z == k with
    | true => simp
    | false => simpa using str_any ks vs z (by simpa using h)
theorem wd_has {K : PySem.W.Frag} {w : World} {d : Addr} {ks : List Str} {vs : List V} (h : WDt K w d ks vs) (z : Str) : ∃ r, PySem.W.nsIn K d z = some r ∧ r.isSome = ks.contains z := by
  obtain ⟨hl, _, h⟩ := h
  have := h z
  rw [str_any ks vs z hl]
  split at this
  · rename_i v e
    obtain ⟨u, e2, _⟩ := this
    exact ⟨_, e2, by rw [e] <;> rfl⟩
  · rename_i e
    exact ⟨_, this, by rw [e] <;> rfl⟩
theorem opIn (hu : X.A.units + 65 < cLine) : OpR X (compareOp .In) (lowR X.K X.w (pCmp .In)) := by
  rintro pins s σ H x y v u Q I rx ry ⟨S, G, x', y', Q', a, r1, r2, q, bk⟩
  have q : pIn G x' y' (fun b => Q' (.bl b) G) := q
  have dt : OpR X (compareOp .In) (fun x y H Q => ∃ d ds, Dp X.K H x d ∧ Dp X.K H y (.tuple ds) ∧ SeqAt.shaped d = true ∧ SeqAt.shaped (.tuple ds) = true ∧ Q (.bl (if (false : Bool) = true then !ds.any (fun z => PyData.eqv z d) else ds.any fun z => PyData.eqv z d)) H) := by
    rintro pins s σ H x y v u Q I rx ry ⟨d, ds, hd, he, sd, se, q⟩
    obtain ⟨as, r1⟩ := Dp.reads I d x v hd rx
    obtain ⟨bs, r2⟩ := Dp.reads I (.tuple ds) y u he ry
    exact SeqAt.in_tuple_reads r2 r1 (SeqAt.canLay_of_shaped se) (SeqAt.canLay_of_shaped sd) (PyProof.Rows.room_in_shaped sd hu) ⟨.bl _, H, I, rfl, q⟩
  have go := fun {ys : List PV} hy (q : pInS G x' y' ys fun b => Q' (.bl b) G) => in_seq (X := X) (neg := false) (op := .In) (op_inD hu) op_in_seq dt I rx ry (ys := ys) a r1 r2 hy q bk
  unfold pIn at q
  split at q
  · obtain ⟨p, vs, rfl, t, l⟩ := r2
    exact go (.inr ⟨p, vs, rfl, t, l, datH_tup⟩) q
  · obtain ⟨p, vs, rfl, t, l⟩ := r2
    exact go (.inl ⟨p, vs, rfl, t.sq, l, datH_wl⟩) q
  · split at q
    · cases r1; cases r2
      exact op_in_str pins s σ H _ _ v u Q I rx ry ⟨_, _, rfl, rfl, bk.same a rep_bl q⟩
    · exact q.elim
  · obtain ⟨p, vs, rfl, t, l⟩ := r2
    obtain ⟨hl, q⟩ := q
    split at q
    · cases r1
      rename_i z _
      obtain ⟨r, e1, e2⟩ := wd_has t z
      obtain ⟨_, ⟨es, n, D⟩, _⟩ := t
      exact op_in_kd D pins s σ H _ _ v u Q I rx ry ⟨_, _, rfl, rfl, e1, by rw [e2]; exact bk.same a rep_bl q⟩
    · exact q.elim
  · cases r2
    split at q
    · rename_i e
      obtain ⟨vs, h, l⟩ := ref_lst a e
      exact go (.inl ⟨_, vs, rfl, SqL.of h, l, datH_ref e⟩) q
    · exact q.elim
  · exact q.elim
theorem opNotIn (hu : X.A.units + 65 < cLine) : OpR X (compareOp .NotIn) (lowR X.K X.w (pCmp .NotIn)) := by
  rintro pins s σ H x y v u Q I rx ry ⟨S, G, x', y', Q', a, r1, r2, q, bk⟩
  have q : pIn G x' y' (fun b => Q' (.bl (!b)) G) := q
  have dt : OpR X (compareOp .NotIn) (fun x y H Q => ∃ d ds, Dp X.K H x d ∧ Dp X.K H y (.tuple ds) ∧ SeqAt.shaped d = true ∧ SeqAt.shaped (.tuple ds) = true ∧ Q (.bl (if (true : Bool) = true then !ds.any (fun z => PyData.eqv z d) else ds.any fun z => PyData.eqv z d)) H) := by
    rintro pins s σ H x y v u Q I rx ry ⟨d, ds, hd, he, sd, se, q⟩
    obtain ⟨as, r1⟩ := Dp.reads I d x v hd rx
    obtain ⟨bs, r2⟩ := Dp.reads I (.tuple ds) y u he ry
    exact SeqAt.notIn_tuple_reads r2 r1 (SeqAt.canLay_of_shaped se) (SeqAt.canLay_of_shaped sd) (PyProof.Rows.room_in_shaped sd hu) ⟨.bl _, H, I, rfl, q⟩
  have go := fun {ys : List PV} hy (q : pInS G x' y' ys fun b => Q' (.bl (!b)) G) => in_seq (X := X) (neg := true) (op := .NotIn) (op_notInD hu) op_notIn_seq dt I rx ry (ys := ys) a r1 r2 hy q bk
  unfold pIn at q
  split at q
  · obtain ⟨p, vs, rfl, t, l⟩ := r2
    exact go (.inr ⟨p, vs, rfl, t, l, datH_tup⟩) q
  · obtain ⟨p, vs, rfl, t, l⟩ := r2
    exact go (.inl ⟨p, vs, rfl, t.sq, l, datH_wl⟩) q
  · split at q
    · cases r1; cases r2
      exact op_notin_str pins s σ H _ _ v u Q I rx ry ⟨_, _, rfl, rfl, bk.same a rep_bl q⟩
    · exact q.elim
  · obtain ⟨p, vs, rfl, t, l⟩ := r2
    obtain ⟨hl, q⟩ := q
    split at q
    · cases r1
      rename_i z _
      obtain ⟨r, e1, e2⟩ := wd_has t z
      obtain ⟨_, ⟨es, n, D⟩, _⟩ := t
      exact op_notIn_kd D pins s σ H _ _ v u Q I rx ry ⟨_, _, rfl, rfl, e1, by rw [e2]; exact bk.same a rep_bl q⟩
    · exact q.elim
  · cases r2
    split at q
    · rename_i e
      obtain ⟨vs, h, l⟩ := ref_lst a e
      exact go (.inl ⟨_, vs, rfl, SqL.of h, l, datH_ref e⟩) q
    · exact q.elim
  · exact q.elim

/-- every comparison -/
theorem opCmp (hu : X.A.units + 65 < cLine) : ∀ op : CmpOp, OpR X (compareOp op) (lowR X.K X.w (pCmp op))
  | .Eq => opEq hu
  | .NotEq => opNe hu
  | .Lt => opOrd (f := fun i j => decide (i < j)) (g := fun a b => decide (a < b)) (fun _ _ _ _ => rfl) op_lt op_lt_str
  | .LtE => opOrd (f := fun i j => decide (i ≤ j)) (g := fun a b => !decide (b < a)) (fun _ _ _ _ => rfl) op_le op_le_str
  | .Gt => opOrd (f := fun i j => decide (j < i)) (g := fun a b => decide (b < a)) (fun _ _ _ _ => rfl) op_gt op_gt_str
  | .GtE => opOrd (f := fun i j => decide (j ≤ i)) (g := fun a b => !decide (a < b)) (fun _ _ _ _ => rfl) op_ge op_ge_str
  | .Is => opIs
  | .IsNot => opIsNot
  | .In => opIn hu
  | .NotIn => opNotIn hu
theorem at_rep {K : PySem.W.Frag} {w : World} {H : Hp} {xs : List PV} {vs : List V} (l : RepL K w H xs vs) {i : Int} {x : PV} (e : atI xs i = some x) : ∃ v, atI vs i = some v ∧ RepV K w H x v := by
  unfold atI at e ⊢
  rw [← l.length]
  cases h : ixN xs.length i with
  | none => rw [h] at e; cases e
  | some j =>
    rw [h] at e
    exact l.get (by simpa using e)
def rIxW (X : Cx) : R2 := fun x y H Q => ∃ (d : Addr) (ks : List Str) (vs : List V) (z : Str) (v : V), x = .ref d ∧ WDt X.K X.w d ks vs ∧ y = .str z ∧ (ks.zip vs).lookup z = some v ∧ Q v H
theorem ix_wd : IxR X (rIxW X) := by
  intro value slice pins s σ H x y v u Q I rx ry h hs
  obtain ⟨d, ks, vs, z, v0, rfl, ⟨_, ⟨es, n, D⟩, hz⟩, rfl, hl, q⟩ := h
  have e := hz z
  rw [hl] at e
  obtain ⟨u0, e1, rv⟩ := e
  exact ix_kdict value slice pins s σ H _ _ v u Q I rx ry ⟨d, z, v0, rfl, rfl, ⟨es, n, u0, D.at_, D.lit, e1, rv⟩, q⟩ hs
theorem lk_rep {K : PySem.W.Frag} {w : World} {H : Hp} {z : Str} {x : PV} : ∀ {ks : List Str} {xs : List PV} {vs : List V}, RepL K w H xs vs → (ks.zip xs).lookup z = some x → ∃ v, (ks.zip vs).lookup z = some v ∧ RepV K w H x v
  | [], _, _, _, e => by simp at e
  | k :: ks, [], _, l, e => by simp at e
  | k :: ks, y :: xs, _, ⟨v, r, rfl, a, b⟩, e => by
    rw [List.zip_cons_cons, List.lookup_cons] at e ⊢
    cases h : z == k with
    | true => rw [h] at e; cases e; exact ⟨v, rfl, a⟩
    | false => rw [h] at e; exact lk_rep b e
theorem ixP : IxR X (lowR X.K X.w pIdx) := by
  rintro value slice pins s σ H x y v u Q I rx ry ⟨S, G, x', y', Q', a, r1, r2, q, bk⟩ hs
  unfold pIdx at q
  split at q
  · obtain ⟨p, vs, rfl, t, l⟩ := r1
    split at q
    · cases r2
      split at q
      · rename_i e
        obtain ⟨v0, e1, rv⟩ := at_rep l e
        exact ix_tup value slice pins s σ H _ _ v u Q I rx ry ⟨p, vs, _, v0, rfl, rfl, t, e1, bk.same a rv q⟩ hs
      · exact q.elim
    · exact q.elim
  · obtain ⟨p, vs, rfl, t, l⟩ := r1
    split at q
    · cases r2
      split at q
      · rename_i e
        obtain ⟨v0, e1, rv⟩ := at_rep l e
        exact ix_list value slice pins s σ H _ _ v u Q I rx ry ⟨p, vs, _, v0, rfl, rfl, t.sq, e1, bk.same a rv q⟩ hs
      · exact q.elim
    · exact q.elim
  · cases r1
    split at q
    · cases r2
      obtain ⟨hz, q⟩ := q
      split at q
      · rename_i e
        exact ix_str value slice pins s σ H _ _ v u Q I rx ry ⟨_, _, _, rfl, rfl, hz, e, bk.same a rep_str q⟩ hs
      · exact q.elim
    · exact q.elim
  · obtain ⟨p, vs, rfl, t, l⟩ := r1
    obtain ⟨hl, q⟩ := q
    split at q
    · cases r2
      split at q
      · rename_i e
        obtain ⟨v0, e1, rv⟩ := lk_rep l e
        exact ix_wd value slice pins s σ H _ _ v u Q I rx ry ⟨p, _, vs, _, v0, rfl, t, rfl, e1, bk.same a rv q⟩ hs
      · exact q.elim
    · exact q.elim
  · cases r1
    split at q
    · rename_i e0
      obtain ⟨vs, h, l⟩ := ref_lst a e0
      split at q
      · cases r2
        split at q
        · rename_i e
          obtain ⟨v0, e1, rv⟩ := at_rep l e
          exact ix_list value slice pins s σ H _ _ v u Q I rx ry ⟨_, vs, _, v0, rfl, rfl, SqL.of h, e1, bk.same a rv q⟩ hs
        · exact q.elim
      · exact q.elim
    · exact q.elim
  · exact q.elim
def lowSl (K : PySem.W.Frag) (w : World) : V → Option Int → Option Int → Hp → VK → Prop := fun x lo hi H Q => ∃ S G x' Q', At K w S G H ∧ RepV K w H x' x ∧ pSl x' lo hi G Q' ∧ Back K w S H Q' Q
theorem cut_rep {K : PySem.W.Frag} {w : World} {H : Hp} {xs : List PV} {vs : List V} (l : RepL K w H xs vs) (lo hi : Option Int) :
    RepL K w H ((xs.drop (HT.sIx xs.length 0 lo)).take (HT.sIx xs.length xs.length hi - HT.sIx xs.length 0 lo)) (cutV vs lo hi) := by
  unfold cutV
  rw [l.length]
  exact (l.drop _).take _
theorem slP : SlR X (lowSl X.K X.w) := by
  rintro pins s σ H x v vl vu lo hi sl Q I rx hs pl pu ⟨S, G, x', Q', a, r1, q, bk⟩
  unfold pSl at q
  split at q
  · obtain ⟨p, vs, rfl, t, l⟩ := r1
    refine sl_tupA pins s σ H _ v vl vu lo hi sl Q I rx hs pl pu ⟨p, vs, rfl, t, fun hw => ?_, fun _ => bk.newT a (cut_rep l lo hi) q⟩
    refine bk.same a (rep_tup t l) ?_
    rw [← l.length] at hw
    rw [hw.1, hw.2] at q
    simpa using q
  · cases r1
    exact sl_str pins s σ H _ v vl vu lo hi sl Q I rx hs pl pu ⟨_, rfl, q.1, bk.same a rep_str q.2⟩
  · cases r1
    split at q
    · rename_i e
      obtain ⟨vs, h, l⟩ := ref_lst a e
      exact sl_list pins s σ H _ v vl vu lo hi sl Q I rx hs pl pu ⟨_, vs, rfl, SqL.of h, bk.newL a (cut_rep l lo hi) q⟩
    · exact q.elim
  · exact q.elim
theorem empty_rep {K : PySem.W.Frag} {w : World} {H : Hp} {xs : List PV} {vs : List V} (l : RepL K w H xs vs) : xs.isEmpty = vs.isEmpty := by
  cases xs with
  | nil => cases l; rfl
  | cons x xs => obtain ⟨v, r, rfl, _⟩ := l; rfl
/-- truth, by values -/
theorem truP {S : Addr → Prop} {G : PH} {H : Hp} {x' : PV} {x : V} {Q : Bool → Prop} (a : At X.K X.w S G H) (r : RepV X.K X.w H x' x) (q : pTru x' G Q) : ∃ k, TruV X.K x H k ∧ Q k := by
  unfold pTru at q
  split at q
  · cases r; exact ⟨_, rfl, q⟩
  · cases r; exact ⟨_, rfl, q⟩
  · cases r; exact ⟨_, rfl, q⟩
  · cases r
    refine ⟨_, ⟨q.1, rfl⟩, ?_⟩
    have e : ∀ n : Nat, ((n : Int) != 0) = (n != 0) := fun n => by cases n with | zero => rfl | succ m => (simp only [bne]; rw [show ((((m + 1 : Nat) : Int) == 0) = false) from by rw [beq_eq_false_iff_ne]; omega, show ((m + 1 == 0) = false) from rfl])
    rw [e]; exact q.2
  · obtain ⟨p, vs, rfl, t, l⟩ := r
    exact ⟨_, .inr (.inl ⟨vs, t, rfl⟩), by rw [← empty_rep l]; exact q⟩
  · obtain ⟨p, vs, rfl, t, l⟩ := r
    exact ⟨_, .inl ⟨vs, t.sq, rfl⟩, by rw [← empty_rep l]; exact q⟩
  · cases r
    split at q
    · rename_i e
      obtain ⟨vs, h, l⟩ := ref_lst a e
      exact ⟨_, .inl ⟨vs, SqL.of h, rfl⟩, by rw [← empty_rep l]; exact q⟩
    · exact q.elim
  · exact q.elim
end
end Fv

set_option Elab.async false
set_option linter.all false
set_option maxRecDepth 100000
set_option maxHeartbeats 1000000
namespace Fv
open PySem L2
/-- what a built-in's name stands for -/
def Bn.val : Bn → Value
  | .len => .builtin "len" | .abs => .builtin "abs" | .max => .builtin "max" | .min => .builtin "min" | .repr => .builtin "repr" | .all => .builtin "all" | .any => .builtin "any"
  | .str => .type "str" | .tuple => .type "tuple" | .list => .type "list"
theorem Bn.boot (b : Bn) : bootBuiltins b.name = some b.val := by cases b <;> decide +kernel
theorem noDict_of_canLay : ∀ d : PyData, d.canLay0 = true → d.hasDict = false := fun d h => by
  have : (∀ d : PyData, d.canLay0 = true → d.hasDict = false) ∧ ∀ ds : List PyData, PyData.canLayAll0 ds = true → PyData.hasDictAll ds = false := by
    refine ⟨fun d h => nd d h, fun ds h => nds ds h⟩
  exact this.1 d h
where
  nd : ∀ d : PyData, d.canLay0 = true → d.hasDict = false
    | .none, _ => rfl
    | .bool _, _ => rfl
    | .int _, _ => rfl
    | .str _, _ => rfl
    | .list xs, h => by simp only [PyData.hasDict]; exact nds xs (by simpa [PyData.canLay0] using h)
    | .tuple xs, h => by simp only [PyData.hasDict]; exact nds xs (by simpa [PyData.canLay0] using h)
    | .dict _, h => by simp [PyData.canLay0] at h
  nds : ∀ ds : List PyData, PyData.canLayAll0 ds = true → PyData.hasDictAll ds = false
    | [], _ => rfl
    | d :: ds, h => by
      have h' : d.canLay0 = true ∧ PyData.canLayAll0 ds = true := by simpa [PyData.canLayAll0] using h
      simp [PyData.hasDictAll, nd d h'.1, nds ds h'.2]
section
variable {X : Cx}
theorem one_of {K : PySem.W.Frag} {w : World} {H : Hp} {x : PV} {vs : List V} {us : List Value} (l : RepL K w H [x] vs) (r : Vals vs us) : ∃ v u, vs = [v] ∧ us = [u] ∧ RepV K w H x v ∧ RelV v u := by
  obtain ⟨v, t, rfl, a, b⟩ := l
  cases b
  obtain ⟨u, rfl, ru⟩ := vals1 r
  exact ⟨v, u, rfl, rfl, a, ru⟩
theorem bnLen : CallR X Bn.len.val (lowC X.K X.w (pBn .len)) := by
  rintro pins s σ H xs us Q I r ⟨S, G, xs', Q', a, l, q, bk⟩
  have q : bLen xs' G Q' := q
  unfold bLen at q
  split at q
  · obtain ⟨v, u, rfl, rfl, r1, ru⟩ := one_of l r
    split at q
    · rename_i n e
      refine call_len pins s σ H _ _ Q I r ⟨v, n, rfl, ?_, bk.same a rep_int q⟩
      unfold pLen at e
      split at e
      · obtain ⟨p, vs, rfl, t, l1⟩ := r1
        cases e
        exact .inr ⟨vs, t, l1.length⟩
      · obtain ⟨p, vs, rfl, t, l1⟩ := r1
        cases e
        exact .inl ⟨vs, t.sq, l1.length⟩
      · cases r1
        split at e
        · rename_i hz; cases e; exact ⟨hz, rfl⟩
        · cases e
      · cases r1
        split at e
        · rename_i e2
          cases e
          obtain ⟨vs, h, l1⟩ := ref_lst a e2
          exact .inl ⟨vs, SqL.of h, l1.length⟩
        · cases e
      · cases e
    · exact q.elim
  · exact q.elim
theorem bnAbs : CallR X Bn.abs.val (lowC X.K X.w (pBn .abs)) := by
  rintro pins s σ H xs us Q I r ⟨S, G, xs', Q', a, l, q, bk⟩
  have q : bAbs xs' G Q' := q
  unfold bAbs at q
  split at q
  · obtain ⟨v, u, rfl, rfl, r1, ru⟩ := one_of l r
    cases r1
    exact call_abs pins s σ H _ _ Q I r ⟨_, rfl, bk.same a rep_int q⟩
  · exact q.elim
theorem two_int {K : PySem.W.Frag} {w : World} {H : Hp} {i j : Int} {vs : List V} (l : RepL K w H [.int i, .int j] vs) : vs = [.int i, .int j] := by
  obtain ⟨v, t, rfl, a, v2, t2, rfl, a2, b⟩ := l
  cases a; cases a2; cases b; rfl
theorem bnMax (hc : X.calm = true) : CallR X Bn.max.val (lowC X.K X.w (pBn .max)) := by
  rintro pins s σ H xs us Q I r ⟨S, G, xs', Q', a, l, q, bk⟩
  have q : bMax xs' G Q' := q
  unfold bMax at q
  split at q
  · have := two_int l
    subst this
    exact call_max2 hc pins s σ H _ _ Q I r ⟨_, _, rfl, bk.same a rep_int q⟩
  · exact q.elim
theorem bnMin (hc : X.calm = true) : CallR X Bn.min.val (lowC X.K X.w (pBn .min)) := by
  rintro pins s σ H xs us Q I r ⟨S, G, xs', Q', a, l, q, bk⟩
  have q : bMin xs' G Q' := q
  unfold bMin at q
  split at q
  · have := two_int l
    subst this
    exact call_min2 hc pins s σ H _ _ Q I r ⟨_, _, rfl, bk.same a rep_int q⟩
  · exact q.elim
theorem bnStr : CallR X Bn.str.val (lowC X.K X.w (pBn .str)) := by
  rintro pins s σ H xs us Q I r ⟨S, G, xs', Q', a, l, q, bk⟩
  have q : bStr xs' G Q' := q
  unfold bStr at q
  split at q
  · obtain ⟨v, u, rfl, rfl, r1, ru⟩ := one_of l r
    cases r1
    exact call_str_int pins s σ H _ _ Q I r ⟨_, rfl, q.1, bk.same a rep_str q.2⟩
  · exact q.elim
theorem bnRepr (hg : X.A.guards = some []) (hu : X.A.units + 200 < cLine) : CallR X Bn.repr.val (lowC X.K X.w (pBn .repr)) := by
  rintro pins s σ H xs us Q I r ⟨S, G, xs', Q', a, l, q, bk⟩
  have q : bRepr xs' G Q' := q
  unfold bRepr at q
  split at q
  · rename_i x _
    obtain ⟨v, u, rfl, rfl, r1, ru⟩ := one_of l r
    obtain ⟨s1, s2, s3, q⟩ := q
    have d := dp_sh a r1 s1
    have dp := SeqAt.depth_of_shaped s1
    have nd := noDict_of_canLay _ (SeqAt.canLay_of_shaped s1)
    have q0 : Q (.str (datH G 60 x).shown) H := bk.same a rep_str q
    obtain ⟨as, rd⟩ := Dp.reads I _ _ _ d ru
    clear q
    revert rd q0 s3 s2 s1 dp nd d
    generalize datH G 60 x = dd
    intro s1 s2 s3 d dp nd q0 rd
    cases rd with
    | none => exact PySem.P.repr_of_none ⟨.str _, H, I.tok _, ⟨_, rfl⟩, by simpa [PyData.shown] using q0⟩
    | bool b => exact PySem.P.repr_of_bool ⟨.str _, H, I.tok _, ⟨_, rfl⟩, by simpa [PyData.shown] using q0⟩
    | int i t => exact PySem.P.repr_of_int (by simpa [PyData.showable] using s2) ⟨.str _, H, I.tok _, ⟨_, rfl⟩, by simpa [PyData.shown] using q0⟩
    | str z t => exact PySem.P.repr_of_str ⟨.str _, H, I.tok _, ⟨_, rfl⟩, by simpa [PyData.shown] using q0⟩ (by simpa [PyData.shown] using s3)
    | list ho hc hd hr => exact PySem.repr_of_reads' (Reads.list ho hc hd hr) s2 (PyData.noDict_hsm nd) hg (by omega) (fun _ _ e => e) (fun h' u tk hk => ⟨.str _, H, I.kept hk, ⟨_, rfl⟩, q0⟩) s3
    | tuple ho hc hd hr => exact PySem.repr_of_reads' (Reads.tuple ho hc hd hr) s2 (PyData.noDict_hsm nd) hg (by omega) (fun _ _ e => e) (fun h' u tk hk => ⟨.str _, H, I.kept hk, ⟨_, rfl⟩, q0⟩) s3
    | dict => simp [PyData.hasDict] at nd
  · exact q.elim
theorem bnTuple : CallR X Bn.tuple.val (lowC X.K X.w (pBn .tuple)) := by
  rintro pins s σ H xs us Q I r ⟨S, G, xs', Q', a, l, q, bk⟩
  have q : bTuple xs' G Q' := q
  unfold bTuple at q
  split at q
  · obtain ⟨v, u, rfl, rfl, r1, ru⟩ := one_of l r
    obtain ⟨p, vs, rfl, t, l1⟩ := r1
    exact call_tuple_of pins s σ H _ _ Q I r ⟨p, vs, rfl, .inr ⟨t, bk.same a (rep_tup t l1) q⟩⟩
  · obtain ⟨v, u, rfl, rfl, r1, ru⟩ := one_of l r
    cases r1
    split at q
    · rename_i e
      obtain ⟨vs, h, l1⟩ := ref_lst a e
      exact call_tuple_of pins s σ H _ _ Q I r ⟨_, vs, rfl, .inl ⟨SqL.of h, bk.newT a l1 q⟩⟩
    · exact q.elim
  · exact q.elim
theorem bnList : CallR X Bn.list.val (lowC X.K X.w (pBn .list)) := by
  rintro pins s σ H xs us Q I r ⟨S, G, xs', Q', a, l, q, bk⟩
  have q : bList xs' G Q' := q
  unfold bList at q
  split at q
  · obtain ⟨v, u, rfl, rfl, r1, ru⟩ := one_of l r
    obtain ⟨p, vs, rfl, t, l1⟩ := r1
    exact call_list_of pins s σ H _ _ Q I r ⟨p, vs, rfl, .inr t, bk.newL a l1 q⟩
  · obtain ⟨v, u, rfl, rfl, r1, ru⟩ := one_of l r
    cases r1
    split at q
    · rename_i e
      obtain ⟨vs, h, l1⟩ := ref_lst a e
      exact call_list_of pins s σ H _ _ Q I r ⟨_, vs, rfl, .inl (SqL.of h), bk.newL a l1 q⟩
    · exact q.elim
  · exact q.elim
theorem allB_rep {K : PySem.W.Frag} {w : World} {H : Hp} : ∀ {ys : List PV} {vs : List V} {bs : List Bool}, RepL K w H ys vs → allB ys = some bs → vs = bs.map V.bl
  | [], _, _, l, e => by cases l; cases e; rfl
  | y :: ys, _, bs, ⟨v, t, rfl, a, b⟩, e => by
    cases y <;> first | (unfold allB at e; cases e; done) | skip
    unfold allB at e
    cases a
    cases h : allB ys with
    | none => rw [h] at e; cases e
    | some bs' => rw [h] at e; cases e; rw [allB_rep b h]; rfl
theorem bnAll (hc : X.calm = true) : CallR X Bn.all.val (lowC X.K X.w (pBn .all)) := by
  rintro pins s σ H xs us Q I r ⟨S, G, xs', Q', a, l, q, bk⟩
  have q : bAll xs' G Q' := q
  unfold bAll at q
  split at q
  · obtain ⟨v, u, rfl, rfl, r1, ru⟩ := one_of l r
    cases r1
    split at q
    · rename_i e
      obtain ⟨vs, h, l1⟩ := ref_lst a e
      split at q
      · rename_i e2
        exact cr_all hc pins s σ H _ _ Q I r ⟨_, _, rfl, by rw [← allB_rep l1 e2]; exact SqL.of h, bk.same a rep_bl q⟩
      · exact q.elim
    · exact q.elim
  · exact q.elim
theorem bnAny (hc : X.calm = true) : CallR X Bn.any.val (lowC X.K X.w (pBn .any)) := by
  rintro pins s σ H xs us Q I r ⟨S, G, xs', Q', a, l, q, bk⟩
  have q : bAny xs' G Q' := q
  unfold bAny at q
  split at q
  · obtain ⟨v, u, rfl, rfl, r1, ru⟩ := one_of l r
    cases r1
    split at q
    · rename_i e
      obtain ⟨vs, h, l1⟩ := ref_lst a e
      split at q
      · rename_i e2
        exact cr_any hc pins s σ H _ _ Q I r ⟨_, _, rfl, by rw [← allB_rep l1 e2]; exact SqL.of h, bk.same a rep_bl q⟩
      · exact q.elim
    · exact q.elim
  · exact q.elim
theorem bnAnyOf (hc : X.calm = true) (hg : X.A.guards = some []) (hu : X.A.units + 200 < cLine) : ∀ b : Bn, CallR X b.val (lowC X.K X.w (pBn b))
  | .len => bnLen
  | .abs => bnAbs
  | .max => bnMax hc
  | .min => bnMin hc
  | .str => bnStr
  | .repr => bnRepr hg hu
  | .tuple => bnTuple
  | .list => bnList
  | .all => bnAll hc
  | .any => bnAny hc
end
end Fv

set_option Elab.async false
set_option linter.all false
set_option maxRecDepth 100000
set_option maxHeartbeats 1000000
namespace Fv
open PySem L2
theorem pEq_mono {G : PH} {x y : PV} {P P' : Bool → Prop} (h : pEq G x y P) (k : ∀ b, P b → P' b) : pEq G x y P' := by
  unfold pEq at h ⊢
  split at h
  · rename_i e; rw [if_pos e]; exact k _ h
  · rename_i e; rw [if_neg e]; exact ⟨h.1, h.2.1, k _ h.2.2⟩
theorem pInS_mono {G : PH} {x c : PV} {ys : List PV} {P P' : Bool → Prop} (h : pInS G x c ys P) (k : ∀ b, P b → P' b) : pInS G x c ys P' := by
  unfold pInS at h ⊢
  split at h
  · rename_i e; rw [if_pos e]; exact k _ h
  · rename_i e; rw [if_neg e]; exact ⟨h.1, h.2.1, k _ h.2.2⟩
theorem pIn_mono {G : PH} {x c : PV} {P P' : Bool → Prop} (h : pIn G x c P) (k : ∀ b, P b → P' b) : pIn G x c P' := by
  cases c <;> first | exact pInS_mono h k | exact (show False from h).elim | skip
  · cases x <;> first | exact k _ h | exact (show False from h).elim
  · rename_i a
    unfold pIn at h ⊢
    dsimp only at h ⊢
    split at h
    · exact pInS_mono h k
    · exact h.elim
  · refine ⟨h.1, ?_⟩
    have h2 := h.2
    cases x <;> first | exact k _ h2 | exact (show False from h2).elim
theorem pLt_mono {f : Int → Int → Bool} {g : List Nat → List Nat → Bool} {x y : PV} {P P' : Bool → Prop} (h : pLt f g x y P) (k : ∀ b, P b → P' b) : pLt f g x y P' := by
  unfold pLt at h ⊢
  split at h
  · exact k _ h
  · exact k _ h
  · exact h.elim
theorem pIs_mono {x y : PV} {f : PV → Bool} {P P' : Bool → Prop} (h : pIsN f x y P) (k : ∀ b, P b → P' b) : pIsN f x y P' := by
  cases y <;> first | exact k _ h | exact (show False from h).elim
theorem pCmpB_mono : ∀ {op : CmpOp} {G : PH} {x y : PV} {P P' : Bool → Prop} (h : pCmpB op G x y P) (k : ∀ b, P b → P' b), pCmpB op G x y P'
  | .Eq, G, x, y, P, P', h, k => pEq_mono (P' := P') h k
  | .NotEq, G, x, y, P, P', h, k => pEq_mono (P := fun b => P (!b)) (P' := fun b => P' (!b)) h fun b q => k _ q
  | .In, G, x, y, P, P', h, k => pIn_mono (P' := P') h k
  | .NotIn, G, x, y, P, P', h, k => pIn_mono (P := fun b => P (!b)) (P' := fun b => P' (!b)) h fun b q => k _ q
  | .Lt, G, x, y, P, P', h, k => pLt_mono (f := fun i j => decide (i < j)) (g := fun a b => decide (a < b)) (P := P) (P' := P') h k
  | .LtE, G, x, y, P, P', h, k => pLt_mono (f := fun i j => decide (i ≤ j)) (g := fun a b => !decide (b < a)) (P := P) (P' := P') h k
  | .Gt, G, x, y, P, P', h, k => pLt_mono (f := fun i j => decide (j < i)) (g := fun a b => decide (b < a)) (P := P) (P' := P') h k
  | .GtE, G, x, y, P, P', h, k => pLt_mono (f := fun i j => decide (j ≤ i)) (g := fun a b => !decide (a < b)) (P := P) (P' := P') h k
  | .Is, G, x, y, P, P', h, k => pIs_mono (f := isNon) (P := P) (P' := P') h k
  | .IsNot, G, x, y, P, P', h, k => pIs_mono (f := fun x => !isNon x) (P := P) (P' := P') h k
theorem pTru_mono {x : PV} {G : PH} {P P' : Bool → Prop} (h : pTru x G P) (k : ∀ b, P b → P' b) : pTru x G P' := by
  cases x <;> first | exact k _ h | exact ⟨h.1, k _ h.2⟩ | exact (show False from h).elim | skip
  rename_i a
  unfold pTru at h ⊢
  dsimp only at h ⊢
  split at h
  · exact k _ h
  · exact h.elim

section
variable {X : Cx} {W : WX} {a b c e : Expr} {pos : Pos} {ta tb tc : TPE}
theorem plain_ix : ∀ b : Expr, (match b with | .Slice .. => false | _ => true) = true → PlainIx b := fun b h => by
  cases b <;> first | (intro _ _; rfl) | cases h
theorem plain_test : ∀ e : Expr, (match e with | .UnaryOp .. => false | .BoolOp .. => false | .IfExp .. => false | .Compare .. => false | _ => true) = true → ∀ env whole, isTrue e env whole = (do let v ← whole; standAt e.pos; holding [v] (truthy v)) := fun e h env whole => by
  cases e <;> first | rfl | cases h
theorem no_star : ∀ (e : Expr) (es : List Expr) (env : Env), (match e with | .Starred .. => false | _ => true) = true → starEach (e :: es) env = (false, eval e env) :: starEach es env := fun e es env h => by
  cases e <;> first | rfl | cases h
theorem pe_idxP (ha : PE X a (low X.K X.w W ta)) (hb : PE X b (low X.K X.w W tb)) (hs : PlainIx b) : PE X (.Subscript a b pos) (low X.K X.w W (wOp pIdx ta tb)) := by
  refine imp_e (pe_ix ixP ha hb hs) ?_
  rintro σ H Q ⟨S, σ', G, W', Q', s, t, bk⟩
  refine low_bind s t fun x v G1 H1 st s1 r1 t1 => ?_
  refine low_bind s1 t1 fun y u G2 H2 st2 s2 r2 t2 => ?_
  exact ⟨S, G2, x, y, Q', s2.at_, r1.mono st2.toStay, r2, t2, bk.next (st.trans st2)⟩
def lowO (K : PySem.W.Frag) (w : World) (W : WX) (t : PSt → PH → (Option Int → PH → Prop) → PX → Prop) : TO := fun σ H Q => ∃ S σ' G W' Q', Si K w W S σ' σ G H W' ∧ t σ' G Q' W' ∧ ∀ o G1 H1, Step S H H1 → At K w S G1 H1 → Q' o G1 → Q o H1
theorem po_noneP : L2.PO X none (lowO X.K X.w W fun _ G Q _ => Q none G) := by
  refine ⟨fun pins s σ H Q I h => po_none.run pins s σ H Q I ?_⟩
  obtain ⟨S, σ', G, W', Q', s, t, bk⟩ := h
  exact bk _ _ _ Step.refl s.at_ t
theorem po_someP (h : PE X e (low X.K X.w W ta)) : L2.PO X (some e) (lowO X.K X.w W fun σ G Q W => ta σ G (fun x G1 => match x with | .int i => Q (some i) G1 | _ => False) W) := by
  refine ⟨fun pins s σ H Q I hw => (po_some h).run pins s σ H Q I ?_⟩
  obtain ⟨S, σ', G, W', Q', s, t, bk⟩ := hw
  refine low_bind s t fun x v G1 H1 st s1 r1 t1 => ?_
  cases x <;> first | exact (show False from t1).elim | skip
  cases r1
  exact ⟨_, rfl, bk _ _ _ st s1.at_ t1⟩
theorem pe_slP {lo hi : Option Expr} {p2 : Pos} {tl th : PSt → PH → (Option Int → PH → Prop) → PX → Prop} (ha : PE X a (low X.K X.w W ta)) (hl : L2.PO X lo (lowO X.K X.w W tl)) (hh : L2.PO X hi (lowO X.K X.w W th)) :
    PE X (.Subscript a (.Slice lo hi none p2) pos) (low X.K X.w W fun σ G Q W => ta σ G (fun x G1 => tl σ G1 (fun l G2 => th σ G2 (fun h G3 => pSl x l h G3 Q) W) W) W) := by
  refine imp_e (pe_slice slP ha hl hh) ?_
  rintro σ H Q ⟨S, σ', G, W', Q', s, t, bk⟩
  refine low_bind s t fun x v G1 H1 st s1 r1 t1 => ?_
  refine ⟨S, σ', G1, W', _, s1, t1, fun l G2 H2 st2 a2 t2 => ?_⟩
  refine ⟨S, σ', G2, W', _, s1.next st2 a2, t2, fun h G3 H3 st3 a3 t3 => ?_⟩
  exact ⟨S, G3, x, Q', a3, r1.mono (st2.trans st3).toStay, t3, bk.next (st.trans (st2.trans st3))⟩
theorem pe_oneP {op : BoolOp} {t : TPE} (h : PE X a (low X.K X.w W t)) : PE X (.BoolOp op [a] pos) (low X.K X.w W t) := pe_one h
theorem pe_andP {rest : List Expr} (ha : PE X a (low X.K X.w W ta)) (hb : PE X (.BoolOp .And (b :: rest) pos) (low X.K X.w W tb)) :
    PE X (.BoolOp .And (a :: b :: rest) pos) (low X.K X.w W fun σ G Q W => ta σ G (fun x G1 => pTru x G1 fun k => if k = true then tb σ G1 Q W else Q x G1) W) := by
  refine imp_e (pe_andT ha hb) ?_
  rintro σ H Q ⟨S, σ', G, W', Q', s, t, bk⟩
  refine low_bind s t fun x v G1 H1 st s1 r1 t1 => ?_
  obtain ⟨k, hk, t1⟩ := truP s1.at_ r1 t1
  refine ⟨k, hk, ?_⟩
  cases k with
  | true => exact ⟨S, σ', G1, W', Q', s1, by simpa using t1, bk.next st⟩
  | false => exact bk x v G1 H1 st s1.at_ r1 (by simpa using t1)
theorem pe_orP {rest : List Expr} (ha : PE X a (low X.K X.w W ta)) (hb : PE X (.BoolOp .Or (b :: rest) pos) (low X.K X.w W tb)) :
    PE X (.BoolOp .Or (a :: b :: rest) pos) (low X.K X.w W fun σ G Q W => ta σ G (fun x G1 => pTru x G1 fun k => if k = true then Q x G1 else tb σ G1 Q W) W) := by
  refine imp_e (pe_orT ha hb) ?_
  rintro σ H Q ⟨S, σ', G, W', Q', s, t, bk⟩
  refine low_bind s t fun x v G1 H1 st s1 r1 t1 => ?_
  obtain ⟨k, hk, t1⟩ := truP s1.at_ r1 t1
  refine ⟨k, hk, ?_⟩
  cases k with
  | true => exact bk x v G1 H1 st s1.at_ r1 (by simpa using t1)
  | false => exact ⟨S, σ', G1, W', Q', s1, by simpa using t1, bk.next st⟩
theorem pe_noP (ha : PE X a (low X.K X.w W ta)) : PE X (.UnaryOp .Not a pos) (low X.K X.w W fun σ G Q W => ta σ G (fun x G1 => pTru x G1 fun k => Q (.bl (!k)) G1) W) := by
  refine imp_e (pe_notT ha) ?_
  rintro σ H Q ⟨S, σ', G, W', Q', s, t, bk⟩
  refine low_bind s t fun x v G1 H1 st s1 r1 t1 => ?_
  obtain ⟨k, hk, t1⟩ := truP s1.at_ r1 t1
  exact ⟨k, hk, bk (.bl (!k)) _ G1 H1 st s1.at_ rfl t1⟩
theorem pe_negP (ha : PE X a (low X.K X.w W ta)) : PE X (.UnaryOp .USub a pos) (low X.K X.w W (wUn (fun x G Q => match x with | .int i => Q (.int (-i)) G | _ => False) ta)) := by
  refine imp_e (pe_un un_neg ha) ?_
  rintro σ H Q ⟨S, σ', G, W', Q', s, t, bk⟩
  refine low_bind s t fun x v G1 H1 st s1 r1 t1 => ?_
  cases x <;> first | exact (show False from t1).elim | skip
  cases r1
  exact ⟨_, rfl, bk (.int _) _ G1 H1 st s1.at_ rfl t1⟩
theorem pe_chainP {o1 o2 : CmpOp} (hu : X.A.units + 65 < cLine) (ha : PE X a (low X.K X.w W ta)) (hb : PE X b (low X.K X.w W tb)) (hc : PE X c (low X.K X.w W tc)) (hm : lastMarks [o1, o2] [b, c] = false) :
    PE X (.Compare a [o1, o2] [b, c] pos) (low X.K X.w W fun σ G Q W => ta σ G (fun x G1 => tb σ G1 (fun y G2 => pCmpB o1 G2 x y fun k => if k = true then tc σ G2 (fun z G3 => pCmp o2 y z G3 Q) W else Q (.bl false) G2) W) W) := by
  refine imp_e (pe_chain (opCmp hu o1) (opCmp hu o2) ha hb hc hm) ?_
  rintro σ H Q ⟨S, σ', G, W', Q', s, t, bk⟩
  refine low_bind s t fun x v G1 H1 st s1 r1 t1 => ?_
  refine low_bind s1 t1 fun y u G2 H2 st2 s2 r2 t2 => ?_
  refine ⟨S, G2, x, y, fun z G3 => ∃ k, z = .bl k ∧ G3 = G2 ∧ (if k = true then tc σ' G2 (fun z G3 => pCmp o2 y z G3 Q') W' else Q' (.bl false) G2), s2.at_, r1.mono st2.toStay, r2, pCmpB_mono t2 fun k q => ⟨k, rfl, rfl, q⟩, ?_⟩
  rintro z v3 G3 H3 st3 a3 r3 ⟨k, rfl, rfl, q⟩
  cases r3
  refine ⟨k, rfl, ?_⟩
  have s3 := s2.next st3 a3
  cases k with
  | true =>
    rw [if_pos rfl] at q ⊢
    refine low_bind s3 q fun z w' G4 H4 st4 s4 r4 t4 => ?_
    exact ⟨S, G4, y, z, Q', s4.at_, r2.mono (st3.trans st4).toStay, r4, t4, bk.next (st.trans (st2.trans (st3.trans st4)))⟩
  | false =>
    rw [if_neg Bool.false_ne_true] at q ⊢
    exact bk (.bl false) _ G3 H3 (st.trans (st2.trans st3)) a3 rfl q
theorem pt_eP (ha : PE X a (low X.K X.w W ta)) (he : ∀ whole, isTrue a X.env whole = (do let v ← whole; standAt a.pos; holding [v] (truthy v))) : PT X a (lowT X.K X.w W fun σ G Q W => ta σ G (fun x G1 => pTru x G1 fun k => Q k G1) W) := by
  refine imp_t (pt_truth ha he) ?_
  rintro σ H Q ⟨S, σ', G, W', Q', s, t, bk⟩
  refine low_bind s t fun x v G1 H1 st s1 r1 t1 => ?_
  obtain ⟨k, hk, t1⟩ := truP s1.at_ r1 t1
  exact ⟨k, hk, bk k G1 H1 st s1.at_ t1⟩
theorem pt_cmpP {op : CmpOp} (hu : X.A.units + 65 < cLine) (ha : PE X a (low X.K X.w W ta)) (hb : PE X b (low X.K X.w W tb)) (hm : behindInMarks op b = false) :
    PT X (.Compare a [op] [b] pos) (lowT X.K X.w W fun σ G Q W => ta σ G (fun x G1 => tb σ G1 (fun y G2 => pCmpB op G2 x y fun k => Q k G2) W) W) := by
  refine imp_t (pt_cmpR (opCmp hu op) ha hb hm) ?_
  rintro σ H Q ⟨S, σ', G, W', Q', s, t, bk⟩
  refine low_bind s t fun x v G1 H1 st s1 r1 t1 => ?_
  refine low_bind s1 t1 fun y u G2 H2 st2 s2 r2 t2 => ?_
  refine ⟨S, G2, x, y, fun z G3 => ∃ k, z = .bl k ∧ Q' k G3, s2.at_, r1.mono st2.toStay, r2, pCmpB_mono t2 fun k q => ⟨k, rfl, q⟩, ?_⟩
  rintro z v3 G3 H3 st3 a3 r3 ⟨k, rfl, q⟩
  cases r3
  exact ⟨k, rfl, bk k G3 H3 (st.trans (st2.trans st3)) a3 q⟩
theorem pt_chainP {o1 o2 : CmpOp} (hu : X.A.units + 65 < cLine) (ha : PE X a (low X.K X.w W ta)) (hb : PE X b (low X.K X.w W tb)) (hc : PE X c (low X.K X.w W tc)) (hm : lastMarks [o1, o2] [b, c] = false) :
    PT X (.Compare a [o1, o2] [b, c] pos) (lowT X.K X.w W fun σ G Q W => ta σ G (fun x G1 => tb σ G1 (fun y G2 => pCmpB o1 G2 x y fun k => if k = true then tc σ G2 (fun z G3 => pCmpB o2 G3 y z fun k2 => Q k2 G3) W else Q false G2) W) W) := by
  refine imp_t (pt_chain (opCmp hu o1) (opCmp hu o2) ha hb hc hm) ?_
  rintro σ H Q ⟨S, σ', G, W', Q', s, t, bk⟩
  refine low_bind s t fun x v G1 H1 st s1 r1 t1 => ?_
  refine low_bind s1 t1 fun y u G2 H2 st2 s2 r2 t2 => ?_
  refine ⟨S, G2, x, y, fun z G3 => ∃ k, z = .bl k ∧ G3 = G2 ∧ (if k = true then tc σ' G2 (fun z G3 => pCmpB o2 G3 y z fun k2 => Q' k2 G3) W' else Q' false G2), s2.at_, r1.mono st2.toStay, r2, pCmpB_mono t2 fun k q => ⟨k, rfl, rfl, q⟩, ?_⟩
  rintro z v3 G3 H3 st3 a3 r3 ⟨k, rfl, rfl, q⟩
  cases r3
  refine ⟨k, rfl, ?_⟩
  have s3 := s2.next st3 a3
  cases k with
  | true =>
    rw [if_pos rfl] at q ⊢
    refine low_bind s3 q fun z w' G4 H4 st4 s4 r4 t4 => ?_
    refine ⟨S, G4, y, z, fun z G5 => ∃ k, z = .bl k ∧ Q' k G5, s4.at_, r2.mono (st3.trans st4).toStay, r4, pCmpB_mono t4 fun k q => ⟨k, rfl, q⟩, ?_⟩
    rintro z v5 G5 H5 st5 a5 r5 ⟨k, rfl, q⟩
    cases r5
    exact ⟨k, rfl, bk k G5 H5 (st.trans (st2.trans (st3.trans (st4.trans st5)))) a5 q⟩
  | false =>
    rw [if_neg Bool.false_ne_true] at q ⊢
    exact ⟨false, rfl, bk false G3 H3 (st.trans (st2.trans st3)) a3 q⟩
variable {t1 t2 : TPT} {rest : List Expr}
def cAnd (t u : TPT) : TPT := fun σ G Q W => t σ G (fun k G1 => if k = true then u σ G1 Q W else Q false G1) W
def cOr (t u : TPT) : TPT := fun σ G Q W => t σ G (fun k G1 => if k = true then Q true G1 else u σ G1 Q W) W
theorem low_and : ∀ σ H Q, lowT X.K X.w W (cAnd t1 t2) σ H Q → tAnd (lowT X.K X.w W t1) (lowT X.K X.w W t2) σ H Q := by
  rintro σ H Q ⟨S, σ', G, W', Q', s, t, bk⟩
  refine ⟨S, σ', G, W', _, s, t, fun k G1 H1 st a1 q => ?_⟩
  cases k with
  | true => exact ⟨S, σ', G1, W', Q', s.next st a1, by simpa using q, fun b G2 H2 st2 a2 q2 => bk b G2 H2 (st.trans st2) a2 q2⟩
  | false => exact bk false G1 H1 st a1 (by simpa using q)
theorem low_or : ∀ σ H Q, lowT X.K X.w W (cOr t1 t2) σ H Q → tOr (lowT X.K X.w W t1) (lowT X.K X.w W t2) σ H Q := by
  rintro σ H Q ⟨S, σ', G, W', Q', s, t, bk⟩
  refine ⟨S, σ', G, W', _, s, t, fun k G1 H1 st a1 q => ?_⟩
  cases k with
  | true => exact bk true G1 H1 st a1 (by simpa using q)
  | false => exact ⟨S, σ', G1, W', Q', s.next st a1, by simpa using q, fun b G2 H2 st2 a2 q2 => bk b G2 H2 (st.trans st2) a2 q2⟩
theorem pw_andP (ha : PT X a (lowT X.K X.w W t1)) (hb : L2.PW X (.BoolOp .And (b :: rest) pos) (lowT X.K X.w W t2)) : L2.PW X (.BoolOp .And (a :: b :: rest) pos) (lowT X.K X.w W (cAnd t1 t2)) := imp_w (pw_and ha hb) low_and
theorem pw_orP (ha : PT X a (lowT X.K X.w W t1)) (hb : L2.PW X (.BoolOp .Or (b :: rest) pos) (lowT X.K X.w W t2)) : L2.PW X (.BoolOp .Or (a :: b :: rest) pos) (lowT X.K X.w W (cOr t1 t2)) := imp_w (pw_or ha hb) low_or
theorem pt_notP (ha : PT X a (lowT X.K X.w W t1)) : PT X (.UnaryOp .Not a pos) (lowT X.K X.w W fun σ G Q W => t1 σ G (fun k G1 => Q (!k) G1) W) := by
  refine imp_t (pt_not ha) ?_
  rintro σ H Q ⟨S, σ', G, W', Q', s, t, bk⟩
  exact ⟨S, σ', G, W', _, s, t, fun k G1 H1 st a1 q => bk (!k) G1 H1 st a1 q⟩
end
end Fv

set_option Elab.async false
set_option linter.all false
set_option maxRecDepth 100000
set_option maxHeartbeats 1000000
namespace Fv
open PySem L2
def noStarE (e : Expr) : Bool := match e with | .Starred .. => false | _ => true
theorem plain_args : ∀ (es : List Expr) (env : Env) (pos : Pos), es.all noStarE = true → (backTo pos (starEach es env)).any (·.1) = false
  | [], _, _, _ => rfl
  | e :: es, env, pos, h => by
    rw [List.all_cons, Bool.and_eq_true] at h
    rw [no_star e es env h.1]
    show (false || (backTo pos (starEach es env)).any (·.1)) = false
    rw [plain_args es env pos h.2]; rfl
section
variable {X : Cx} {W : WX} {a b c e : Expr} {p pos : Pos} {ta tb tc : TPE} {es : List Expr} {t : TPA}
/-- a built-in, called by its name -/
theorem pe_bltP {f : Bn} (hc : CallR X f.val (lowC X.K X.w (pBn f))) (hg : Gl X f.name) (hm : X.mg f.name = none) (ha : PA X (e :: es) (lowA X.K X.w W t)) (hp : (e :: es).all noStarE = true) :
    PE X (.Call (.Name f.name p) (e :: es) [] pos) (low X.K X.w W fun σ G Q W => t σ G (fun vs G1 => pBn f vs G1 Q) W) := by
  have h2 : noStarE e = true ∧ es.all noStarE = true := by simpa using hp
  have n1 : f.name ≠ "__name__" := by cases f <;> decide
  have n2 : (f.name == ("__debug__" : Str)) = false := by cases f <;> decide
  have key : PE X (.Call (.Name f.name p) (e :: es) [] pos) (tCB (lowC X.K X.w (pBn f)) (lowA X.K X.w W t)) := by
    have hb := f.boot
    have : (∃ id, f.val = .builtin id) ∨ ∃ T, f.val = .type T := by cases f <;> first | exact .inl ⟨_, rfl⟩ | exact .inr ⟨_, rfl⟩
    rcases this with ⟨id, ev⟩ | ⟨T, ev⟩
    · rw [ev] at hc hb
      exact pe_callB hc hg hm hb ha n1 n2 (no_star e es X.env h2.1) (plain_args es X.env pos h2.2)
    · rw [ev] at hc hb
      exact pe_callTy hc hg hm hb ha n1 n2 (no_star e es X.env h2.1) (plain_args es X.env pos h2.2)
  refine imp_e key ?_
  rintro σ H Q ⟨S, σ', G, W', Q', s, t, bk⟩
  exact ⟨S, σ', G, W', _, s, t, fun xs vs G1 H1 st a1 r q => ⟨S, G1, xs, Q', a1, r, q, bk.next st⟩⟩
/-- isinstance, a built-in class -/
def isiTys : List (String × Str) := [("tuple", "tuple"), ("int", "int"), ("bool", "bool"), ("str", "str"), ("list", "list"), ("dict", "dict")]
theorem isi_boot : ∀ q ∈ isiTys, bootBuiltins q.2 = some (.type q.1) ∧ q.2 ≠ "__name__" ∧ (q.2 == ("__debug__" : Str)) = false := by
  intro q h
  simp only [isiTys, List.mem_cons, List.not_mem_nil, or_false] at h
  rcases h with rfl | rfl | rfl | rfl | rfl | rfl <;> exact ⟨by decide +kernel, by decide, by decide⟩
theorem ty_rep {S : Addr → Prop} {G : PH} {H : Hp} (a : At X.K X.w S G H) {x : PV} {v : V} (r : RepV X.K X.w H x v) {u : String} (e : tyOf G x = some (.inl u)) : TyX X.K H v (.type u) := by
  cases x <;> first | (cases r; cases e; exact .base (by constructor)) | skip
  · rename_i p
    cases r
    unfold tyOf at e
    dsimp only at e
    split at e <;> cases e
    · rename_i xs e1
      obtain ⟨vs, h, _⟩ := ref_lst a e1
      exact .base (.lst h)
    · rename_i kvs e1
      rcases a.ob p _ e1 with ⟨es, h, _⟩ | ⟨es, h, _⟩
      · exact .base (.dK h)
      · exact .base (.dT h)
  · cases e
  · obtain ⟨p, vs, rfl, t, _⟩ := r
    cases e
    rcases t with (t | ⟨o, t⟩) | ⟨o, its, n, hk, hc, _⟩
    · exact .base (.tup t)
    · exact .fTuple t
    · exact .kTuple hk hc
  · obtain ⟨p, vs, rfl, t, _⟩ := r
    cases e
    rcases t with ⟨o, t⟩ | ⟨o, its, n, hk, hc, _⟩
    · exact .base (.frz t)
    · exact .kList hk hc
  · obtain ⟨p, vs, rfl, ⟨_, ⟨es, n, D⟩, _⟩, _⟩ := r
    cases e
    exact .kDict D.at_ rfl
theorem pe_isiP {T : String} {z : Str} {p2 : Pos} (hz : (T, z) ∈ isiTys) (hg : Gl X "isinstance") (hm : X.mg "isinstance" = none) (hgT : Gl X z) (hmT : X.mg z = none) (ha : PE X a (low X.K X.w W ta)) (hs : noStarE a = true) :
    PE X (.Call (.Name "isinstance" p) [a, .Name z p2] [] pos) (low X.K X.w W (wUn (pIsi T) ta)) := by
  obtain ⟨h1, h2, h3⟩ := isi_boot _ hz
  have hb : PE X (.Name z p2) (tC (.ty T)) := pe_bltn hgT hmT h1 (show RelV (.ty T) (.type T) from rfl) h2 h3
  refine imp_e (pe_callB call_isi hg hm (by decide +kernel) (pa_cons ha (pa_cons hb pa_nil (by rfl)) (no_star a _ X.env hs)) (by decide) (by decide) (no_star a _ X.env hs) (by rfl)) ?_
  rintro σ H Q ⟨S, σ', G, W', Q', s, t, bk⟩
  refine low_bind s t fun x v G1 H1 st s1 r1 t1 => ?_
  unfold pIsi at t1
  split at t1
  · rename_i u e1
    split at t1
    · rename_i k e2
      exact ⟨v, .ty T, .type u, .type T, k, rfl, .ty T, ty_rep s1.at_ r1 e1, kit_ty e2, bk (.bl k) _ G1 H1 st s1.at_ rfl t1⟩
    · exact t1.elim
  · exact t1.elim
def RepKw (K : PySem.W.Frag) (w : World) (H : Hp) (kws : List (Str × PV)) (kvs : List (Str × V)) : Prop := RepF K w H kws kvs
def lowF (K : PySem.W.Frag) (w : World) (sp : List PV → List (Str × PV) → PH → VP → PC → Prop) : List V → List (Str × V) → Hp → VK → XK → Prop := fun vs kvs H Q E =>
  ∃ S G xs kws Q' P', At K w S G H ∧ RepL K w H xs vs ∧ RepF K w H kws kvs ∧ sp xs kws G Q' P' ∧ Back K w S H Q' Q ∧
    ∀ cls fs d G1 H1, Step S H H1 → At K w S G1 H1 → XRep K w H1 d fs → P' cls fs G1 → E cls d H1
structure Good (k : Nat) (A : Around) : Prop where
  room : Room k A
  gd : A.guards = some []
theorem Good.mono {j k : Nat} {A : Around} (g : Good k A) (h : j ≤ k) : Good j A := ⟨g.room.mono h, g.gd⟩
theorem Good.hu {k : Nat} {A : Around} (g : Good k A) : A.units + 200 < cLine := by have := g.room.un; omega
def KwV (kvs : List (Str × V)) (kw : List (Str × Value)) : Prop := Paired (fun (p : Str × V) (q : Str × Value) => p.1 = q.1 ∧ RelV p.2 q.2) kvs kw
/-- the def at f keeps sp, by at most k calls one in another -/
def FnP (P : Program) (w : World) (K : PySem.W.Frag) (mg : Str → Option Value) (base : Heap) (k : Nat) (f : Addr) (sp : List PV → List (Str × PV) → PH → VP → PC → Prop) : Prop :=
  ∀ (A : Around) (outer : List Env) (s : Shared) (H : Hp) (us : List Value) (kw : List (Str × Value)) (vs : List V) (kvs : List (Str × V)) (Q : VK) (E : XK), Good k A → Env0 P w K mg base A outer s H → Vals vs us → KwV kvs kw →
    lowF K w sp vs kvs H Q E → codeAny (model P w) A (.call (.ref f) ⟨us, kw⟩) (CR (L2.CX P w) outer P w H s Q E) s
theorem FnP.mono {P : Program} {w : World} {K : PySem.W.Frag} {mg : Str → Option Value} {base : Heap} {j k : Nat} {f : Addr} {sp} (F : FnP P w K mg base j f sp) (h : j ≤ k) : FnP P w K mg base k f sp :=
  fun A outer s H us kw vs kvs Q E g => F A outer s H us kw vs kvs Q E (g.mono h)
theorem run_fnP {k : Nat} {f : Addr} {sp : List PV → List (Str × PV) → PH → VP → PC → Prop} (F : FnP X.prog X.w X.K X.mg X.base k f sp) (g : Good k X.A) (tk : Takes X W) {pins : List (Addr × Obj)} {s : Shared} {σ : St} {H : Hp} {us : List Value} {kw : List (Str × Value)} {vs : List V} {kvs : List (Str × V)} {Q : VK}
    (I : Inv X pins σ H s) (r : Vals vs us) (rk : KwV kvs kw) (h : lowF X.K X.w sp vs kvs H Q (fun cls d H' => W cls d σ H')) : wpAny (model X.prog X.w) X.A (call (.ref f) us kw) (EP X pins σ Q) X.xe s := by
  refine wpAny_call (codeAny_mono (F X.A X.stack s H us kw vs kvs Q _ g I.env0 r rk h) fun r s' hq => ?_)
  cases r with
  | error e => exact tk e s' (XE.of_call I (fun cls d H' h => h) hq)
  | ok fl =>
    cases fl with
    | ret u => exact I.after hq
    | next => exact False.elim hq
    | brk => exact False.elim hq
    | cont => exact False.elim hq
/-- the values of keywords -/
def lowK (K : PySem.W.Frag) (w : World) (W : WX) (t : TPA) : TA := lowA K w W t
theorem pk_nilP : PK X [] (lowA X.K X.w W wNil) := ⟨fun pos pins s σ H Q I h => pk_nil.run pos pins s σ H Q I (by
  obtain ⟨S, σ', G, W', Q', s, t, bk⟩ := h
  exact bk [] [] G H Step.refl s.at_ rfl t)⟩
theorem pk_consP {nm : Option Str} {kpos : Pos} {kws : List Keyword} {tr : TPA} (ha : PE X e (low X.K X.w W ta)) (hr : PK X kws (lowA X.K X.w W tr)) : PK X (⟨nm, e, kpos⟩ :: kws) (lowA X.K X.w W (wCons ta tr)) :=
  ⟨fun pos pins s σ H Q I h => (pk_cons ha hr).run pos pins s σ H Q I (by
    obtain ⟨S, σ', G, W', Q', s, t, bk⟩ := h
    refine low_bind s t fun x v G1 H1 st s1 r1 t1 => ?_
    refine ⟨S, σ', G1, W', _, s1, t1, fun xs vs G2 H2 st2 a2 r2 t2 => ?_⟩
    exact bk (x :: xs) (v :: vs) G2 H2 (st.trans st2) a2 ⟨v, vs, rfl, r1.mono st2.toStay, r2⟩ t2)⟩
theorem kw_rep {K : PySem.W.Frag} {w : World} {H : Hp} : ∀ (ks : List Str) {zs : List PV} {vs : List V}, RepL K w H zs vs → RepF K w H (ks.zip zs) (ks.zip vs)
  | [], _, _, _ => by simp [RepF]; exact .nil
  | k :: ks, [], _, l => by cases l; simp [RepF]; exact .nil
  | k :: ks, z :: zs, _, ⟨v, r, rfl, a, b⟩ => .cons ⟨rfl, a⟩ (kw_rep ks b)
theorem kw_val : ∀ (ks : List Str) {vs : List V} {us : List Value}, Vals vs us → KwV (ks.zip vs) (ks.zip us)
  | [], _, _, _ => by simp [KwV]; exact .nil
  | k :: ks, [], _, l => by cases l; simp [KwV]; exact .nil
  | k :: ks, v :: vs, _, .cons r t => .cons ⟨rfl, r⟩ (kw_val ks t)
def kwNames (kws : List Keyword) : List Str := kws.filterMap (·.arg)
theorem kw_names {pos : Pos} {env : Env} : ∀ kws : List Keyword, (backToKw pos (keywordEach kws env)).filterMap (·.1) = kwNames kws
  | [] => rfl
  | ⟨n, v, p⟩ :: r => by
    have ih := kw_names (pos := pos) (env := env) r
    unfold kwNames at ih ⊢
    show (((n, (do let v ← eval v env; standAt pos; pure v)) :: backToKw pos (keywordEach r env))).filterMap (·.1) = _
    cases n with
    | none => simpa using ih
    | some x => simpa using ih
theorem kw_all {pos : Pos} {env : Env} : ∀ kws : List Keyword, (kws.all fun k => k.arg.isSome) = true → (backToKw pos (keywordEach kws env)).all (·.1.isSome) = true ∧ (backToKw pos (keywordEach kws env)).any (·.1.isNone) = false
  | [], _ => ⟨rfl, rfl⟩
  | ⟨n, v, p⟩ :: r, h => by
    have h2 : n.isSome = true ∧ (r.all fun k => k.arg.isSome) = true := by simpa using h
    obtain ⟨h3, h4⟩ := kw_all (pos := pos) (env := env) r h2.2
    obtain ⟨x, rfl⟩ := Option.isSome_iff_exists.mp h2.1
    exact ⟨by show (true && (backToKw pos (keywordEach r env)).all (·.1.isSome)) = true; rw [h3]; rfl, by show (false || (backToKw pos (keywordEach r env)).any (·.1.isNone)) = false; rw [h4]; rfl⟩
theorem step2P {k : Nat} {f : Addr} {kws : List Keyword} {tk : TPA} {sp : List PV → List (Str × PV) → PH → VP → PC → Prop} (F : FnP X.prog X.w X.K X.mg X.base k f sp) (g : Good k X.A) (tkx : Takes X W) (hkw : PK X kws (lowA X.K X.w W tk))
    {pins : List (Addr × Obj)} {s1 : Shared} {σ : St} {H : Hp} {Q : VK} {S : Addr → Prop} {σ' : PSt} {G : PH} {W' : PX} {Q' : VP} (si : Si X.K X.w W S σ' σ G H W') (bk : Back X.K X.w S H Q' Q)
    (us : List Value) (vs : List V) (xs : List PV) (G1 : PH) (H1 : Hp) (I1 : Inv X pins σ H1 s1) (rv : Vals vs us) (st1 : Step S H H1) (a1 : At X.K X.w S G1 H1) (rl : RepL X.K X.w H1 xs vs)
    (q1 : tk σ' G1 (fun zs G2 => sp xs ((kwNames kws).zip zs) G2 Q' fun c fs G3 => W' c fs σ' G3) W') :
    wpAny (model X.prog X.w) X.A (evalAll ((backToKw pos (keywordEach kws X.env)).map (·.2))) (fun ks s₂ => X.K.In s₂.heap ∧ wpAny (model X.prog X.w) X.A (call (.ref f) ([] ++ us) (((backToKw pos (keywordEach kws X.env)).filterMap (·.1)).zip ks)) (EP X pins σ Q) X.xe s₂) X.xe s1 := by
  refine thn (hkw.run pos pins s1 σ H1 (fun zs H2 => ∃ G2 zs', Step S H1 H2 ∧ At X.K X.w S G2 H2 ∧ RepL X.K X.w H2 zs' zs ∧ sp xs ((kwNames kws).zip zs') G2 Q' fun c fs G3 => W' c fs σ' G3) I1
    ⟨S, σ', G1, W', _, si.next st1 a1, q1, fun zs' zs G2 H2 st2 a2 r2 q2 => ⟨G2, zs', st2, a2, r2, q2⟩⟩) fun ws s2 ⟨zs, H2, I2, rz, G2, zs', st2, a2, r2, q2⟩ => ⟨I2.kIn, ?_⟩
  rw [kw_names]
  refine run_fnP F g tkx I2 (vs := vs) rv (kw_val _ rz) ⟨S, G2, xs, _, Q', _, a2, rl.mono st2.toStay, kw_rep _ r2, q2, bk.next (st1.trans st2), fun cls fs d G3 H3 st3 a3 x3 q3 => ?_⟩
  exact si.wx cls fs d σ' σ G3 H3 ((st1.trans st2).trans st3) a3 (si.sl.mono ((st1.trans st2).trans st3).toStay) x3 q3
theorem pe_callP {k : Nat} {x : Str} {f : Addr} {kws : List Keyword} {tk : TPA} {sp : List PV → List (Str × PV) → PH → VP → PC → Prop} (F : FnP X.prog X.w X.K X.mg X.base k f sp) (g : Good k X.A) (tkx : Takes X W) (hg : Gl X x) (hm : X.mg x = some (.ref f)) (hk : PySem.W.keepIn X.K (.ref f) = true)
    (hdb : (x == ("__debug__" : Str)) = false) (ha : PA X (e :: es) (lowA X.K X.w W t)) (hkw : PK X kws (lowA X.K X.w W tk)) (hp : (e :: es).all noStarE = true) (hn : (kws.all fun k => k.arg.isSome) = true) :
    PE X (.Call (.Name x p) (e :: es) kws pos) (low X.K X.w W (wCall sp (kwNames kws) t tk)) := by
  refine ⟨fun pins s σ H Q I h => ?_⟩
  obtain ⟨S, σ', G, W', Q', si, t1, bk⟩ := h
  refine wpAny_Call_Name_kw (ld_glob I hg hm ?_ hdb)
  obtain ⟨n1, n2⟩ := kw_all (pos := pos) (env := X.env) kws hn
  have h2 : noStarE e = true ∧ es.all noStarE = true := by simpa using hp
  refine PySem.W.callWith_KW (h₀ := X.base) I.ok.mod.kin hk n1 ?_ (by rw [n2, Bool.or_false]; exact plain_args (e :: es) X.env pos hp) (no_star e es X.env h2.1)
  refine thn (ha.run pos pins s σ H (fun vs H1 => ∃ G1 xs, Step S H H1 ∧ At X.K X.w S G1 H1 ∧ RepL X.K X.w H1 xs vs ∧ tk σ' G1 (fun zs G2 => sp xs ((kwNames kws).zip zs) G2 Q' fun c fs G3 => W' c fs σ' G3) W') I
    ⟨S, σ', G, W', _, si, t1, fun xs vs G1 H1 st1 a1 r1 q1 => ⟨G1, xs, st1, a1, r1, q1⟩⟩) fun us s1 ⟨vs, H1, I1, rv, G1, xs, st1, a1, rl, q1⟩ => ?_
  exact step2P F g tkx hkw si bk us vs xs G1 H1 I1 rv st1 a1 rl q1
theorem pe_callP0 {k : Nat} {x : Str} {f : Addr} {kws : List Keyword} {tk : TPA} {sp : List PV → List (Str × PV) → PH → VP → PC → Prop} (F : FnP X.prog X.w X.K X.mg X.base k f sp) (g : Good k X.A) (tkx : Takes X W) (hg : Gl X x) (hm : X.mg x = some (.ref f)) (hk : PySem.W.keepIn X.K (.ref f) = true)
    (hdb : (x == ("__debug__" : Str)) = false) (hkw : PK X kws (lowA X.K X.w W tk)) (hn : (kws.all fun k => k.arg.isSome) = true) :
    PE X (.Call (.Name x p) [] kws pos) (low X.K X.w W (wCall sp (kwNames kws) wNil tk)) := by
  refine ⟨fun pins s σ H Q I h => ?_⟩
  obtain ⟨S, σ', G, W', Q', si, t1, bk⟩ := h
  refine wpAny_Call_Name_kw (ld_glob I hg hm ?_ hdb)
  obtain ⟨n1, n2⟩ := kw_all (pos := pos) (env := X.env) kws hn
  refine PySem.W.callWith_KW0 (h₀ := X.base) I.ok.mod.kin hk n1 ?_ (by rw [n2]; rfl)
  exact step2P F g tkx hkw si bk [] [] [] G H I .nil Step.refl si.at_ rfl t1
end
end Fv

set_option Elab.async false
set_option linter.all false
set_option maxRecDepth 100000
set_option maxHeartbeats 1000000
namespace Fv
open PySem L2
section
variable (K : PySem.W.Frag) (w : World)
/-- the slots outside sl are as they were -/
def Out (sl : List Nat) (σ τ : St) : Prop := τ.length = σ.length ∧ ∀ j, j ∉ sl → τ[j]? = σ[j]?
def lowG (W : WX) (sl : List Nat) (t : TPG) : TG := fun v σ H N => ∃ S σ' G W' x N', Si K w W S σ' σ G H W' ∧ RepV K w H x v ∧ t x σ' G N' W' ∧
  ∀ τ' τ G1 H1, Step S H H1 → At K w S G1 H1 → RepS K w H1 τ' τ → Out sl σ τ → N' τ' G1 → N τ H1
def lowGs (W : WX) (sl : List Nat) (t : List PV → PSt → PH → (PSt → PH → Prop) → PX → Prop) : TGs := fun vs σ H N => ∃ S σ' G W' xs N', Si K w W S σ' σ G H W' ∧ RepL K w H xs vs ∧ t xs σ' G N' W' ∧
  ∀ τ' τ G1 H1, Step S H H1 → At K w S G1 H1 → RepS K w H1 τ' τ → Out sl σ τ → N' τ' G1 → N τ H1
/-- the iterator J gives the items xs while kp stands, from H0 on -/
def ItOk (H0 : Hp) (J : L2.It) (xs : List PV) (kp : Keep) : Prop := ∀ S G H, Stay H0 H → At K w S G H → Kept kp G → ∀ i : Nat,
  (i < xs.length → J.go i H ∧ ∀ x H', J.yld i H x H' → ∃ y, xs[i]? = some y ∧ Step S H H' ∧ At K w S G H' ∧ RepV K w H' y x) ∧ (xs.length ≤ i → J.stop i H)
def lowI (W : WX) (t : TPI) : TI := fun σ H R => ∃ S σ' G W' Q', Si K w W S σ' σ G H W' ∧ t σ' G Q' W' ∧ ∀ xs kp G1 H1 J, Step S H H1 → At K w S G1 H1 → ItOk K w H1 J xs kp → Q' xs kp G1 → R J H1
end
theorem Out.refl {sl : List Nat} {σ : St} : Out sl σ σ := ⟨rfl, fun _ _ => rfl⟩
theorem Out.trans {s1 s2 s3 : List Nat} {σ τ ρ : St} (a : Out s1 σ τ) (b : Out s2 τ ρ) (h1 : ∀ j ∈ s1, j ∈ s3) (h2 : ∀ j ∈ s2, j ∈ s3) : Out s3 σ ρ :=
  ⟨b.1.trans a.1, fun j hj => (b.2 j fun z => hj (h2 j z)).trans (a.2 j fun z => hj (h1 j z))⟩
theorem Out.set {i : Nat} {σ : St} {v : Option V} : Out [i] σ (σ.set i v) := ⟨by simp, fun j hj => by rw [List.getElem?_set_ne]; simpa using fun e => hj (by simp [e])⟩
theorem Out.mono {s1 s2 : List Nat} {σ τ : St} (a : Out s1 σ τ) (h : ∀ j ∈ s1, j ∈ s2) : Out s2 σ τ := ⟨a.1, fun j hj => a.2 j fun z => hj (h j z)⟩
section
variable {X : Cx} {W : WX} {a b c e tg : Expr} {p pos : Pos} {ta tb tc : TPE} {es : List Expr} {t : TPA}
theorem imp_g {t t' : TG} (h : PG X tg t) (k : ∀ v σ H Q, t' v σ H Q → t v σ H Q) : PG X tg t' := ⟨fun pins s σ H v u Q I r q => h.run pins s σ H v u Q I r (k v σ H Q q)⟩
theorem imp_gs {t t' : TGs} (h : PGs X es t) (k : ∀ v σ H Q, t' v σ H Q → t v σ H Q) : PGs X es t' := ⟨fun pins s σ H v u Q I r q => h.run pins s σ H v u Q I r (k v σ H Q q)⟩
theorem imp_i {t t' : TI} (h : PI X tg e t) (k : ∀ σ H Q, t' σ H Q → t σ H Q) : PI X tg e t' := ⟨fun pins s σ H Q I q => h.run pins s σ H Q I (k σ H Q q)⟩
theorem pg_nameP {i : Nat} {x : Str} (hN : X.N.Nodup) (hi : X.N[i]? = some x) (hx : Loc X.env.scope x) (hf : X.fn x = true ∨ X.env.scope.names.lookup x = some .local) : PG X (.Name x pos) (lowG X.K X.w W [i] (wName i)) := by
  refine imp_g (pg_name hN hi hx hf) ?_
  rintro v σ H N ⟨S, σ', G, W', x', N', s, r, t, k⟩
  exact k _ _ G H Step.refl s.at_ (s.sl.set i r) Out.set t
theorem pgs_nilP : PGs X [] (lowGs X.K X.w W [] wGNil) := by
  refine imp_gs pgs_nil ?_
  rintro vs σ H N ⟨S, σ', G, W', xs, N', s, r, t, k⟩
  obtain ⟨rfl, t⟩ := t
  cases r
  exact ⟨rfl, k _ _ G H Step.refl s.at_ s.sl Out.refl t⟩
theorem asg_each : ∀ (e : Expr) (es : List Expr) (env : Env), noStarE e = true → assignEach (e :: es) env = (false, assign e env) :: assignEach es env := fun e es env h => by
  cases e <;> first | rfl | cases h
theorem asg_len : ∀ (es : List Expr) (env : Env), es.all noStarE = true → (assignEach es env).length = es.length ∧ (assignEach es env).findIdx? (·.1) = none
  | [], _, _ => ⟨rfl, rfl⟩
  | e :: es, env, h => by
    have h2 : noStarE e = true ∧ es.all noStarE = true := by simpa using h
    obtain ⟨h3, h4⟩ := asg_len es env h2.2
    rw [asg_each e es env h2.1]
    refine ⟨by simp [h3], ?_⟩
    rw [List.findIdx?_cons]
    simp [h4]
theorem pgs_consP {s1 s2 : List Nat} {t1 : TPG} {t2} (he : noStarE e = true) (h1 : PG X e (lowG X.K X.w W s1 t1)) (h2 : PGs X es (lowGs X.K X.w W s2 t2)) : PGs X (e :: es) (lowGs X.K X.w W (s1 ++ s2) (wGCons t1 t2)) := by
  refine imp_gs (pgs_cons h1 h2 (by rw [asg_each e es X.env he] <;> rfl)) ?_
  rintro vs σ H N ⟨S, σ', G, W', xs, N', s, r, t, k⟩
  cases xs with
  | nil => exact (show False from t).elim
  | cons x xs =>
    obtain ⟨v, r0, rfl, r1, r2⟩ := r
    refine ⟨v, r0, rfl, S, σ', G, W', x, _, s, r1, t, fun τ' τ G1 H1 st a1 rs o1 q => ?_⟩
    refine ⟨S, τ', G1, W', xs, N', (s.next st a1).slots rs, r2.mono st.toStay, q, fun ρ' ρ G2 H2 st2 a2 rs2 o2 q2 => ?_⟩
    exact k ρ' ρ G2 H2 (st.trans st2) a2 rs2 (o1.trans o2 (fun j h => List.mem_append_left _ h) fun j h => List.mem_append_right _ h) q2
theorem pg_tupP {k n : Nat} {sl : List Nat} {t2} (hc : X.calm = true) (h : PGs X es (lowGs X.K X.w W sl t2)) (hn : es.length = n) (hs : es.all noStarE = true) :
    PG X (.Tuple es k pos) (lowG X.K X.w W sl fun v σ G Q W => match v with | .tup xs => xs.length = n ∧ t2 xs σ G Q W | _ => False) := by
  refine imp_g (pg_tup hc h ((asg_len es X.env hs).1.trans hn) (asg_len es X.env hs).2) ?_
  rintro v σ H N ⟨S, σ', G, W', x', N', s, r, t, k⟩
  cases x' <;> first | exact (show False from t).elim | skip
  rename_i xs
  obtain ⟨q, vs, rfl, hq, l⟩ := r
  exact ⟨q, vs, rfl, hq, by rw [← l.length]; exact t.1, S, σ', G, W', xs, N', s, l, t.2, k⟩
def wSub (to ti : TPE) : TPG := fun v σ G Q W => to σ G (fun x G1 => ti σ G1 (fun y G2 => pSet x y v G2 fun G3 => Q σ G3) W) W
def lowSet (K : PySem.W.Frag) (w : World) : TSet := fun o i v H N => ∃ S G o' i' v' N', At K w S G H ∧ RepV K w H o' o ∧ RepV K w H i' i ∧ RepV K w H v' v ∧ pSet o' i' v' G N' ∧ ∀ G1 H1, Step S H H1 → At K w S G1 H1 → N' G1 → N H1
theorem setP : PSet X (lowSet X.K X.w) := by
  rintro pins s σ H o i v u1 u2 u3 Q I r1 r2 r3 ⟨S, G, o', i', v', N', a, q1, q2, q3, t, k⟩
  unfold pSet at t
  split at t
  · cases q1
    split at t
    · rename_i e
      obtain ⟨vs, h, l⟩ := ref_lst a e
      split at t
      · cases q2
        split at t
        · rename_i n j e2
          rw [l.length] at e2
          refine set_list pins s σ H _ _ v u1 u2 u3 Q I r1 r2 r3 ⟨_, _, _, j, rfl, rfl, h, e2, ?_⟩
          have st := a.step_put (o := .lst (vs.set j v)) e
          exact k _ _ st (a.put (u := .lst _) e ⟨_, upd_same, (l.set j q3).mono st.toStay⟩) t
        · exact t.elim
      · exact t.elim
    · exact t.elim
  · exact t.elim
theorem pg_subP (hs : (match b with | .Slice .. => false | _ => true) = true) (ha : PE X a (low X.K X.w W ta)) (hb : PE X b (low X.K X.w W tb)) : PG X (.Subscript a b pos) (lowG X.K X.w W [] (wSub ta tb)) := by
  refine imp_g (pg_sub ha hb setP (by cases b <;> first | (intro v; rfl) | rfl | cases hs)) ?_
  rintro v σ H N ⟨S, σ', G, W', x', N', s, r, t, k⟩
  refine low_bind s t fun o ov G1 H1 st s1 r1 t1 => ?_
  refine low_bind s1 t1 fun i iv G2 H2 st2 s2 r2 t2 => ?_
  exact ⟨S, G2, o, i, x', _, s2.at_, r1.mono st2.toStay, r2, r.mono (st.trans st2).toStay, t2, fun G3 H3 st3 a3 q => k _ _ G3 H3 ((st.trans st2).trans st3) a3 (s.sl.mono ((st.trans st2).trans st3).toStay) Out.refl q⟩
def iAny (K : PySem.W.Frag) (tl : TE) : TI := fun σ H R => tl σ H fun x H1 => (∃ a, x = .ref a ∧ (∃ xs, SqL K H1 a xs) ∧ R (Itl K a) H1) ∨ ∃ a, x = .ref a ∧ (∃ xs, SqT K H1 a xs) ∧ R (Itt K a) H1
theorem pi_any {l : Expr} {tl : TE} (hl : PE X l tl) : PI X tg l (iAny X.K tl) := by
  refine ⟨fun pins s σ H R I h => ?_⟩
  refine thn (hl.run pins s σ H _ I h) fun v s1 ⟨x, H1, I1, r1, q1⟩ => ?_
  have fpk : ∀ b ∈ [s1.heap.objs.size], FpOk X pins H1 b := fun b hb => by
    have e : b = s1.heap.objs.size := by simpa using hb
    subst e
    exact I1.fpOk (Nat.le_refl _) (I1.hok.fresh (Nat.le_refl _))
  rcases q1 with ⟨a, e, ⟨xs, hq⟩, q⟩ | ⟨a, e, ⟨xs, hq⟩, q⟩
  · subst e
    cases r1
    obtain ⟨its, rv, p, hz⟩ := I1.list hq
    exact wpAny_pyIter_list p.isList ⟨s1.heap.objs.size, [s1.heap.objs.size], _, _, H1, rfl, I1.kept (t' := s1.toks) fun b o e => Heap.get?_push_of_some _ e, turn_list a _, ⟨_, Heap.get?_push_size _ rfl, rfl, rfl⟩, fpk, q⟩
  · subst e
    cases r1
    obtain ⟨its, rv, p, hz⟩ := I1.tuple hq
    exact wpAny_pyIter_tuple (show s1.heap.IsTuple a its.toArray from p) ⟨s1.heap.objs.size, [s1.heap.objs.size], _, _, H1, rfl, I1.kept (t' := s1.toks) fun b o e => Heap.get?_push_of_some _ e, turn_tuple a _, ⟨_, Heap.get?_push_size _ rfl, rfl, rfl⟩, fpk, q⟩
end
end Fv

set_option Elab.async false
set_option linter.all false
set_option maxRecDepth 100000
set_option maxHeartbeats 1000000
namespace Fv
open PySem L2
section
variable {K : PySem.W.Frag} {w : World}
theorem ok_tup {H0 : Hp} {a : Addr} {xs : List PV} {vs : List V} (h : SqT K H0 a vs) (l : RepL K w H0 xs vs) : ItOk K w H0 (Itt K a) xs [] := by
  intro S G H st at_ _ i
  have h' := st.sqT h
  have l' := l.mono st
  refine ⟨fun hi => ⟨?_, ?_⟩, fun hi => ⟨vs, h', by rw [← l.length]; exact hi⟩⟩
  · have hv : i < vs.length := by rw [← l.length]; exact hi
    exact ⟨vs, vs[i], h', by simp [hv]⟩
  · rintro x H' ⟨e, k⟩
    rw [e]
    obtain ⟨v, h1, h2⟩ := l'.get (i := i) (x := xs[i]) (by simp [hi])
    rw [k vs h'] at h1
    cases h1
    exact ⟨xs[i], by simp [hi], Step.refl, at_, h2⟩
theorem ok_sq {H0 : Hp} {a : Addr} {xs : List PV} {kp : Keep} (h : ∀ S G H, Stay H0 H → At K w S G H → Kept kp G → ∃ vs, SqL K H a vs ∧ RepL K w H xs vs) : ItOk K w H0 (Itl K a) xs kp := by
  intro S G H st at_ kk i
  obtain ⟨vs, h', l'⟩ := h S G H st at_ kk
  refine ⟨fun hi => ⟨?_, ?_⟩, fun hi => ⟨vs, h', by rw [← l'.length]; exact hi⟩⟩
  · have hv : i < vs.length := by rw [← l'.length]; exact hi
    exact ⟨vs, vs[i], h', by simp [hv]⟩
  · rintro x H' ⟨e, k⟩
    rw [e]
    obtain ⟨v, h1, h2⟩ := l'.get (i := i) (x := xs[i]) (by simp [hi])
    rw [k vs h'] at h1
    cases h1
    exact ⟨xs[i], by simp [hi], Step.refl, at_, h2⟩
theorem rangeP_len (lo : Int) (n : Nat) : (rangeP lo n).length = n := by simp [rangeP]
theorem rangeP_get {lo : Int} {n i : Nat} (h : i < n) : (rangeP lo n)[i]? = some (.int (lo + i)) := by simp [rangeP, h]
theorem ok_rng {H0 : Hp} {lo : Int} {n : Nat} : ItOk K w H0 (Itr lo n) (rangeP lo n) [] := by
  intro S G H st at_ _ i
  rw [rangeP_len]
  refine ⟨fun hi => ⟨hi, ?_⟩, fun hi => hi⟩
  rintro x H' ⟨e, rfl⟩
  rw [e]
  exact ⟨.int (lo + i), rangeP_get hi, Step.refl, at_, rfl⟩
end
section
variable {X : Cx} {W : WX} {a b c e tg : Expr} {p pos : Pos} {ta tb tc : TPE} {es : List Expr} {t : TPA}
def wGen (ta : TPE) : TPI := fun σ G R W => ta σ G (fun x G1 => match x with
      | .tup xs => R xs [] G1
      | .wl xs => R xs [] G1
      | .ref a => match G1 a with
        | some (.lst xs) => R xs [(a, .lst xs)] G1
        | _ => False
      | _ => False) W
theorem pi_genP (h : PE X e (low X.K X.w W ta)) : PI X tg e (lowI X.K X.w W (wGen ta)) := by
  refine imp_i (pi_any h) ?_
  rintro σ H R ⟨S, σ', G, W', Q', s, t, k⟩
  refine low_bind s t fun x v G1 H1 st s1 r1 t1 => ?_
  cases x <;> first | exact (show False from t1).elim | skip
  · rename_i p
    cases r1
    dsimp only at t1
    split at t1
    · rename_i xs e1
      obtain ⟨vs, h1, l⟩ := ref_lst s1.at_ e1
      refine .inl ⟨p, rfl, ⟨vs, SqL.of h1⟩, k xs _ G1 H1 _ st s1.at_ (ok_sq fun S2 G2 H2 st2 a2 kk => ?_) t1⟩
      obtain ⟨us, h2, l2⟩ := ref_lst a2 (kk _ (List.mem_singleton.mpr rfl))
      exact ⟨us, SqL.of h2, l2⟩
    · exact t1.elim
  · rename_i xs
    obtain ⟨q, vs, rfl, hq, l⟩ := r1
    exact .inr ⟨q, rfl, ⟨vs, hq⟩, k xs [] G1 H1 _ st s1.at_ (ok_tup hq l) t1⟩
  · rename_i xs
    obtain ⟨q, vs, rfl, hq, l⟩ := r1
    exact .inl ⟨q, rfl, ⟨vs, hq.sq⟩, k xs [] G1 H1 _ st s1.at_ (ok_sq fun S2 G2 H2 st2 a2 _ => ⟨vs, (st2.fz hq).sq, l.mono st2⟩) t1⟩
theorem pi_rngP1 (hg : Gl X "range") (hm : X.mg "range" = none) (ha : PE X a (low X.K X.w W ta)) (hs : noStarE a = true) : PI X tg (.Call (.Name "range" p) [a] [] pos) (lowI X.K X.w W fun σ G R W => ta σ G (fun x G1 => match x with
      | .int j => -(2 ^ 62) ≤ j ∧ j < 2 ^ 62 ∧ R (rangeP 0 j.toNat) [] G1
      | _ => False) W) := by
  refine imp_i (pi_range1 hg hm (pa_cons ha pa_nil (no_star a [] X.env hs)) (no_star a [] X.env hs)) ?_
  rintro σ H R ⟨S, σ', G, W', Q', s, t, k⟩
  refine low_bind s t fun x v G1 H1 st s1 r1 t1 => ?_
  cases x <;> first | exact (show False from t1).elim | skip
  cases r1
  exact ⟨_, rfl, t1.1, t1.2.1, k _ _ G1 H1 _ st s1.at_ ok_rng t1.2.2⟩
theorem pi_rngP2 (hg : Gl X "range") (hm : X.mg "range" = none) (ha : PE X a (low X.K X.w W ta)) (hb : PE X b (low X.K X.w W tb)) (hs : noStarE a = true) (hs2 : noStarE b = true) : PI X tg (.Call (.Name "range" p) [a, b] [] pos) (lowI X.K X.w W fun σ G R W => ta σ G (fun x G1 => tb σ G1 (fun y G2 => match x, y with
      | .int i, .int j => (-(2 ^ 62) ≤ i ∧ i < 2 ^ 62 ∧ -(2 ^ 62) ≤ j ∧ j < 2 ^ 62) ∧ R (rangeP i (j - i).toNat) [] G2
      | _, _ => False) W) W) := by
  refine imp_i (pi_range2 hg hm (pa_cons ha (pa_cons hb pa_nil (no_star b [] X.env hs2)) (no_star a [b] X.env hs)) (by rw [no_star a [b] X.env hs, no_star b [] X.env hs2]; rfl) (no_star b [] X.env hs2)) ?_
  rintro σ H R ⟨S, σ', G, W', Q', s, t, k⟩
  refine low_bind s t fun x v G1 H1 st s1 r1 t1 => ?_
  refine low_bind s1 t1 fun y u G2 H2 st2 s2 r2 t2 => ?_
  cases x <;> first | exact (show False from t2).elim | skip
  cases y <;> first | exact (show False from t2).elim | skip
  cases r1
  cases r2
  exact ⟨_, _, rfl, t2.1, k _ _ G2 H2 _ (st.trans st2) s2.at_ ok_rng t2.2⟩
theorem wipe_in {σ : St} {j : Nat} : ∀ {vs : List Nat}, j ∈ vs → j < σ.length → (wipe σ vs)[j]? = some none
  | [], h, _ => by simp at h
  | v :: vs, h, hl => by
    unfold wipe
    by_cases e : v = j
    · subst e
      rw [List.getElem?_set_self (by rw [wipe_length]; exact hl)]
    · rw [List.getElem?_set_ne e]
      exact wipe_in (by rcases List.mem_cons.mp h with h | h; exact absurd h.symm e; exact h) hl
theorem wipe_out' {σ : St} {i : Nat} : ∀ {vs : List Nat}, i ∉ vs → (wipe σ vs)[i]? = σ[i]?
  | [], _ => rfl
  | v :: vs, h => by
    have h1 : v ≠ i := fun e => h (by rw [e]; exact List.mem_cons_self)
    unfold wipe
    rw [List.getElem?_set_ne h1]
    exact wipe_out' fun m => h (List.mem_cons_of_mem _ m)
theorem wipe_same {σ τ : St} {vs sl : List Nat} (o : Out sl (wipe σ vs) τ) (h : ∀ j ∈ sl, j ∈ vs) : wipe τ vs = wipe σ vs := by
  have hl : τ.length = σ.length := by rw [o.1, wipe_length]
  apply List.ext_getElem?
  intro j
  by_cases hj : j ∈ vs
  · by_cases h2 : j < σ.length
    · rw [wipe_in hj h2, wipe_in hj (by rw [hl]; exact h2)]
    · rw [List.getElem?_eq_none (by rw [wipe_length]; omega), List.getElem?_eq_none (by rw [wipe_length]; omega)]
  · rw [wipe_out' hj, o.2 j fun z => hj (h j z), wipe_out' hj]
theorem wipe_rep {K : PySem.W.Frag} {w : World} {H : Hp} {σ' : PSt} {σ : St} (r : RepS K w H σ' σ) : ∀ vs : List Nat, RepS K w H (wipeP σ' vs) (wipe σ vs)
  | [] => r
  | v :: vs => by
    have ih := wipe_rep r vs
    unfold wipeP wipe
    refine ⟨by simp [ih.1], fun j x e => ?_⟩
    by_cases hj : v = j
    · subst hj
      by_cases h2 : v < (wipeP σ' vs).length
      · rw [List.getElem?_set_self h2] at e; cases e
      · rw [List.getElem?_eq_none (by simpa using h2)] at e; cases e
    · rw [List.getElem?_set_ne hj] at e ⊢
      exact ih.2 j x e
theorem stayH {K : PySem.W.Frag} {S : Addr → Prop} {H H1 : Hp} (s : Step S H H1) : Stay H H1 := s.toStay
/-- hiding one more object -/
theorem At.hide {K : PySem.W.Frag} {w : World} {S : Addr → Prop} {G : PH} {H : Hp} (a : At K w S G H) {D : Addr} {o : HO} (h : H D = none) : At K w (fun b => S b ∨ b = D) G (upd H D o) := by
  have a1 := a.silent (o := o) h
  refine ⟨fun b hb => ?_, a1.ob⟩
  rcases hb with hb | rfl
  · exact a1.hid b hb
  · exact ⟨a.free h, by rw [upd_same]; simp⟩
theorem At.show {K : PySem.W.Frag} {w : World} {S : Addr → Prop} {G : PH} {H : Hp} {D : Addr} (a : At K w (fun b => S b ∨ b = D) G H) (hD : ¬ S D) {o : PO} (r : RepO K w H D o) : At K w S (pu G D o) H := by
  refine ⟨fun b hb => ?_, fun b u e => ?_⟩
  · have hne : b ≠ D := by rintro rfl; exact hD hb
    rw [pu_ne hne]
    exact a.hid b (.inl hb)
  · by_cases hb : b = D
    · subst hb; rw [pu_same] at e; cases e; exact r
    · rw [pu_ne hb] at e; exact a.ob b u e
theorem low_lc {W : WX} {wi : TPI} {g : TPG} {sl : List Nat} {tt : TPT} {te : TPE} {vs : List Nat} (hsl : ∀ j ∈ sl, j ∈ vs) :
    ∀ σ H Q, low X.K X.w W (fun σ G Q W => wi σ G (fun xs kp G1 => lcL kp g tt te (wipeP σ vs) xs [] G1 fun acc G2 => ∀ D, G2 D = none → Q (.ref D) (pu G2 D (.lst acc))) W) σ H Q →
      tLc (lowI X.K X.w W wi) (lowG X.K X.w (fun _ _ _ _ => False) sl g) (lowT X.K X.w (fun _ _ _ _ => False) tt) (low X.K X.w (fun _ _ _ _ => False) te) vs σ H Q := by
  rintro σ H Q ⟨S, σ', G, W', Q', s, t, bk⟩
  refine ⟨S, σ', G, W', _, s, t, fun xs kp G1 H1 J st1 a1 ok q => ?_⟩
  intro D hD
  have hS : ¬ S D := fun z => (a1.hid D z).2 hD
  have stD : Step (fun b => S b) H1 (upd H1 D (.lst [])) := a1.step_new hD
  refine ⟨fun i m Hx => m = xs.length - i ∧ i ≤ xs.length ∧ ∃ Gx acc accV, Step S H1 Hx ∧ At X.K X.w (fun b => S b ∨ b = D) Gx Hx ∧ Hx D = some (.lst accV) ∧ RepL X.K X.w Hx acc accV ∧
      lcL kp g tt te (wipeP σ' vs) (xs.drop i) acc Gx fun acc G2 => ∀ D, G2 D = none → Q' (.ref D) (pu G2 D (.lst acc)),
    ⟨xs.length, by simp, Nat.zero_le _, G1, [], [], stD, a1.hide hD, upd_same, rfl, q⟩, ?_⟩
  rintro i m Hx ⟨rfl, hi, Gx, acc, accV, stx, ax, eD, lD, qx⟩
  have si : ∀ {σ2' σ2 G2 H2}, At X.K X.w (fun b => S b ∨ b = D) G2 H2 → RepS X.K X.w H2 σ2' σ2 → Si X.K X.w (fun _ _ _ _ => False) (fun b => S b ∨ b = D) σ2' σ2 G2 H2 noX := fun a2 r2 => ⟨a2, r2, fun _ _ _ _ _ _ _ _ _ _ _ z => z⟩
  by_cases hlt : i < xs.length
  · have ed : xs.drop i = xs[i] :: xs.drop (i + 1) := List.drop_eq_getElem_cons hlt
    rw [ed] at qx
    obtain ⟨kk, qx⟩ := qx
    obtain ⟨go, yl⟩ := (ok _ Gx Hx stx.toStay ax kk i).1 hlt
    refine .inr ⟨go, fun H' => ∃ G' acc accV, Step S H1 H' ∧ At X.K X.w (fun b => S b ∨ b = D) G' H' ∧ H' D = some (.lst accV) ∧ RepL X.K X.w H' acc accV ∧
      lcL kp g tt te (wipeP σ' vs) (xs.drop (i + 1)) acc G' fun acc G2 => ∀ D, G2 D = none → Q' (.ref D) (pu G2 D (.lst acc)), fun H' h => ⟨xs.length - (i + 1), by omega, rfl, hlt, h⟩, fun x H' hy => ?_⟩
    obtain ⟨y, ey, sty, ay, ry⟩ := yl x H' hy
    have : y = xs[i] := by rw [List.getElem?_eq_getElem hlt] at ey; exact (Option.some.inj ey).symm
    subst this
    have eD1 : H' D = some (.lst accV) := (sty.hid D (.inr rfl)).trans eD
    have wS : ∀ {A B : Hp}, Step (fun b => S b ∨ b = D) A B → Step S A B := fun z => ⟨z.toStay, fun b hb => z.hid b (.inl hb)⟩
    refine ⟨_, wipeP σ' vs, Gx, noX, _, _, si ay (wipe_rep (s.sl.mono ((st1.trans (stx.trans (wS sty))).toStay)) vs), ry, qx, fun τ' τ G2 H2 st2 a2 r2 o2 q2 => ⟨wipe_same o2 hsl, ?_⟩⟩
    refine ⟨_, τ', G2, noX, _, si a2 r2, q2, fun b G3 H3 st3 a3 q3 => ?_⟩
    have stz := wS (sty.trans (st2.trans st3))
    have eD3 : H3 D = some (.lst accV) := ((st2.trans st3).hid D (.inr rfl)).trans eD1
    cases b with
    | false =>
      rw [if_neg Bool.false_ne_true] at q3
      refine L2.iteF ?_
      exact ⟨G3, acc, accV, stx.trans stz, a3, eD3, lD.mono stz.toStay, q3⟩
    | true =>
      rw [if_pos rfl] at q3
      refine L2.iteT ?_
      refine ⟨_, τ', G3, noX, _, si a3 (r2.mono st3.toStay), q3, fun y v G4 H4 st4 a4 r4 q4 => ?_⟩
      have eD4 : H4 D = some (.lst accV) := (st4.hid D (.inr rfl)).trans eD3
      have st5 : Step S H4 (upd H4 D (.lst (accV ++ [v]))) := Step.put eD4 trivial hS
      have l4 := lD.mono (stz.trans (wS st4)).toStay
      refine ⟨accV, eD4, by rw [← lD.length]; exact q4.1, G4, acc ++ [y], accV ++ [v], stx.trans (stz.trans ((wS st4).trans st5)), ?_, upd_same, (l4.app (RepL.one r4)).mono st5.toStay, q4.2⟩
      refine ⟨fun b hb => ⟨(a4.hid b hb).1, ?_⟩, fun b u e => ?_⟩
      · by_cases hb2 : b = D
        · subst hb2; rw [upd_same]; simp
        · rw [upd_ne hb2]; exact (a4.hid b hb).2
      · have hb2 : b ≠ D := by rintro rfl; rw [(a4.hid _ (.inr rfl)).1] at e; cases e
        exact (a4.ob b u e).mono st5.toStay (upd_ne hb2)
  · have e : i = xs.length := by omega
    subst e
    rw [List.drop_length] at qx
    obtain ⟨kk, qx⟩ := qx
    refine .inl ⟨(ok _ Gx Hx stx.toStay ax kk _).2 (Nat.le_refl _), ?_⟩
    exact bk (.ref D) _ _ _ (st1.trans stx) (ax.show hS (o := .lst acc) ⟨accV, eD, lD⟩) rfl (qx D (ax.hid D (.inr rfl)).1)
end
end Fv

set_option Elab.async false
set_option linter.all false
set_option maxRecDepth 100000
set_option maxHeartbeats 1000000
namespace Fv
open PySem L2
def visB (sc : Scope) (x : Str) : Bool := match sc.names.lookup x with
  | some .local => true
  | some .cell => true
  | some .free => true
  | _ => false
def locB (sc : Scope) (x : Str) : Bool := match sc.names.lookup x with
  | some .local => true
  | some .cell => true
  | _ => false
def glB (sc : Scope) (x : Str) : Bool := match sc.names.lookup x with
  | some .globalImplicit => true
  | _ => false
def plainNm (x : Str) : Bool := !(x == ("__debug__" : Str)) && !(x == ("__classdict__" : Str))
def cName (N : List Str) (sc : Scope) (i : Nat) (e : Expr) : Bool := match e with
  | .Name x _ => decide (N[i]? = some x) && visB sc x && plainNm x
  | _ => false
def cConst (v : PV) (e : Expr) : Bool := match e with
  | .Constant (.int i) _ _ => (match v with | .int j => i == j | _ => false)
  | .Constant (.bool i) _ _ => (match v with | .bl j => i == j | _ => false)
  | .Constant (.str i) _ _ => (match v with | .str j => decide (i = j) | _ => false)
  | .Constant .none _ _ => isNon v
  | _ => false
def cGlob (sc : Scope) (x : Str) (e : Expr) : Bool := match e with
  | .Name y _ => decide (y = x) && glB sc x && plainNm x
  | _ => false
def noSlice (e : Expr) : Bool := match e with | .Slice .. => false | _ => true
def plainT (e : Expr) : Bool := match e with
  | .UnaryOp .. => false
  | .BoolOp .. => false
  | .IfExp .. => false
  | .Compare .. => false
  | _ => true
def noSet (e : Expr) : Bool := match e with | .Set .. => false | _ => true
def noComp (e : Expr) : Bool := match e with
  | .ListComp .. => false
  | .SetComp .. => false
  | .DictComp .. => false
  | _ => true
mutual
def slotsG : Tg → List Nat
  | .name i => [i]
  | .tup ts => slotsGs ts
  | .sub _ _ => []
def slotsGs : Tgs → List Nat
  | .nil => []
  | .cons t r => slotsG t ++ slotsGs r
end
section
variable (fs N : List Str)
mutual
def cE (sc : Scope) : E → Expr → Bool
  | .var i, e => cName N sc i e
  | .cst v, e => cConst v e
  | .glob x, e => cGlob sc x e
  | .bin op a b, e => match e with
    | .BinOp l o r _ => decide (o = op) && cE sc a l && cE sc b r
    | _ => false
  | .neg a, e => match e with
    | .UnaryOp .USub l _ => cE sc a l
    | _ => false
  | .cmp op a b, e => match e with
    | .Compare l [o] [r] _ => decide (o = op) && cE sc a l && cE sc b r && !behindInMarks op r
    | _ => false
  | .chain o1 o2 a b c, e => match e with
    | .Compare l [p1, p2] [r, q] _ => decide (p1 = o1) && decide (p2 = o2) && cE sc a l && cE sc b r && cE sc c q && !lastMarks [o1, o2] [r, q]
    | _ => false
  | .no a, e => match e with
    | .UnaryOp .Not l _ => cE sc a l
    | _ => false
  | .and a b, e => match e with
    | .BoolOp .And (x :: y :: []) _ => cE sc a x && cE sc b y
    | .BoolOp .And (x :: y :: z :: r) p => cE sc a x && cE sc b (.BoolOp .And (y :: z :: r) p)
    | _ => false
  | .or a b, e => match e with
    | .BoolOp .Or (x :: y :: []) _ => cE sc a x && cE sc b y
    | .BoolOp .Or (x :: y :: z :: r) p => cE sc a x && cE sc b (.BoolOp .Or (y :: z :: r) p)
    | _ => false
  | .ite c a b, e => match e with
    | .IfExp t x y _ => cT sc c t && cE sc a x && cE sc b y
    | _ => false
  | .tup xs, e => match e with
    | .Tuple es _ _ => cA sc xs es
    | _ => false
  | .lst xs, e => match e with
    | .List es _ => cA sc xs es
    | _ => false
  | .idx a i, e => match e with
    | .Subscript x y _ => cE sc a x && cE sc i y && noSlice y
    | _ => false
  | .sl a lo hi, e => match e with
    | .Subscript x (.Slice l h none _) _ => cE sc a x && cO sc lo l && cO sc hi h
    | _ => false
  | .call f xs ks ys, e => match e with
    | .Call (.Name x _) es kws _ => decide (x = f) && decide (f ∈ fs) && glB sc f && plainNm f && cA sc xs es && es.all noStarE && (kws.all fun k => k.arg.isSome) && decide (kwNames kws = ks) && cK sc ys kws
    | _ => false
  | .blt f xs, e => match e with
    | .Call (.Name x _) es [] _ => decide (x = f.name) && glB sc f.name && cA sc xs es && es.all noStarE && !es.isEmpty
    | _ => false
  | .isi a t, e => match e with
    | .Call (.Name x _) [l, .Name z _] [] _ => decide (x = "isinstance") && glB sc "isinstance" && glB sc z && decide ((t, z) ∈ isiTys) && cE sc a l && noStarE l
    | _ => false
  | .lc elt tg it ifs own, e => match e with
    | .ListComp e1 [⟨t1, i1, f1, 0⟩] scope _ => cI sc it i1 && noSet i1 && blkC N sc scope own && cG scope (relS scope sc) tg t1 && cTs (relS scope sc) ifs f1 && cE (relS scope sc) elt e1 && (slotsG tg).all (fun j => (own.map (·.2)).contains j)
    | _ => false
def cT (sc : Scope) : T → Expr → Bool
  | .e a, e => cE sc a e && plainT e
  | .cmp op a b, e => match e with
    | .Compare l [o] [r] _ => decide (o = op) && cE sc a l && cE sc b r && !behindInMarks op r
    | _ => false
  | .chain o1 o2 a b c, e => match e with
    | .Compare l [p1, p2] [r, q] _ => decide (p1 = o1) && decide (p2 = o2) && cE sc a l && cE sc b r && cE sc c q && !lastMarks [o1, o2] [r, q]
    | _ => false
  | .and a b, e => match e with
    | .BoolOp .And (x :: y :: []) _ => cT sc a x && cT sc b y
    | .BoolOp .And (x :: y :: z :: r) p => cT sc a x && cT sc b (.BoolOp .And (y :: z :: r) p)
    | _ => false
  | .or a b, e => match e with
    | .BoolOp .Or (x :: y :: []) _ => cT sc a x && cT sc b y
    | .BoolOp .Or (x :: y :: z :: r) p => cT sc a x && cT sc b (.BoolOp .Or (y :: z :: r) p)
    | _ => false
  | .not a, e => match e with
    | .UnaryOp .Not l _ => cT sc a l
    | _ => false
def cTs (sc : Scope) : Ts → List Expr → Bool
  | .nil, es => es.isEmpty
  | .cons t r, es => match es with
    | [e] => cT sc t e && cTs sc r []
    | _ => false
def cA (sc : Scope) : As → List Expr → Bool
  | .nil, es => es.isEmpty
  | .one a r, es => match es with
    | e :: es => cE sc a e && noStarE e && cA sc r es
    | [] => false
  | .star _ _, _ => false
def cK (sc : Scope) : As → List Keyword → Bool
  | .nil, ks => ks.isEmpty
  | .one a r, ks => match ks with
    | ⟨_, e, _⟩ :: ks => cE sc a e && cK sc r ks
    | [] => false
  | .star _ _, _ => false
def cO (sc : Scope) : Eo → Option Expr → Bool
  | .none, o => o.isNone
  | .some a, o => match o with
    | some e => cE sc a e
    | none => false
def cG (sc0 sc : Scope) : Tg → Expr → Bool
  | .name i, e => match e with
    | .Name x _ => decide (N[i]? = some x) && locB sc0 x
    | _ => false
  | .tup ts, e => match e with
    | .Tuple es _ _ => cGs sc0 sc ts es && es.all noStarE && decide (es.length = lenG ts)
    | _ => false
  | .sub a i, e => match e with
    | .Subscript x y _ => cE sc a x && cE sc i y && noSlice y
    | _ => false
def cGs (sc0 sc : Scope) : Tgs → List Expr → Bool
  | .nil, es => es.isEmpty
  | .cons t r, es => match es with
    | e :: es => cG sc0 sc t e && noStarE e && cGs sc0 sc r es
    | [] => false
def cI (sc : Scope) : It → Expr → Bool
  | .gen a, e => cE sc a e
  | .rng a, e => match e with
    | .Call (.Name x _) [l] [] _ => decide (x = "range") && glB sc "range" && cE sc a l && noStarE l
    | _ => false
  | .rng2 a b, e => match e with
    | .Call (.Name x _) [l, r] [] _ => decide (x = "range") && glB sc "range" && cE sc a l && cE sc b r && noStarE l && noStarE r
    | _ => false
end
/-- stores that are not turned round -/
def notLoc (sc : Scope) (t : Expr) : Bool := match t with
  | .Name x _ => !(sc.names.lookup x == some .local)
  | _ => true
def plainAsg (sc : Scope) (tg e : Expr) : Bool := (noComp e || (match tg with | .Name .. => false | _ => true)) && (match tg, e with
  | .Tuple ts _ _, .Tuple vs _ _ => (ts.length != 2 && ts.length != 3) || ts.any (notLoc sc)
  | .List .., _ => false
  | _, _ => true)
def parB (sc : Scope) (is : List Nat) (ts es : List Expr) : Bool := match is, ts, es with
  | [i, j], [.Name x px, .Name y py], [a, b] => decide (N[i]? = some x) && decide (N[j]? = some y) && decide (i ≠ j) && decide (sc.names.lookup x = some .local) && decide (sc.names.lookup y = some .local) && (py.line == px.line)
      && decide (([x, y] : List Str).eraseDups.length = 2) && !([a, b].all (foldedForSure 8)) && !([a, b].all (constantsAlone 8)) && noStarE a && noStarE b
  | [i, j, l], [.Name x px, .Name y py, .Name z pz], [a, b, c] => decide (N[i]? = some x) && decide (N[j]? = some y) && decide (N[l]? = some z) && decide (i ≠ j) && decide (i ≠ l) && decide (j ≠ l) && decide (sc.names.lookup x = some .local) && decide (sc.names.lookup y = some .local) && decide (sc.names.lookup z = some .local)
      && (py.line == px.line) && (pz.line == px.line) && decide (([x, y, z] : List Str).eraseDups.length = 3) && !([a, b, c].all (foldedForSure 8)) && !([a, b, c].all (constantsAlone 8)) && noStarE a && noStarE b && noStarE c
  | _, _, _ => false
mutual
def cS (sc : Scope) : S → Stmt → Bool
  | .doc, s => match s with
    | .Expr (.Constant (.str _) _ _) _ => true
    | _ => false
  | .expr a, s => match s with
    | .Expr e _ => cE fs N sc a e && noComp e
    | _ => false
  | .asg t a, s => match s with
    | .Assign [tg] e _ => cG fs N sc sc t tg && cE fs N sc a e && plainAsg sc tg e
    | _ => false
  | .asgL i a, s => match s with
    | .Assign [.Name y py] (.ListComp e1 gs scope p) sp => match a with
      | .lc elt tg it ifs own => cE fs N sc (.lc elt tg it ifs own) (.ListComp e1 gs scope p) && decide (N[i]? = some y) && decide (sc.names.lookup y = some .local) && (py.line == p.line) && !(scope.names.any fun (n, k) => n == y && (k == .local || k == .cell))
      | _ => false
    | _ => false
  | .par is xs, s => match s with
    | .Assign [.Tuple ts _ _] (.Tuple es _ _) _ => parB N sc is ts es && cA fs N sc xs es
    | _ => false
  | .ret a, s => match s with
    | .Return (some e) _ => cE fs N sc a e
    | _ => false
  | .retN, s => match s with
    | .Return none _ => true
    | _ => false
  | .ifs c a b, s => match s with
    | .If t x y _ => cT fs N sc c t && cSs sc a x && cSs sc b y
    | _ => false
  | .for_ t it b, s => match s with
    | .For tg i x [] _ => cG fs N sc sc t tg && cI fs N sc it i && noSet i && cSs sc b x
    | _ => false
  | .brk, s => match s with
    | .Break _ => true
    | _ => false
  | .cnt, s => match s with
    | .Continue _ => true
    | _ => false
  | .pass, s => match s with
    | .Pass _ => true
    | _ => false
def cSs (sc : Scope) : Ss → List Stmt → Bool
  | .nil, ss => ss.isEmpty
  | .cons s r, ss => match ss with
    | x :: xs => cS sc s x && cSs sc r xs
    | [] => false
end
end
end Fv

set_option Elab.async false
set_option linter.all false
set_option maxRecDepth 100000
set_option maxHeartbeats 2000000
namespace Fv
open PySem L2
structure XOk (o : Orc) (fs N : List Str) (k : Nat) (sc0 : Scope) (X : Cx) : Prop where
  nm : X.N = N
  nd : N.Nodup
  calm : X.calm = true
  good : Good k X.A
  bn : ∀ b : Bn, X.mg b.name = none
  isi : X.mg "isinstance" = none
  rng : X.mg "range" = none
  tys : ∀ q ∈ isiTys, X.mg q.2 = none
  gl : ∀ x v, o.gl x = some v → ∃ u vv, X.mg x = some u ∧ RelV vv u ∧ ∀ H, RepV X.K X.w H v vv
  fn : ∀ f ∈ fs, ∃ a, X.mg f = some (.ref a) ∧ PySem.W.keepIn X.K (.ref a) = true ∧ FnP X.prog X.w X.K X.mg X.base k a (o.fn f)
  kd : X.env.scope.kind = .function
  tg : ∀ x, locB sc0 x = true → Loc X.env.scope x ∧ (X.fn x = true ∨ X.env.scope.names.lookup x = some .local)
theorem vis_of {sc : Scope} {x : Str} (h : visB sc x = true) : Vis sc x := by
  unfold visB at h
  split at h <;> first | cases h | skip
  · exact .inl ‹_›
  · exact .inr (.inl ‹_›)
  · exact .inr (.inr ‹_›)
theorem gl_of {X : Cx} {x : Str} (h : glB X.env.scope x = true) : Gl X x := by
  unfold glB at h
  split at h <;> first | cases h | skip
  assumption
theorem plain_nm {x : Str} (h : plainNm x = true) : (x == ("__debug__" : Str)) = false ∧ (x == ("__classdict__" : Str)) = false := by
  unfold plainNm at h
  simpa using h
theorem pe_false {X : Cx} {e : Expr} {t : TE} (h : ∀ σ H Q, ¬ t σ H Q) : PE X e t := ⟨fun _ _ _ _ _ _ q => (h _ _ _ q).elim⟩
theorem low_cst {K : PySem.W.Frag} {w : World} {W : WX} {v : PV} {u : V} (h : ∀ H, RepV K w H v u) : ∀ σ H Q, low K w W (wCst v) σ H Q → tC u σ H Q := by
  rintro σ H Q ⟨S, σ', G, W', Q', s, t, b⟩
  exact b v u G H Step.refl s.at_ (h H) t
theorem relab_lookup (b : Str → Bool) {x : Str} {kd : NameKind} (hk : kd ≠ .free) : ∀ names : List (Str × NameKind), names.lookup x = some kd →
    (names.map fun (p : Str × NameKind) => if (p.2 == NameKind.free && b p.1) = true then (p.1, NameKind.cell) else p).lookup x = some kd
  | [], h => by simp at h
  | (n, k) :: r, h => by
    rw [List.lookup_cons] at h
    rw [List.map_cons, List.lookup_cons]
    have e : ((if (k == NameKind.free && b n) = true then (n, NameKind.cell) else (n, k)) : Str × NameKind).1 = n := by split <;> rfl
    show (match x == ((if (k == NameKind.free && b n) = true then (n, NameKind.cell) else (n, k)) : Str × NameKind).1 with | true => some ((if (k == NameKind.free && b n) = true then (n, NameKind.cell) else (n, k)) : Str × NameKind).2 | false => _) = _
    rw [e]
    cases hx : x == n with
    | true =>
      rw [hx] at h
      cases h
      have h2 : (kd == NameKind.free && b n) = false := by
        have : (kd == NameKind.free) = false := by cases kd <;> first | rfl | exact absurd rfl hk
        rw [this]; rfl
      simp only [h2, Bool.false_eq_true, if_false]
    | false =>
      rw [hx] at h
      exact relab_lookup b hk r h
theorem rel_lookup {scope sc : Scope} {x : Str} (h : locB scope x = true) : Loc (relS scope sc) x ∧ ((scope.names.lookup x == some NameKind.cell) = true ∨ (relS scope sc).names.lookup x = some .local) := by
  have key : ∀ kd : NameKind, kd ≠ .free → scope.names.lookup x = some kd → (relS scope sc).names.lookup x = some kd := fun kd hk e => by
    have := relab_lookup (fun n => sc.kind == .function && sc.names.lookup n == some .cell) hk scope.names e
    have e2 : (relS scope sc).names = scope.names.map fun (p : Str × NameKind) => if (p.2 == NameKind.free && (sc.kind == .function && sc.names.lookup p.1 == some .cell)) = true then (p.1, NameKind.cell) else p := by
      unfold relS
      show scope.names.map _ = _
      apply List.map_congr_left
      rintro ⟨n, k⟩ _
      simp only [Bool.and_assoc]
    rw [e2]
    exact this
  unfold locB at h
  split at h <;> first | cases h | skip
  · rename_i e
    have := key .local (by decide) e
    exact ⟨.inl this, .inr this⟩
  · rename_i e
    have := key .cell (by decide) e
    exact ⟨.inr this, .inl (by rw [e]; rfl)⟩
theorem blk_ok {o : Orc} {fs N : List Str} {k : Nat} {sc0 : Scope} {X : Cx} (x : XOk o fs N k sc0 X) {scope : Scope} (hk : scope.kind = .function) (s : Shared) (H : Hp) (C : Addr) (cl : List (Str × Addr)) (fp : List Addr) :
    XOk o fs N k scope (X.blk s H scope (compEnvC scope cl C X.env) fp) :=
  ⟨x.nm, x.nd, x.calm, x.good, x.bn, x.isi, x.rng, x.tys, x.gl, x.fn, hk, fun y h => rel_lookup (sc := X.env.scope) h⟩
theorem set_iter {it : Expr} {env : Env} (h : noSet it = true) : ∀ x, foldedSetIterable it env x = pure x := fun x => by
  cases it <;> first | rfl | cases h
theorem args_ne {es : List Expr} (h : (!es.isEmpty) = true) : ∃ e r, es = e :: r := by
  cases es with
  | nil => cases h
  | cons e r => exact ⟨e, r, rfl⟩
theorem imp_ts {X : Cx} {es : List Expr} {t t' : TT} (h : PTs X es t) (k : ∀ σ H Q, t' σ H Q → t σ H Q) : PTs X es t' := ⟨fun pins s σ H Q I q => h.run pins s σ H Q I (k σ H Q q)⟩
theorem imp_rng {X : Cx} {tg e : Expr} {W : WX} {t t' : TPI} (h : PI X tg e (lowI X.K X.w W t)) (k : ∀ σ G Q W', t' σ G Q W' → t σ G Q W') : PI X tg e (lowI X.K X.w W t') := imp_i h fun σ H Q ⟨S, σ', G, W', Q', s, q, bk⟩ => ⟨S, σ', G, W', Q', s, k _ _ _ _ q, bk⟩
section
variable {o : Orc} {fs N : List Str} {k : Nat}
mutual
theorem sE : ∀ (a : E) (X : Cx) (sc0 : Scope) (W : WX) (e : Expr), XOk o fs N k sc0 X → Takes X W → cE fs N X.env.scope a e = true → PE X e (low X.K X.w W (wE o a))
  | .var i, X, sc0, W, e, x, tk, h => by
    unfold cE cName at h
    split at h <;> first | cases h | skip
    simp only [Bool.and_eq_true, decide_eq_true_eq] at h
    have pn := plain_nm h.2
    exact imp_e (pe_var (i := i) (by rw [x.nm]; exact h.1.1) (vis_of h.1.2) pn.1 pn.2) low_var
  | .cst v, X, sc0, W, e, x, tk, h => by
    unfold cE cConst at h
    split at h
    · split at h <;> first | cases h | skip
      rw [beq_iff_eq] at h
      subst h
      exact imp_e pe_int (low_cst fun _ => rfl)
    · split at h <;> first | cases h | skip
      rw [beq_iff_eq] at h
      subst h
      exact imp_e pe_bl (low_cst fun _ => rfl)
    · split at h <;> first | cases h | skip
      rw [decide_eq_true_eq] at h
      subst h
      exact imp_e pe_str (low_cst fun _ => rfl)
    · cases v <;> first | cases h | skip
      exact imp_e pe_non (low_cst fun _ => rfl)
    · cases h
  | .glob y, X, sc0, W, e, x, tk, h => by
    unfold cE cGlob at h
    split at h <;> first | cases h | skip
    simp only [Bool.and_eq_true, decide_eq_true_eq] at h
    obtain ⟨⟨rfl, hg⟩, hp⟩ := h
    unfold wE
    split
    · rename_i v hv
      obtain ⟨u, vv, h1, h2, h3⟩ := x.gl _ v hv
      exact imp_e (pe_glob (gl_of hg) h1 h2 (plain_nm hp).1) (low_cst h3)
    · refine pe_false ?_
      rintro σ H Q ⟨S, σ', G, W', Q', s, t, b⟩
      exact t
  | .bin op a b, X, sc0, W, e, x, tk, h => by
    unfold cE at h
    split at h <;> first | cases h | skip
    simp only [Bool.and_eq_true, decide_eq_true_eq] at h
    obtain ⟨⟨rfl, h1⟩, h2⟩ := h
    unfold wE
    exact pe_opP (opBin _) (sE a X sc0 W _ x tk h1) (sE b X sc0 W _ x tk h2)
  | .neg a, X, sc0, W, e, x, tk, h => by
    unfold cE at h
    split at h <;> first | cases h | skip
    unfold wE
    exact pe_negP (sE a X sc0 W _ x tk h)
  | .cmp op a b, X, sc0, W, e, x, tk, h => by
    unfold cE at h
    split at h <;> first | cases h | skip
    simp only [Bool.and_eq_true, decide_eq_true_eq, Bool.not_eq_true'] at h
    obtain ⟨⟨⟨rfl, h1⟩, h2⟩, h3⟩ := h
    unfold wE
    exact pe_cmpP (opCmp (by have := x.good.hu; omega) _) (sE a X sc0 W _ x tk h1) (sE b X sc0 W _ x tk h2) h3
  | .chain o1 o2 a b c, X, sc0, W, e, x, tk, h => by
    unfold cE at h
    split at h <;> first | cases h | skip
    simp only [Bool.and_eq_true, decide_eq_true_eq, Bool.not_eq_true'] at h
    obtain ⟨⟨⟨⟨⟨rfl, rfl⟩, h1⟩, h2⟩, h3⟩, h4⟩ := h
    unfold wE
    exact pe_chainP (by have := x.good.hu; omega) (sE a X sc0 W _ x tk h1) (sE b X sc0 W _ x tk h2) (sE c X sc0 W _ x tk h3) h4
  | .no a, X, sc0, W, e, x, tk, h => by
    unfold cE at h
    split at h <;> first | cases h | skip
    unfold wE
    exact pe_noP (sE a X sc0 W _ x tk h)
  | .and a b, X, sc0, W, e, x, tk, h => by
    unfold cE at h
    unfold wE
    split at h <;> first | cases h | skip
    · rw [Bool.and_eq_true] at h
      exact pe_andP (sE a X sc0 W _ x tk h.1) (pe_oneP (sE b X sc0 W _ x tk h.2))
    · rw [Bool.and_eq_true] at h
      exact pe_andP (sE a X sc0 W _ x tk h.1) (sE b X sc0 W _ x tk h.2)
  | .or a b, X, sc0, W, e, x, tk, h => by
    unfold cE at h
    unfold wE
    split at h <;> first | cases h | skip
    · rw [Bool.and_eq_true] at h
      exact pe_orP (sE a X sc0 W _ x tk h.1) (pe_oneP (sE b X sc0 W _ x tk h.2))
    · rw [Bool.and_eq_true] at h
      exact pe_orP (sE a X sc0 W _ x tk h.1) (sE b X sc0 W _ x tk h.2)
  | .ite c a b, X, sc0, W, e, x, tk, h => by
    unfold cE at h
    split at h <;> first | cases h | skip
    simp only [Bool.and_eq_true] at h
    unfold wE
    exact pe_iteP (sT c X sc0 W _ x tk h.1.1) (sE a X sc0 W _ x tk h.1.2) (sE b X sc0 W _ x tk h.2)
  | .tup xs, X, sc0, W, e, x, tk, h => by
    unfold cE at h
    split at h <;> first | cases h | skip
    unfold wE
    exact pe_tupP (sA xs X sc0 W _ x tk h)
  | .lst xs, X, sc0, W, e, x, tk, h => by
    unfold cE at h
    split at h <;> first | cases h | skip
    unfold wE
    exact pe_lstP (sA xs X sc0 W _ x tk h)
  | .idx a i, X, sc0, W, e, x, tk, h => by
    unfold cE at h
    split at h <;> first | cases h | skip
    simp only [Bool.and_eq_true] at h
    unfold wE
    exact pe_idxP (sE a X sc0 W _ x tk h.1.1) (sE i X sc0 W _ x tk h.1.2) (plain_ix _ h.2)
  | .sl a lo hi, X, sc0, W, e, x, tk, h => by
    unfold cE at h
    split at h <;> first | cases h | skip
    simp only [Bool.and_eq_true] at h
    unfold wE
    exact pe_slP (sE a X sc0 W _ x tk h.1.1) (sO lo X sc0 W _ x tk h.1.2) (sO hi X sc0 W _ x tk h.2)
  | .call f xs ks ys, X, sc0, W, e, x, tk, h => by
    unfold cE at h
    split at h <;> first | cases h | skip
    simp only [Bool.and_eq_true, decide_eq_true_eq] at h
    obtain ⟨⟨⟨⟨⟨⟨⟨⟨rfl, hf⟩, hg⟩, hp⟩, h1⟩, h2⟩, h3⟩, rfl⟩, h4⟩ := h
    obtain ⟨a, m1, m2, F⟩ := x.fn _ hf
    unfold wE
    rename_i es kws _
    have hA := sA xs X sc0 W _ x tk h1
    have hK := sK ys X sc0 W _ x tk h4
    cases es with
    | nil =>
      cases xs with
      | nil => exact pe_callP0 F x.good tk (gl_of hg) m1 m2 (plain_nm hp).1 hK h3
      | one a r => unfold cA at h1; cases h1
      | star a r => unfold cA at h1; cases h1
    | cons e es => exact pe_callP F x.good tk (gl_of hg) m1 m2 (plain_nm hp).1 hA hK h2 h3
  | .blt f xs, X, sc0, W, e, x, tk, h => by
    unfold cE at h
    split at h <;> first | cases h | skip
    simp only [Bool.and_eq_true, decide_eq_true_eq] at h
    obtain ⟨⟨⟨⟨rfl, hg⟩, h1⟩, h2⟩, h3⟩ := h
    obtain ⟨e0, r, rfl⟩ := args_ne h3
    unfold wE
    exact pe_bltP (bnAnyOf x.calm x.good.gd x.good.hu f) (gl_of hg) (x.bn f) (sA xs X sc0 W _ x tk h1) h2
  | .isi a t, X, sc0, W, e, x, tk, h => by
    unfold cE at h
    split at h <;> first | cases h | skip
    simp only [Bool.and_eq_true, decide_eq_true_eq] at h
    obtain ⟨⟨⟨⟨⟨rfl, hg⟩, hz⟩, hm⟩, h1⟩, h2⟩ := h
    unfold wE
    exact pe_isiP hm (gl_of hg) x.isi (gl_of hz) (x.tys _ hm) (sE a X sc0 W _ x tk h1) h2
  | .lc elt tg it ifs own, X, sc0, W, e, x, tk, h => by
    unfold cE at h
    split at h <;> first | cases h | skip
    simp only [Bool.and_eq_true] at h
    obtain ⟨⟨⟨⟨⟨⟨h1, h2⟩, h3⟩, h4⟩, h5⟩, h6⟩, h7⟩ := h
    rename_i e1 t1 i1 f1 scope p
    have hb := blkOk_by h3
    unfold wE
    refine imp_e (pe_lc (g := lowG X.K X.w (fun _ _ _ _ => False) (slotsG tg) (wG o tg)) (tt := lowT X.K X.w (fun _ _ _ _ => False) (wTs o ifs)) (te := low X.K X.w (fun _ _ _ _ => False) (wE o elt)) x.calm (by rw [x.nm]; exact x.nd) (sI it X sc0 W t1 _ x tk h1) (by rw [x.nm]; exact hb) (fun s H C cl fp => sG tg _ scope (fun _ _ _ _ => False) _ (blk_ok x hb.kind s H C cl fp) takes0 h4)
      (fun s H C cl fp => sTs ifs _ scope (fun _ _ _ _ => False) _ (blk_ok x hb.kind s H C cl fp) takes0 h5) (fun s H C cl fp => sE elt _ scope (fun _ _ _ _ => False) _ (blk_ok x hb.kind s H C cl fp) takes0 h6) (set_iter h2)) ?_
    exact low_lc (fun j hj => by simpa using List.all_eq_true.mp h7 j hj)
theorem sT : ∀ (a : T) (X : Cx) (sc0 : Scope) (W : WX) (e : Expr), XOk o fs N k sc0 X → Takes X W → cT fs N X.env.scope a e = true → PT X e (lowT X.K X.w W (wT o a))
  | .e a, X, sc0, W, e, x, tk, h => by
    unfold cT at h
    rw [Bool.and_eq_true] at h
    unfold wT
    exact pt_eP (sE a X sc0 W _ x tk h.1) fun whole => plain_test e (by unfold plainT at h; cases e <;> first | rfl | exact h.2) X.env whole
  | .cmp op a b, X, sc0, W, e, x, tk, h => by
    unfold cT at h
    split at h <;> first | cases h | skip
    simp only [Bool.and_eq_true, decide_eq_true_eq, Bool.not_eq_true'] at h
    obtain ⟨⟨⟨rfl, h1⟩, h2⟩, h3⟩ := h
    unfold wT
    exact pt_cmpP (by have := x.good.hu; omega) (sE a X sc0 W _ x tk h1) (sE b X sc0 W _ x tk h2) h3
  | .chain o1 o2 a b c, X, sc0, W, e, x, tk, h => by
    unfold cT at h
    split at h <;> first | cases h | skip
    simp only [Bool.and_eq_true, decide_eq_true_eq, Bool.not_eq_true'] at h
    obtain ⟨⟨⟨⟨⟨rfl, rfl⟩, h1⟩, h2⟩, h3⟩, h4⟩ := h
    unfold wT
    exact pt_chainP (by have := x.good.hu; omega) (sE a X sc0 W _ x tk h1) (sE b X sc0 W _ x tk h2) (sE c X sc0 W _ x tk h3) h4
  | .and a b, X, sc0, W, e, x, tk, h => by
    have q := sW (.and a b) X sc0 W e x tk (by unfold cT at h; split at h <;> first | rfl | cases h) h
    exact q.pt
  | .or a b, X, sc0, W, e, x, tk, h => by
    have q := sW (.or a b) X sc0 W e x tk (by unfold cT at h; split at h <;> first | rfl | cases h) h
    exact q.pt
  | .not a, X, sc0, W, e, x, tk, h => by
    unfold cT at h
    split at h <;> first | cases h | skip
    unfold wT
    exact pt_notP (sT a X sc0 W _ x tk h)
theorem sTs : ∀ (a : Ts) (X : Cx) (sc0 : Scope) (W : WX) (es : List Expr), XOk o fs N k sc0 X → Takes X W → cTs fs N X.env.scope a es = true → PTs X es (lowT X.K X.w W (wTs o a))
  | .nil, X, sc0, W, es, x, tk, h => by
    unfold cTs at h
    cases es with
    | cons e r => cases h
    | nil =>
      unfold wTs
      refine imp_ts pts_nil ?_
      rintro σ H Q ⟨S, σ', G, W', Q', s, t, bk⟩
      exact bk true G H Step.refl s.at_ t
  | .cons t r, X, sc0, W, es, x, tk, h => by
    unfold cTs at h
    split at h <;> first | cases h | skip
    rw [Bool.and_eq_true] at h
    cases r with
    | cons t2 r2 => have h2 := h.2; unfold cTs at h2; cases h2
    | nil =>
      unfold wTs wTs
      refine imp_ts (pts_one (sT t X sc0 W _ x tk h.1)) ?_
      rintro σ H Q ⟨S, σ', G, W', Q', s, t, bk⟩
      refine ⟨S, σ', G, W', _, s, t, fun b G1 H1 st a1 q => bk b G1 H1 st a1 ?_⟩
      cases b <;> simpa using q
theorem sA : ∀ (a : As) (X : Cx) (sc0 : Scope) (W : WX) (es : List Expr), XOk o fs N k sc0 X → Takes X W → cA fs N X.env.scope a es = true → PA X es (lowA X.K X.w W (wA o a))
  | .nil, X, sc0, W, es, x, tk, h => by
    unfold cA at h
    cases es with
    | nil => unfold wA; exact pa_nilP
    | cons e r => cases h
  | .one a r, X, sc0, W, es, x, tk, h => by
    unfold cA at h
    split at h <;> first | cases h | skip
    simp only [Bool.and_eq_true] at h
    unfold wA
    exact pa_consP (sE a X sc0 W _ x tk h.1.1) (sA r X sc0 W _ x tk h.2) (no_star _ _ X.env h.1.2)
  | .star a r, X, sc0, W, es, x, tk, h => by unfold cA at h; cases h
theorem sK : ∀ (a : As) (X : Cx) (sc0 : Scope) (W : WX) (es : List Keyword), XOk o fs N k sc0 X → Takes X W → cK fs N X.env.scope a es = true → PK X es (lowA X.K X.w W (wA o a))
  | .nil, X, sc0, W, es, x, tk, h => by
    unfold cK at h
    cases es with
    | nil => unfold wA; exact pk_nilP
    | cons e r => cases h
  | .one a r, X, sc0, W, es, x, tk, h => by
    unfold cK at h
    split at h <;> first | cases h | skip
    simp only [Bool.and_eq_true] at h
    unfold wA
    exact pk_consP (sE a X sc0 W _ x tk h.1) (sK r X sc0 W _ x tk h.2)
  | .star a r, X, sc0, W, es, x, tk, h => by unfold cK at h; cases h
theorem sO : ∀ (a : Eo) (X : Cx) (sc0 : Scope) (W : WX) (e : Option Expr), XOk o fs N k sc0 X → Takes X W → cO fs N X.env.scope a e = true → L2.PO X e (lowO X.K X.w W (wO o a))
  | .none, X, sc0, W, e, x, tk, h => by
    unfold cO at h
    cases e with
    | none => unfold wO; exact po_noneP
    | some e => cases h
  | .some a, X, sc0, W, e, x, tk, h => by
    unfold cO at h
    split at h <;> first | cases h | skip
    unfold wO
    exact po_someP (sE a X sc0 W _ x tk h)
theorem sG : ∀ (a : Tg) (X : Cx) (sc0 : Scope) (W : WX) (e : Expr), XOk o fs N k sc0 X → Takes X W → cG fs N sc0 X.env.scope a e = true → PG X e (lowG X.K X.w W (slotsG a) (wG o a))
  | .name i, X, sc0, W, e, x, tk, h => by
    unfold cG at h
    split at h <;> first | cases h | skip
    simp only [Bool.and_eq_true, decide_eq_true_eq] at h
    unfold wG slotsG
    exact pg_nameP (by rw [x.nm]; exact x.nd) (by rw [x.nm]; exact h.1) (x.tg _ h.2).1 (x.tg _ h.2).2
  | .tup ts, X, sc0, W, e, x, tk, h => by
    unfold cG at h
    split at h <;> first | cases h | skip
    simp only [Bool.and_eq_true, decide_eq_true_eq] at h
    unfold wG slotsG
    exact pg_tupP x.calm (sGs ts X sc0 W _ x tk h.1.1) h.2 h.1.2
  | .sub a i, X, sc0, W, e, x, tk, h => by
    unfold cG at h
    split at h <;> first | cases h | skip
    simp only [Bool.and_eq_true] at h
    unfold wG slotsG
    exact pg_subP h.2 (sE a X sc0 W _ x tk h.1.1) (sE i X sc0 W _ x tk h.1.2)
theorem sGs : ∀ (a : Tgs) (X : Cx) (sc0 : Scope) (W : WX) (es : List Expr), XOk o fs N k sc0 X → Takes X W → cGs fs N sc0 X.env.scope a es = true → PGs X es (lowGs X.K X.w W (slotsGs a) (wGs o a))
  | .nil, X, sc0, W, es, x, tk, h => by
    unfold cGs at h
    cases es with
    | nil => unfold wGs slotsGs; exact pgs_nilP
    | cons e r => cases h
  | .cons t r, X, sc0, W, es, x, tk, h => by
    unfold cGs at h
    split at h <;> first | cases h | skip
    simp only [Bool.and_eq_true] at h
    unfold wGs slotsGs
    exact pgs_consP h.1.2 (sG t X sc0 W _ x tk h.1.1) (sGs r X sc0 W _ x tk h.2)
theorem sI : ∀ (a : It) (X : Cx) (sc0 : Scope) (W : WX) (tg e : Expr), XOk o fs N k sc0 X → Takes X W → cI fs N X.env.scope a e = true → PI X tg e (lowI X.K X.w W (wI o a))
  | .gen a, X, sc0, W, tg, e, x, tk, h => by
    unfold cI at h
    unfold wI
    exact pi_genP (sE a X sc0 W _ x tk h)
  | .rng a, X, sc0, W, tg, e, x, tk, h => by
    unfold cI at h
    split at h <;> first | cases h | skip
    simp only [Bool.and_eq_true, decide_eq_true_eq] at h
    obtain ⟨⟨⟨rfl, hg⟩, h1⟩, h2⟩ := h
    unfold wI
    exact pi_rngP1 (gl_of hg) x.rng (sE a X sc0 W _ x tk h1) h2
  | .rng2 a b, X, sc0, W, tg, e, x, tk, h => by
    unfold cI at h
    split at h <;> first | cases h | skip
    simp only [Bool.and_eq_true, decide_eq_true_eq] at h
    obtain ⟨⟨⟨⟨⟨rfl, hg⟩, h1⟩, h2⟩, h3⟩, h4⟩ := h
    unfold wI
    exact pi_rngP2 (gl_of hg) x.rng (sE a X sc0 W _ x tk h1) (sE b X sc0 W _ x tk h2) h3 h4
theorem sW : ∀ (a : T) (X : Cx) (sc0 : Scope) (W : WX) (e : Expr), XOk o fs N k sc0 X → Takes X W → (match a, e with | .and .., .BoolOp .And _ _ => true | .or .., .BoolOp .Or _ _ => true | _, _ => false) = true → cT fs N X.env.scope a e = true → L2.PW X e (lowT X.K X.w W (wT o a))
  | .and a b, X, sc0, W, e, x, tk, hh, h => by
    unfold cT at h
    unfold wT
    split at h <;> first | cases h | skip
    · rw [Bool.and_eq_true] at h
      exact pw_andP (sT a X sc0 W _ x tk h.1) (pw_and1 (sT b X sc0 W _ x tk h.2))
    · rw [Bool.and_eq_true] at h
      exact pw_andP (sT a X sc0 W _ x tk h.1) (sW b X sc0 W _ x tk (by
        have h2 := h.2
        cases b <;> first | rfl | (unfold cT at h2; simp [plainT] at h2; done)) h.2)
  | .or a b, X, sc0, W, e, x, tk, hh, h => by
    unfold cT at h
    unfold wT
    split at h <;> first | cases h | skip
    · rw [Bool.and_eq_true] at h
      exact pw_orP (sT a X sc0 W _ x tk h.1) (pw_or1 (sT b X sc0 W _ x tk h.2))
    · rw [Bool.and_eq_true] at h
      exact pw_orP (sT a X sc0 W _ x tk h.1) (sW b X sc0 W _ x tk (by
        have h2 := h.2
        cases b <;> first | rfl | (unfold cT at h2; simp [plainT] at h2; done)) h.2)
  | .e _, _, _, _, _, _, _, hh, _ => by cases hh
  | .cmp .., _, _, _, _, _, _, hh, _ => by cases hh
  | .chain .., _, _, _, _, _, _, hh, _ => by cases hh
  | .not .., _, _, _, _, _, _, hh, _ => by cases hh
end
end
end Fv

set_option Elab.async false
set_option linter.all false
set_option maxRecDepth 100000
set_option maxHeartbeats 1000000
namespace Fv
open PySem L2
section
variable {X : Cx} {W : WX} {e tg : Expr} {pos : Pos} {te : TPE} {t u : TPS} {st : Stmt} {rest : List Stmt}
theorem low_seq : ∀ D σ H, lowS X.K X.w W (fun D σ G => t { D with nx := fun σ1 G1 => u D σ1 G1 } σ G) D σ H → tSeq (lowS X.K X.w W t) (lowS X.K X.w W u) D σ H := by
  rintro D σ H ⟨S, σ', G, D', s, q, b⟩
  refine ⟨S, σ', G, { D' with nx := fun σ1 G1 => u D' σ1 G1 }, s, q, ⟨fun τ' τ G1 H1 st a r q => ?_, b.rt, b.bk, b.ct⟩⟩
  exact ⟨S, τ', G1, D', (s.next st a).slots r, q, b.next st⟩
theorem pss_nilP : PSs X [] (lowS X.K X.w W fun D σ G => D.nx σ G) := by
  refine imp_ss pss_nil ?_
  rintro D σ H ⟨S, σ', G, D', s, q, b⟩
  exact b.nx _ _ _ _ Step.refl s.at_ s.sl q
theorem pss_consP (h1 : PS X st (lowS X.K X.w W t)) (h2 : PSs X rest (lowS X.K X.w W u)) : PSs X (st :: rest) (lowS X.K X.w W fun D σ G => t { D with nx := fun σ1 G1 => u D σ1 G1 } σ G) := imp_ss (pss_cons h1 h2) low_seq
theorem ps_exprP (he : PE X e (low X.K X.w W te)) (hs : swapsWith e none pos.line X.env = pure false) : PS X (.Expr e pos) (lowS X.K X.w W fun D σ G => te σ G (fun _ G1 => D.nx σ G1) D.ex) := by
  refine imp_s (ps_expr he hs) ?_
  rintro D σ H ⟨S, σ', G, D', s, q, b⟩
  refine low_bind s q fun x v G1 H1 st s1 r1 t1 => ?_
  exact b.nx _ _ _ _ st s1.at_ s1.sl t1
theorem ps_retP (he : PE X e (low X.K X.w W te)) : PS X (.Return (some e) pos) (lowS X.K X.w W fun D σ G => te σ G D.rt D.ex) := by
  refine imp_s (ps_ret he) ?_
  rintro D σ H ⟨S, σ', G, D', s, q, b⟩
  exact ⟨S, σ', G, D'.ex, D'.rt, s, q, b.rt⟩
theorem ps_asgP {g : TPG} {sl : List Nat} (he : PE X e (low X.K X.w W te)) (hg : PG X tg (lowG X.K X.w W sl g)) (ht : noStarE tg = true) (hs : swapsWithSole [tg] e pos.line X.env = pure false) (hw : swappedStores [tg] e X.env = pure none) :
    PS X (.Assign [tg] e pos) (lowS X.K X.w W fun D σ G => te σ G (fun x G1 => g x σ G1 D.nx D.ex) D.ex) := by
  refine imp_s (ps_asg he hg hs hw (by rw [asg_each tg [] X.env ht] <;> rfl)) ?_
  rintro D σ H ⟨S, σ', G, D', s, q, b⟩
  refine low_bind s q fun x v G1 H1 st s1 r1 t1 => ?_
  exact ⟨S, σ', G1, D'.ex, x, D'.nx, s1, r1, t1, fun τ' τ G2 H2 st2 a2 r2 _ q2 => b.nx τ' τ G2 H2 (st.trans st2) a2 r2 q2⟩
theorem ps_ifP {c : Expr} {a b : List Stmt} {tc : TPT} (hc : PT X c (lowT X.K X.w W tc)) (ha : PSs X a (lowS X.K X.w W t)) (hb : PSs X b (lowS X.K X.w W u)) :
    PS X (.If c a b pos) (lowS X.K X.w W fun D σ G => tc σ G (fun k G1 => if k = true then t D σ G1 else u D σ G1) D.ex) := by
  refine imp_s (ps_if hc ha hb) ?_
  rintro D σ H ⟨S, σ', G, D', s, q, b⟩
  refine ⟨S, σ', G, D'.ex, _, s, q, fun k G1 H1 st a q => ?_⟩
  cases k with
  | true => exact ⟨S, σ', G1, D', s.next st a, by simpa using q, b.next st⟩
  | false => exact ⟨S, σ', G1, D', s.next st a, by simpa using q, b.next st⟩
theorem ps_forP {iter : Expr} {body : List Stmt} {wi : TPI} {g : TPG} {sl : List Nat} {tb : TPS} (hp : PassesOwn (model X.prog X.w) X.A X.env X.xe) (hc : X.calm = true) (hi : PI X tg iter (lowI X.K X.w W wi)) (hg : PG X tg (lowG X.K X.w W sl g)) (hb : PSs X body (lowS X.K X.w W tb))
    (hs : ∀ x, foldedSetIterable iter X.env x = pure x) : PS X (.For tg iter body [] pos) (lowS X.K X.w W fun D σ G => wi σ G (fun xs kp G1 => forL kp g tb D xs σ G1) D.ex) := by
  refine imp_s (ps_for hp hc hi hg hb hs) ?_
  rintro D σ H ⟨S, σ', G, D', s, q, b⟩
  refine ⟨S, σ', G, D'.ex, _, s, q, fun xs kp G1 H1 J st1 a1 ok q => ?_⟩
  refine ⟨fun i m τ Hx => m = xs.length - i ∧ i ≤ xs.length ∧ ∃ τ' Gx, Step S H1 Hx ∧ At X.K X.w S Gx Hx ∧ RepS X.K X.w Hx τ' τ ∧ forL kp g tb D' (xs.drop i) τ' Gx, ⟨xs.length, by simp, Nat.zero_le _, σ', G1, Step.refl, a1, s.sl.mono st1.toStay, q⟩, ?_⟩
  rintro i m τ Hx ⟨rfl, hi, τ', Gx, stx, ax, rx, qx⟩
  by_cases hlt : i < xs.length
  · have ed : xs.drop i = xs[i] :: xs.drop (i + 1) := List.drop_eq_getElem_cons hlt
    rw [ed] at qx
    obtain ⟨kk, qx⟩ := qx
    obtain ⟨go, yl⟩ := (ok _ Gx Hx stx.toStay ax kk i).1 hlt
    refine .inr ⟨go, fun τ Hy => ∃ τ' Gy, Step S H1 Hy ∧ At X.K X.w S Gy Hy ∧ RepS X.K X.w Hy τ' τ ∧ forL kp g tb D' (xs.drop (i + 1)) τ' Gy, fun τ Hy h => ⟨xs.length - (i + 1), by omega, rfl, hlt, h⟩, fun x H' hy => ?_⟩
    obtain ⟨y, ey, sty, ay, ry⟩ := yl x H' hy
    have : y = xs[i] := by rw [List.getElem?_eq_getElem hlt] at ey; exact (Option.some.inj ey).symm
    subst this
    have sz := (st1.trans stx).trans sty
    have si := (s.next sz ay).slots (rx.mono sty.toStay)
    refine ⟨S, τ', Gx, D'.ex, _, _, si, ry, qx, fun ρ' ρ G2 H2 st2 a2 r2 _ q2 => ?_⟩
    have ba := b.next (sz.trans st2)
    refine ⟨S, ρ', G2, { D' with nx := fun σ3 G3 => ∃ G4, Sub G4 G3 ∧ forL kp g tb D' (xs.drop (i + 1)) σ3 G4, ct := fun σ3 G3 => ∃ G4, Sub G4 G3 ∧ forL kp g tb D' (xs.drop (i + 1)) σ3 G4, bk := D'.nx }, ⟨a2, r2, (si.next st2 a2).wx⟩, q2, ⟨fun κ' κ G3 H3 st3 a3 r3 q3 => ?_, ba.rt, ba.nx, fun κ' κ G3 H3 st3 a3 r3 q3 => ?_⟩⟩
    · obtain ⟨G4, sb, q3⟩ := q3
      exact ⟨κ', G4, stx.trans (sty.trans (st2.trans st3)), a3.sub sb, r3, q3⟩
    · obtain ⟨G4, sb, q3⟩ := q3
      exact ⟨κ', G4, stx.trans (sty.trans (st2.trans st3)), a3.sub sb, r3, q3⟩
  · have e : i = xs.length := by omega
    subst e
    rw [List.drop_length] at qx
    obtain ⟨kk, qx⟩ := qx
    exact .inl ⟨(ok _ Gx Hx stx.toStay ax kk _).2 (Nat.le_refl _), b.nx τ' τ Gx Hx (st1.trans stx) ax rx qx⟩
end
theorem swaps_no {e : Expr} {tg : Option Expr} {n : Nat} {env : Env} (h : noComp e = true) : swapsWith e tg n env = pure false := by
  cases e <;> first | rfl | cases h
theorem plain_sole {tg e : Expr} {n : Nat} {env : Env} {sc : Scope} (h : plainAsg sc tg e = true) : swapsWithSole [tg] e n env = pure false := by
  unfold plainAsg at h
  rw [Bool.and_eq_true, Bool.or_eq_true] at h
  rcases h.1 with h1 | h1
  · exact swaps_no h1
  · show swapsWith e (some tg) n env = _
    cases tg <;> first | cases h1 | skip
    all_goals (cases e <;> rfl)
theorem filt_lt {α β : Type} {f : α → Option β} {p : α → Bool} (hp : ∀ x, p x = true → f x = none) : ∀ {l : List α}, l.any p = true → (l.filterMap f).length < l.length
  | [], h => by cases h
  | x :: xs, h => by
    rw [List.any_cons, Bool.or_eq_true] at h
    have hle : (xs.filterMap f).length ≤ xs.length := List.length_filterMap_le f xs
    rcases h with h | h
    · rw [List.filterMap_cons_none (hp x h), List.length_cons]; omega
    · have := filt_lt hp h
      rw [List.length_cons]
      cases e : f x with
      | none => rw [List.filterMap_cons_none e]; omega
      | some y => rw [List.filterMap_cons_some e, List.length_cons]; omega
theorem plain_stores {tg e : Expr} {env : Env} (h : plainAsg env.scope tg e = true) : swappedStores [tg] e env = pure none := by
  unfold plainAsg at h
  rw [Bool.and_eq_true] at h
  have h2 := h.2
  unfold swappedStores
  cases tg <;> first | rfl | (simp at h2; done) | skip
  rename_i ts k p
  cases e <;> first | rfl | skip
  rename_i vs k2 p2
  simp only [Bool.or_eq_true, Bool.and_eq_true, bne_iff_ne] at h2
  rcases h2 with h2 | h2
  · have h3 : (!(ts.length == 2 || ts.length == 3)) = true := by simp [h2.1, h2.2]
    simp [h3]
  · dsimp only
    split
    · rfl
    · split
      · rfl
      · rw [if_pos ?_]
        rw [Bool.or_eq_true]
        left
        rw [bne_iff_ne]
        refine Nat.ne_of_lt (filt_lt (p := notLoc env.scope) (fun t ht => ?_) h2)
        cases t <;> first | rfl | skip
        rename_i x px
        simp only [notLoc, Bool.not_eq_true'] at ht
        simp [Env.kindOf, ht]
theorem g_noStar {fs N : List Str} {sc0 sc : Scope} {t : Tg} {e : Expr} (h : cG fs N sc0 sc t e = true) : noStarE e = true := by
  cases t <;> (unfold cG at h; split at h <;> first | rfl | cases h)
theorem anyStar {l : List Expr} (h : l.all noStarE = true) : (l.any fun x => match x with | .Starred .. => true | _ => false) = false := by
  rw [List.any_eq_false]
  intro x hx
  have := List.all_eq_true.1 h x hx
  cases x <;> first | (intro z; cases z; done) | (exact absurd this (by intro z; cases z))
theorem loc_eq : (some NameKind.local == some NameKind.local) = true := rfl
theorem par2 {x y : Str} {px py pt pt2 : Pos} {kt k2 : Nat} {a b : Expr} {env : Env} (hk : env.scope.kind = .function) (hx : env.scope.names.lookup x = some .local) (hy : env.scope.names.lookup y = some .local) (hl : (py.line == px.line) = true) (hd : ([x, y] : List Str).eraseDups.length = 2)
    (h1 : [a, b].all (foldedForSure 8) = false) (h2 : [a, b].all (constantsAlone 8) = false) (h3 : [a, b].all noStarE = true) : swappedStores [.Tuple [.Name x px, .Name y py] kt pt] (.Tuple [a, b] k2 pt2) env = pure (some [x, y]) := by
  have hb : env.blockKind = .function := by unfold Env.blockKind; rw [hk]; rfl
  have e1 := anyStar h3
  have hp : (px.line == px.line) = true := by simp
  unfold swappedStores
  simp only [List.length_cons, List.length_nil, hb, List.filterMap_cons, List.filterMap_nil, Env.kindOf, hx, hy, List.head?_cons, Option.map_some, Option.getD_some, Expr.pos, hl, hp, loc_eq, Bool.and_self, if_true, h1, h2, hd]
  rw [if_neg (by decide)]
  split
  · rename_i h; exact absurd (h.symm.trans e1) (by decide)
  · rw [if_neg (by decide), if_neg (by decide)]
    rfl
theorem par3 {x y z : Str} {px py pz pt pt2 : Pos} {kt k2 : Nat} {a b c : Expr} {env : Env} (hk : env.scope.kind = .function) (hx : env.scope.names.lookup x = some .local) (hy : env.scope.names.lookup y = some .local) (hz : env.scope.names.lookup z = some .local) (hl : (py.line == px.line) = true) (hm : (pz.line == px.line) = true) (hd : ([x, y, z] : List Str).eraseDups.length = 3)
    (h1 : [a, b, c].all (foldedForSure 8) = false) (h2 : [a, b, c].all (constantsAlone 8) = false) (h3 : [a, b, c].all noStarE = true) : swappedStores [.Tuple [.Name x px, .Name y py, .Name z pz] kt pt] (.Tuple [a, b, c] k2 pt2) env = pure (some [x, y, z]) := by
  have hb : env.blockKind = .function := by unfold Env.blockKind; rw [hk]; rfl
  have e1 := anyStar h3
  have hp : (px.line == px.line) = true := by simp
  unfold swappedStores
  simp only [List.length_cons, List.length_nil, hb, List.filterMap_cons, List.filterMap_nil, Env.kindOf, hx, hy, hz, List.head?_cons, Option.map_some, Option.getD_some, Expr.pos, hl, hp, hm, loc_eq, Bool.and_self, if_true, h1, h2, hd]
  rw [if_neg (by decide)]
  split
  · rename_i h; exact absurd (h.symm.trans e1) (by decide)
  · rw [if_neg (by decide), if_neg (by decide)]
    rfl
section
variable {o : Orc} {fs N : List Str} {k : Nat}
mutual
theorem sS : ∀ (a : S) (X : Cx) (W : WX) (st : Stmt), XOk o fs N k X.env.scope X → PassesOwn (model X.prog X.w) X.A X.env X.xe → Takes X W → cS fs N X.env.scope a st = true → PS X st (lowS X.K X.w W (wS o a))
  | .doc, X, W, st, x, po, tk, h => by
    unfold cS at h
    split at h <;> first | cases h | skip
    unfold wS
    refine imp_s ps_doc ?_
    rintro D σ H ⟨S, σ', G, D', s, q, b⟩
    exact b.nx _ _ _ _ Step.refl s.at_ s.sl q
  | .expr a, X, W, st, x, po, tk, h => by
    unfold cS at h
    split at h <;> first | cases h | skip
    rw [Bool.and_eq_true] at h
    unfold wS
    exact ps_exprP (sE a X _ W _ x tk h.1) (swaps_no h.2)
  | .asg t a, X, W, st, x, po, tk, h => by
    unfold cS at h
    split at h <;> first | cases h | skip
    simp only [Bool.and_eq_true] at h
    unfold wS
    exact ps_asgP (sE a X _ W _ x tk h.1.2) (sG t X _ W _ x tk h.1.1) (g_noStar h.1.1) (plain_sole h.2) (plain_stores h.2)
  | .asgL i a, X, W, st, x, po, tk, h => by
    unfold cS at h
    split at h <;> first | cases h | skip
    split at h <;> first | cases h | skip
    rename_i y py e1 gs scope p sp _ elt tg it ifs own
    simp only [Bool.and_eq_true, decide_eq_true_eq, Bool.not_eq_true'] at h
    obtain ⟨⟨⟨⟨h1, h2⟩, h3⟩, h4⟩, h5⟩ := h
    unfold cE at h1
    split at h1 <;> first | cases h1 | skip
    rename_i e2 t1 i1 f1 scope2 p2 heq
    cases heq
    simp only [Bool.and_eq_true] at h1
    obtain ⟨⟨⟨⟨⟨⟨g1, g2⟩, g3⟩, g4⟩, g5⟩, g6⟩, g7⟩ := h1
    have hb := blkOk_by g3
    unfold wS wE
    refine imp_s (ps_setLc (g := lowG X.K X.w (fun _ _ _ _ => False) (slotsG tg) (wG o tg)) (tt := lowT X.K X.w (fun _ _ _ _ => False) (wTs o ifs)) (te := low X.K X.w (fun _ _ _ _ => False) (wE o elt)) x.calm (by rw [x.nm]; exact x.nd)
      (by rw [x.nm]; exact h2) h3 (sw_true x.kd h3 h4 h5) (sI it X _ W t1 _ x tk g1) (by rw [x.nm]; exact hb) (fun s H C cl fp => sG tg _ scope (fun _ _ _ _ => False) _ (blk_ok x hb.kind s H C cl fp) takes0 g4)
      (fun s H C cl fp => sTs ifs _ scope (fun _ _ _ _ => False) _ (blk_ok x hb.kind s H C cl fp) takes0 g5) (fun s H C cl fp => sE elt _ scope (fun _ _ _ _ => False) _ (blk_ok x hb.kind s H C cl fp) takes0 g6) (set_iter g2)) ?_
    rintro D σ H ⟨S, σ', G, D', s, q, b⟩
    refine low_lc (fun j hj => by simpa using List.all_eq_true.mp g7 j hj) σ H _ ⟨S, σ', G, D'.ex, fun v G1 => D'.nx (σ'.set i (some v)) G1, s, q, fun v u G1 H1 st a r q => ?_⟩
    exact b.nx _ _ _ _ st a ((s.sl.mono st.toStay).set i r) q
  | .par is xs, X, W, st, x, po, tk, h => by
    unfold cS at h
    split at h <;> first | cases h | skip
    rename_i ts k1 p1 es k2 p2 p3
    rw [Bool.and_eq_true] at h
    obtain ⟨hp, ha⟩ := h
    have hA := sA xs X _ W _ x tk ha
    unfold wS
    unfold parB at hp
    split at hp
    · rename_i i j y1 q1 y2 q2 a b
      simp only [Bool.and_eq_true, decide_eq_true_eq, Bool.not_eq_true'] at hp
      obtain ⟨⟨⟨⟨⟨⟨⟨⟨⟨⟨h1, h2⟩, h3⟩, h4⟩, h5⟩, h6⟩, h7⟩, h8⟩, h9⟩, ha1⟩, ha2⟩ := hp
      refine imp_s (ps_par x.calm (by rw [x.nm]; exact x.nd) (by rw [x.nm]; exact h1) (by rw [x.nm]; exact h2) h3 h4 h5 hA (par2 x.kd h4 h5 h6 h7 h8 h9 (by simp [ha1, ha2]))) ?_
      rintro D σ H ⟨S, σ', G, D', s, q, b⟩
      refine ⟨S, σ', G, D'.ex, _, s, q, fun xs vs G1 H1 st a r q => ?_⟩
      obtain ⟨ql, qn⟩ := q
      match xs, ql with
      | [u1, u2], _ =>
        obtain ⟨v1, r1, rfl, e1, v2, r2, rfl, e2, rfl⟩ := r
        exact ⟨v1, v2, rfl, b.nx _ _ _ _ st a (((s.sl.mono st.toStay).set i e1).set j e2) qn⟩
    · rename_i i j l y1 q1 y2 q2 y3 q3 a b c
      simp only [Bool.and_eq_true, decide_eq_true_eq, Bool.not_eq_true'] at hp
      obtain ⟨⟨⟨⟨⟨⟨⟨⟨⟨⟨⟨⟨⟨⟨⟨⟨h1, h2⟩, h2b⟩, h3⟩, h3b⟩, h3c⟩, h4⟩, h5⟩, h5b⟩, h6⟩, h6b⟩, h7⟩, h8⟩, h9⟩, ha1⟩, ha2⟩, ha3⟩ := hp
      refine imp_s (ps_par3 x.calm (by rw [x.nm]; exact x.nd) (by rw [x.nm]; exact h1) (by rw [x.nm]; exact h2) (by rw [x.nm]; exact h2b) h3 h3b h3c h4 h5 h5b hA (par3 x.kd h4 h5 h5b h6 h6b h7 h8 h9 (by simp [ha1, ha2, ha3]))) ?_
      rintro D σ H ⟨S, σ', G, D', s, q, b⟩
      refine ⟨S, σ', G, D'.ex, _, s, q, fun xs vs G1 H1 st a r q => ?_⟩
      obtain ⟨ql, qn⟩ := q
      match xs, ql with
      | [u1, u2, u3], _ =>
        obtain ⟨v1, r1, rfl, e1, v2, r2, rfl, e2, v3, r3, rfl, e3, rfl⟩ := r
        exact ⟨v1, v2, v3, rfl, b.nx _ _ _ _ st a ((((s.sl.mono st.toStay).set i e1).set j e2).set l e3) qn⟩
    · cases hp
  | .ret a, X, W, st, x, po, tk, h => by
    unfold cS at h
    split at h <;> first | cases h | skip
    unfold wS
    exact ps_retP (sE a X _ W _ x tk h)
  | .retN, X, W, st, x, po, tk, h => by
    unfold cS at h
    split at h <;> first | cases h | skip
    unfold wS
    refine imp_s ps_retN ?_
    rintro D σ H ⟨S, σ', G, D', s, q, b⟩
    exact b.rt .non .non _ _ Step.refl s.at_ rfl q
  | .ifs c a b, X, W, st, x, po, tk, h => by
    unfold cS at h
    split at h <;> first | cases h | skip
    simp only [Bool.and_eq_true] at h
    unfold wS
    exact ps_ifP (sT c X _ W _ x tk h.1.1) (sSs a X W _ x po tk h.1.2) (sSs b X W _ x po tk h.2)
  | .for_ t it b, X, W, st, x, po, tk, h => by
    unfold cS at h
    split at h <;> first | cases h | skip
    simp only [Bool.and_eq_true] at h
    unfold wS
    exact ps_forP po x.calm (sI it X _ W _ _ x tk h.1.1.2) (sG t X _ W _ x tk h.1.1.1) (sSs b X W _ x po tk h.2) (set_iter h.1.2)
  | .brk, X, W, st, x, po, tk, h => by
    unfold cS at h
    split at h <;> first | cases h | skip
    unfold wS
    refine imp_s ps_break ?_
    rintro D σ H ⟨S, σ', G, D', s, q, b⟩
    exact b.bk _ _ _ _ Step.refl s.at_ s.sl q
  | .cnt, X, W, st, x, po, tk, h => by
    unfold cS at h
    split at h <;> first | cases h | skip
    unfold wS
    refine imp_s ps_continue ?_
    rintro D σ H ⟨S, σ', G, D', s, q, b⟩
    exact b.ct _ _ _ _ Step.refl s.at_ s.sl q
  | .pass, X, W, st, x, po, tk, h => by
    unfold cS at h
    split at h <;> first | cases h | skip
    unfold wS
    refine imp_s ps_pass ?_
    rintro D σ H ⟨S, σ', G, D', s, q, b⟩
    exact b.nx _ _ _ _ Step.refl s.at_ s.sl q
theorem sSs : ∀ (a : Ss) (X : Cx) (W : WX) (sts : List Stmt), XOk o fs N k X.env.scope X → PassesOwn (model X.prog X.w) X.A X.env X.xe → Takes X W → cSs fs N X.env.scope a sts = true → PSs X sts (lowS X.K X.w W (wSs o a))
  | .nil, X, W, sts, x, po, tk, h => by
    unfold cSs at h
    cases sts with
    | cons s r => cases h
    | nil => unfold wSs; exact pss_nilP
  | .cons s r, X, W, sts, x, po, tk, h => by
    unfold cSs at h
    split at h <;> first | cases h | skip
    rw [Bool.and_eq_true] at h
    unfold wSs
    exact pss_consP (sS s X W _ x po tk h.1) (sSs r X W _ x po tk h.2)
end
end
end Fv

set_option Elab.async false
set_option linter.all false
set_option maxRecDepth 100000
set_option maxHeartbeats 1000000
namespace Fv
open PySem L2
theorem forIn_yield {σ α : Type} (g : σ → α → σ) (ok : σ → List α → Prop) (body : α → σ → Sem (ForInStep σ)) (hb : ∀ x r st, ok st (x :: r) → body x st = pure (.yield (g st x)) ∧ ok (g st x) r) :
    ∀ (l : List α) (st : σ), ok st l → (forIn l st body : Sem σ) = pure (l.foldl g st)
  | [], st, _ => by rw [List.forIn_nil]; rfl
  | x :: r, st, h => by
    obtain ⟨h1, h2⟩ := hb x r st h
    rw [List.forIn_cons, h1]
    exact forIn_yield g ok body hb r (g st x) h2
theorem foldl_snoc {α β : Type} : ∀ (l : List α) (a : List α) (b : β), l.foldl (fun (st : List α × β) x => (st.1 ++ [x], st.2)) (a, b) = (a ++ l, b)
  | [], a, b => by simp
  | x :: l, a, b => by rw [List.foldl_cons, foldl_snoc l]; simp
/-- names that are not there yet are put behind -/
def putNew (st : List (Str × Value)) (q : Str × Value) : List (Str × Value) := if (st.lookup q.1).isNone = true then st ++ [q] else st
theorem lookup_app {α : Type} (n : Str) : ∀ (a b : List (Str × α)), (a ++ b).lookup n = ((a.lookup n).or (b.lookup n))
  | [], b => by simp
  | (m, v) :: a, b => by
    rw [List.cons_append, List.lookup_cons, List.lookup_cons]
    cases n == m with
    | true => rfl
    | false => exact lookup_app n a b
theorem lookup_putNew (n : Str) : ∀ (l st : List (Str × Value)), (l.foldl putNew st).lookup n = (st ++ l).lookup n
  | [], st => by simp
  | q :: l, st => by
    rw [List.foldl_cons, lookup_putNew n l, lookup_app, lookup_app, List.lookup_cons]
    unfold putNew
    split
    · rename_i h
      rw [lookup_app, List.lookup_cons]
      cases st.lookup n <;> cases hq : n == q.1 <;> simp
    · rename_i h
      cases e : st.lookup n with
      | some v => simp
      | none =>
        cases hq : n == q.1 with
        | false => simp
        | true =>
          have : n = q.1 := by simpa using hq
          rw [← this, e] at h
          simp at h
theorem lookup_none_of {α : Type} {n : Str} : ∀ {l : List (Str × α)}, n ∉ l.map (·.1) → l.lookup n = none
  | [], _ => rfl
  | (m, v) :: l, h => by
    rw [List.lookup_cons]
    have h1 : ¬ n = m := fun e => h (by simp [e])
    have h2 : n ∉ l.map (·.1) := fun e => h (by simp only [List.map_cons, List.mem_cons]; exact .inr e)
    have : (n == m) = false := by simpa using h1
    rw [this]
    exact lookup_none_of h2
section
variable {M : Model} {A : Around} {E : Value → Shared → Prop} {s : Shared} {fd : FuncData} {us : List Value} {kw : List (Str × Value)} {Q : List (Str × Value) → Shared → Prop}
theorem ko_run {kds : List (Str × Value)} (body : Str → List (Str × Value) × List Str → Sem (ForInStep (List (Str × Value) × List Str)))
    (hb : ∀ n st m, (st.lookup n).isNone = false → body n (st, m) = pure (.yield (st, m)))
    (hn : ∀ n st m (R : ForInStep (List (Str × Value) × List Str) → Shared → Prop), (st.lookup n).isNone = true → (∃ v, kds.lookup n = some v ∧ R (.yield (st ++ [(n, v)], m)) s) → wpAny M A (body n (st, m)) R E s) :
    ∀ (ko : List Str) (st : List (Str × Value)) (R : List (Str × Value) × List Str → Shared → Prop), (∀ n ∈ ko, (st.lookup n).isNone = true → ∃ v, kds.lookup n = some v) →
      R ((ko.filterMap fun n => (kds.lookup n).map (n, ·)).foldl putNew st, []) s → wpAny M A (forIn ko (st, []) body) R E s
  | [], st, R, _, h => by rw [List.forIn_nil]; exact wpAny_pure h
  | n :: ko, st, R, hk, h => by
    rw [List.forIn_cons]
    cases hz : (st.lookup n).isNone with
    | false =>
      rw [hb n st [] hz]
      refine wpAny_bind (wpAny_pure ?_)
      refine ko_run body hb hn ko st R (fun n hm => hk n (List.mem_cons_of_mem _ hm)) ?_
      rw [List.filterMap_cons] at h
      cases e : kds.lookup n with
      | none => rw [e] at h; exact h
      | some v =>
        rw [e] at h
        simp only [Option.map_some, List.foldl_cons] at h
        have : putNew st (n, v) = st := by unfold putNew; rw [if_neg (by rw [hz]; exact Bool.false_ne_true)]
        rw [this] at h
        exact h
    | true =>
      obtain ⟨v, e⟩ := hk n List.mem_cons_self hz
      refine wpAny_bind (hn n st [] _ hz ⟨v, e, ?_⟩)
      have e2 : putNew st (n, v) = st ++ [(n, v)] := by unfold putNew; rw [if_pos hz]
      rw [List.filterMap_cons, e] at h
      simp only [Option.map_some, List.foldl_cons, e2] at h
      refine ko_run body hb hn ko (st ++ [(n, v)]) R (fun m hm hz2 => hk m (List.mem_cons_of_mem _ hm) ?_) h
      rw [lookup_app] at hz2
      cases e3 : st.lookup m with
      | none => rfl
      | some w => rw [e3] at hz2; simp at hz2
theorem bind_run (pos ko : List Str) (hpo : fd.params.posonlyargs = []) (hkw : fd.params.kwarg = none) (epos : fd.params.args.map (·.arg) = pos) (eko : fd.params.kwonlyargs.map (·.arg) = ko)
    (c1 : ∀ q ∈ kw, q.1 ∈ pos ∨ q.1 ∈ ko) (c2 : (kw.map (·.1)).Nodup) (c3 : ∀ q ∈ kw, (pos.zip us).lookup q.1 = none) (c4 : us.length ≤ pos.length ∨ fd.params.vararg.isSome = true)
    (dopt : Option (Array Value)) (ds : List Value) (eds : (dopt.getD #[]).toList = ds) (hds : ds.length ≤ pos.length)
    (hD : ∀ {α : Type} (k : Option (Array Value) → Sem α) (Q : α → Shared → Prop), wpAny M A (k dopt) Q E s → wpAny M A (seqItems? fd.defaults >>= k) Q E s)
    (c5 : ∀ n ∈ pos.take (pos.length - ds.length), ((pos.zip us ++ kw).lookup n).isSome = true)
    (kds : List (Str × Value)) (hK : ∀ n ∈ ko, ((pos.zip us ++ kw ++ ((pos.drop (pos.length - ds.length)).zip ds)).lookup n).isNone = true → ∃ v, kds.lookup n = some v)
    (hK2 : ∀ n v, kds.lookup n = some v → ∃ d : Addr, fd.kwdefaults = .ref d ∧ ∀ (Q : Option Value → Shared → Prop), Q (some v) s → wpAny M A (nsGet d n) Q E s)
    (fin : ∀ binds, binds = ((pos ++ ko).filterMap fun n => ((pos.zip us ++ kw ++ ((pos.drop (pos.length - ds.length)).zip ds) ++ (ko.filterMap fun n => (kds.lookup n).map (n, ·))).lookup n).map (n, ·)) →
      match fd.params.vararg with
      | none => Q binds s
      | some a => wpAny M A (newTuple (us.drop pos.length)) (fun t s' => Q (binds ++ [(a.arg, t)]) s') E s) : wpAny M A (bindArgs fd ⟨us, kw⟩) Q E s := by
  have hkk : ∀ n ∈ ko, (((((pos.drop (pos.length - ds.length)).zip ds).foldl putNew (pos.zip us ++ kw)).lookup n).isNone = true) → ∃ v, kds.lookup n = some v := fun n hn hz => hK n hn (by rw [lookup_putNew] at hz; exact hz)
  unfold bindArgs
  simp only [hpo, hkw, epos, eko, List.map_nil, List.nil_append, Option.isSome_none, Bool.false_eq_true, if_false]
  rw [forIn_yield (g := fun (st : List (Str × Value) × List (Str × Value)) x => (st.1 ++ [x], st.2)) (ok := fun st r => (∀ q ∈ r, q.1 ∈ pos ∨ q.1 ∈ ko) ∧ (r.map (·.1)).Nodup ∧ ∀ q ∈ r, st.1.lookup q.1 = none)]
  · refine wpAny_bind (wpAny_pure ?_)
    refine hD _ _ ?_
    rw [foldl_snoc]
    simp only [eds]
    have e0 : ds.length - pos.length = 0 := by omega
    rw [e0, List.drop_zero]
    have e1 : (decide (us.length > pos.length) && fd.params.vararg.isNone) = false := by
      rcases c4 with h | h
      · have : decide (us.length > pos.length) = false := decide_eq_false (by omega)
        rw [this]; rfl
      · rw [show fd.params.vararg.isNone = false by cases e : fd.params.vararg with | none => rw [e] at h; cases h | some a => rfl, Bool.and_false]
    have e2 : (List.filter (fun n => (List.lookup n (pos.zip us ++ kw)).isNone) (List.take (pos.length - ds.length) pos)) = [] := by
      rw [List.filter_eq_nil_iff]
      intro n hn
      have := c5 n hn
      cases h : List.lookup n (pos.zip us ++ kw) with
      | none => rw [h] at this; cases this
      | some v => simp
    rw [e1, e2]
    simp only [Bool.false_eq_true, if_false, List.isEmpty_nil, Bool.not_true]
    rw [forIn_yield (g := putNew) (ok := fun _ _ => True)]
    · refine wpAny_bind (wpAny_pure ?_)
      refine wpAny_bind (ko_run (kds := kds) _ (fun n st m h => ?_) (fun n st m R h hv => ?_) ko _ _ hkk ?_)
      · simp only [h, Bool.false_eq_true, if_false]
      · obtain ⟨v, hv1, hv2⟩ := hv
        obtain ⟨d, h1, h2⟩ := hK2 n v hv1
        simp only [h, if_true, h1]
        exact wpAny_bind (h2 _ (wpAny_pure hv2))
      · simp only [List.isEmpty_nil, Bool.not_true, Bool.false_eq_true, if_false]
        have fe : ((pos ++ ko).filterMap fun n => (List.lookup n ((ko.filterMap fun n => (kds.lookup n).map (n, ·)).foldl putNew (((pos.drop (pos.length - ds.length)).zip ds).foldl putNew (pos.zip us ++ kw)))).map fun x => (n, x)) =
            ((pos ++ ko).filterMap fun n => ((pos.zip us ++ kw ++ ((pos.drop (pos.length - ds.length)).zip ds) ++ (ko.filterMap fun n => (kds.lookup n).map (n, ·))).lookup n).map (n, ·)) := by
          congr 1
          funext n
          rw [lookup_putNew, lookup_app, lookup_putNew, ← lookup_app]
        have f := fin _ fe
        cases hv : fd.params.vararg with
        | none =>
          rw [hv] at f
          exact wpAny_pure f
        | some a =>
          rw [hv] at f
          exact wpAny_bind (thn f fun t s' q => wpAny_pure q)
    · intro x r st _
      refine ⟨?_, trivial⟩
      unfold putNew
      split <;> rfl
    · trivial
  · rintro x r st ⟨h1, h2, h3⟩
    have hx : (pos.contains x.1 || ko.contains x.1) = true := by
      rcases h1 x List.mem_cons_self with h | h <;> simp [h]
    have hl : (List.lookup x.1 st.1).isSome = false := by rw [h3 x List.mem_cons_self]; rfl
    refine ⟨by simp only [hx, if_true, hl, Bool.false_eq_true, if_false], fun q hq => h1 q (List.mem_cons_of_mem _ hq), ?_, fun q hq => ?_⟩
    · rw [List.map_cons, List.nodup_cons] at h2
      exact h2.2
    · rw [List.map_cons, List.nodup_cons] at h2
      rw [lookup_app, h3 q (List.mem_cons_of_mem _ hq), List.lookup_cons]
      have hne : q.1 ≠ x.1 := fun e => h2.1 (by rw [← e]; exact List.mem_map_of_mem hq)
      have : (q.1 == x.1) = false := by simpa using hne
      rw [this]
      rfl
  · exact ⟨c1, c2, c3⟩
end
end Fv

set_option Elab.async false
set_option linter.all false
set_option maxRecDepth 100000
set_option maxHeartbeats 1000000
namespace Fv
open PySem L2
structure FDef where
  pos : List Str
  ko : List Str := []
  va : Option Str := none
  N : List Str
  body : Ss
  dfl : List PV := []
  kdf : List (Str × PV) := []
def FDef.ps (d : FDef) : List Str := d.pos ++ d.ko ++ d.va.toList
def tblG {α : Type} (pos ko : List Str) (dfl : List α) (kdf : List (Str × α)) (xs : List α) (kws : List (Str × α)) : List (Str × α) :=
  pos.zip xs ++ kws ++ (pos.drop (pos.length - dfl.length)).zip dfl ++ ko.filterMap fun n => (kdf.lookup n).map (n, ·)
def lookAll {α : Type} (tbl : List (Str × α)) : List Str → Option (List α)
  | [] => some []
  | n :: ns => match tbl.lookup n, lookAll tbl ns with
    | some v, some vs => some (v :: vs)
    | _, _ => none
def nodupB : List Str → Bool
  | [] => true
  | x :: xs => !xs.contains x && nodupB xs
def FDef.fits (d : FDef) (xs : List PV) (kws : List (Str × PV)) : Bool :=
  (kws.all fun q => (d.pos.contains q.1 || d.ko.contains q.1) && ((d.pos.zip xs).lookup q.1).isNone) && nodupB (kws.map (·.1)) && (decide (xs.length ≤ d.pos.length) || d.va.isSome) && decide (xs.length ≤ 1000) && decide (d.dfl.length ≤ d.pos.length)
    && ((d.pos.take (d.pos.length - d.dfl.length)).all fun n => ((d.pos.zip xs ++ kws).lookup n).isSome)
def FDef.args (d : FDef) (xs : List PV) (kws : List (Str × PV)) : Option (List PV) :=
  if d.fits xs kws = true then (lookAll (tblG d.pos d.ko d.dfl d.kdf xs kws) (d.pos ++ d.ko)).map fun vs => match d.va with
    | none => vs
    | some _ => vs ++ [.tup (xs.drop d.pos.length)]
  else none
def startP (N : List Str) (vs : List PV) : PSt := vs.map some ++ List.replicate (N.length - vs.length) none
/-- the end of a call: what is not wanted is forgotten -/
def endP (Q : VP) (P : PC) : PD := { nx := fun _ G1 => ∃ G2, Sub G2 G1 ∧ Q .non G2, rt := fun v G1 => ∃ G2, Sub G2 G1 ∧ Q v G2, bk := fun _ _ => False, ct := fun _ _ => False, ex := fun c fs _ G1 => ∃ G2, Sub G2 G1 ∧ P c fs G2 }
/-- what the defs do, calls nested at most so deep -/
def run (Γ : Str → Option FDef) (gl : Str → Option PV) : Nat → Orc
  | 0 => ⟨fun _ _ _ _ _ _ => False, gl⟩
  | k + 1 => ⟨fun f xs kws G Q P => match Γ f with
      | none => False
      | some d => match d.args xs kws with
        | none => False
        | some vs => wSs (run Γ gl k) d.body (endP Q P) (startP d.N vs) G, gl⟩
section
variable (K : PySem.W.Frag) (w : World)
def DflOk (dV : Value) (dfl : List PV) : Prop := (dfl = [] ∧ dV = .none) ∨ ∃ (T : Addr) (o : Obj) (its : List Value) (n : Nat) (vs : List V), dV = .ref T ∧ K.lookup T = some o ∧ o.data = .seq its.toArray n ∧ Vals vs its ∧ ∀ H, RepL K w H dfl vs
def KwdOk (kV : Value) (kdf : List (Str × PV)) : Prop := ∀ q ∈ kdf, ∃ (D : Addr) (u : Value) (v : V), kV = .ref D ∧ PySem.W.nsIn K D q.1 = some (some u) ∧ RelV v u ∧ ∀ H, RepV K w H q.2 v
/-- the def d stands at a -/
structure DefOk (fs : List Str) (d : FDef) (a : Addr) : Prop where
  ex : ∃ (oc dV kV doc pm cdv ct : Value) (od an : Option Addr) (osl : Array (Option Value)) (name qual : Str) (params : Arguments) (body : List Stmt) (scope : Scope),
    K.lookup a = some ⟨oc, od, .func (PySem.W.fnOf name qual params body scope dV kV doc pm an cdv ct), osl⟩ ∧ PySem.W.codeIn K cdv qual = true ∧ params.posonlyargs = [] ∧ params.kwarg = none ∧ params.args.map (·.arg) = d.pos ∧ params.kwonlyargs.map (·.arg) = d.ko ∧
      params.vararg.map (·.arg) = d.va ∧ FnScope d.N d.ps scope ∧ cSs fs d.N scope d.body body = true ∧ DflOk K w dV d.dfl ∧ KwdOk K w kV d.kdf
  kp : PySem.W.keepIn K (.ref a) = true
structure ModOk (fs : List Str) (Γ : Str → Option FDef) (gl : Str → Option PV) (mg : Str → Option Value) : Prop where
  bn : ∀ b : Bn, mg b.name = none
  isi : mg "isinstance" = none
  rng : mg "range" = none
  tys : ∀ q ∈ isiTys, mg q.2 = none
  gl : ∀ x v, gl x = some v → ∃ u vv, mg x = some u ∧ RelV vv u ∧ ∀ H, RepV K w H v vv
  fn : ∀ f ∈ fs, ∃ d a, Γ f = some d ∧ mg f = some (.ref a) ∧ DefOk K w fs d a
end
/-- a value of the text's and one of ours -/
def RU (K : PySem.W.Frag) (w : World) (H : Hp) (x : PV) (u : Value) : Prop := ∃ v, RepV K w H x v ∧ RelV v u
def RUs (K : PySem.W.Frag) (w : World) (H : Hp) : List (Str × PV) → List (Str × Value) → Prop := Paired fun p q => p.1 = q.1 ∧ RU K w H p.2 q.2
section
variable {K : PySem.W.Frag} {w : World} {H : Hp}
theorem RUs.lookup {l : List (Str × PV)} {m : List (Str × Value)} (r : RUs K w H l m) (n : Str) : (l.lookup n = none ∧ m.lookup n = none) ∨ ∃ x u, l.lookup n = some x ∧ m.lookup n = some u ∧ RU K w H x u := by
  induction r with
  | nil => exact .inl ⟨rfl, rfl⟩
  | cons r t ih =>
    rename_i p q l m
    rw [show l = l from rfl]
    obtain ⟨a, x⟩ := p
    obtain ⟨b, u⟩ := q
    obtain ⟨e, ru⟩ := r
    simp only at e
    subst e
    rw [List.lookup_cons, List.lookup_cons]
    cases n == a with
    | true => exact .inr ⟨x, u, rfl, rfl, ru⟩
    | false => exact ih
theorem RUs.app : ∀ {l : List (Str × PV)} {m : List (Str × Value)} {l2 : List (Str × PV)} {m2 : List (Str × Value)}, RUs K w H l m → RUs K w H l2 m2 → RUs K w H (l ++ l2) (m ++ m2)
  | _, _, _, _, .nil, s => s
  | _, _, _, _, .cons r t, s => .cons r (RUs.app t s)
theorem ru_zip : ∀ (ns : List Str) {xs : List PV} {vs : List V} {us : List Value}, RepL K w H xs vs → Vals vs us → RUs K w H (ns.zip xs) (ns.zip us)
  | [], _, _, _, _, _ => by simp [RUs]; exact .nil
  | n :: ns, [], _, _, l, r => by cases l; cases r; simp [RUs]; exact .nil
  | n :: ns, x :: xs, _, _, ⟨v, t, rfl, a, b⟩, .cons r q => .cons ⟨rfl, v, a, r⟩ (ru_zip ns b q)
theorem ru_kw {kws : List (Str × PV)} {kvs : List (Str × V)} (l : RepF K w H kws kvs) : ∀ {kw : List (Str × Value)}, KwV kvs kw → RUs K w H kws kw := by
  induction l with
  | nil => intro kw r; cases r; exact .nil
  | cons h t ih =>
    intro kw r
    cases r with
    | cons r1 r2 => exact .cons ⟨h.1.trans r1.1, _, h.2, r1.2⟩ (ih r2)
theorem ru_keys {l : List (Str × PV)} {m : List (Str × Value)} (r : RUs K w H l m) : l.map (·.1) = m.map (·.1) := by
  induction r with
  | nil => rfl
  | cons r t ih => rw [List.map_cons, List.map_cons, r.1, ih]
theorem ru_filter {kdf : List (Str × PV)} {kds : List (Str × Value)} (r : RUs K w H kdf kds) : ∀ ko : List Str, RUs K w H (ko.filterMap fun n => (kdf.lookup n).map (n, ·)) (ko.filterMap fun n => (kds.lookup n).map (n, ·))
  | [] => .nil
  | n :: ko => by
    rw [List.filterMap_cons, List.filterMap_cons]
    rcases r.lookup n with ⟨e1, e2⟩ | ⟨x, u, e1, e2, ru⟩
    · rw [e1, e2]; exact ru_filter r ko
    · rw [e1, e2]; exact .cons ⟨rfl, ru⟩ (ru_filter r ko)
theorem look_all {l : List (Str × PV)} {m : List (Str × Value)} (r : RUs K w H l m) : ∀ (ns : List Str) {ws : List PV}, lookAll l ns = some ws →
    ∃ (vs : List V) (us : List Value), RepL K w H ws vs ∧ Vals vs us ∧ vs.length = ns.length ∧ (ns.filterMap fun n => (m.lookup n).map (n, ·)) = ns.zip us
  | [], ws, e => by cases e; exact ⟨[], [], rfl, .nil, rfl, rfl⟩
  | n :: ns, ws, e => by
    unfold lookAll at e
    split at e <;> first | cases e | skip
    rename_i v vs e1 e2
    obtain ⟨vV, vU, r1, r2, r3, r4⟩ := look_all r ns e2
    rcases r.lookup n with ⟨h1, _⟩ | ⟨x, u, h1, h2, y, ry1, ry2⟩
    · rw [h1] at e1; cases e1
    · rw [h1] at e1
      cases e1
      refine ⟨y :: vV, u :: vU, ⟨y, vV, rfl, ry1, r1⟩, .cons ry2 r2, by simp [r3], ?_⟩
      rw [List.filterMap_cons, h2]
      show (n, u) :: _ = _
      rw [r4]
      rfl
theorem nodup_of : ∀ {l : List Str}, nodupB l = true → l.Nodup
  | [], _ => List.nodup_nil
  | x :: xs, h => by
    unfold nodupB at h
    rw [Bool.and_eq_true] at h
    rw [List.nodup_cons]
    exact ⟨by simpa using h.1, nodup_of h.2⟩
theorem start_rep {N : List Str} {ws : List PV} {vs : List V} (l : RepL K w H ws vs) : RepS K w H (startP N ws) (L2.start N vs) := by
  have hl := l.length
  refine ⟨by simp [startP, L2.start, hl], fun i x e => ?_⟩
  unfold startP at e
  unfold L2.start
  by_cases hi : i < ws.length
  · rw [List.getElem?_append_left (by simpa using hi), List.getElem?_map] at e
    cases e2 : ws[i]? with
    | none => rw [e2] at e; cases e
    | some y =>
      rw [e2] at e
      cases e
      obtain ⟨v, h1, h2⟩ := l.get e2
      exact ⟨v, by rw [List.getElem?_append_left (by simp; omega), List.getElem?_map, h1]; rfl, h2⟩
  · rw [List.getElem?_append_right (by simp; omega), List.getElem?_replicate] at e
    split at e <;> cases e
end
end Fv

set_option Elab.async false
set_option linter.all false
set_option maxRecDepth 100000
set_option maxHeartbeats 2000000
namespace Fv
open PySem L2
theorem kwd_list {K : PySem.W.Frag} {w : World} {kV : Value} : ∀ {kdf : List (Str × PV)}, KwdOk K w kV kdf → ∃ kds : List (Str × Value), (∀ H, RUs K w H kdf kds) ∧ ∀ n v, kds.lookup n = some v → ∃ D : Addr, kV = .ref D ∧ PySem.W.nsIn K D n = some (some v)
  | [], _ => ⟨[], fun _ => .nil, fun _ _ h => by simp at h⟩
  | q :: kdf, h => by
    obtain ⟨kds, h1, h2⟩ := kwd_list (kdf := kdf) fun p hp => h p (List.mem_cons_of_mem _ hp)
    obtain ⟨D, u, v, e1, e2, r1, r2⟩ := h q List.mem_cons_self
    refine ⟨(q.1, u) :: kds, fun H => .cons ⟨rfl, v, r2 H, r1⟩ (h1 H), fun n x hx => ?_⟩
    rw [List.lookup_cons] at hx
    cases hn : n == q.1 with
    | true =>
      rw [hn] at hx
      cases hx
      have : n = q.1 := by simpa using hn
      rw [this]
      exact ⟨D, e1, e2⟩
    | false => rw [hn] at hx; exact h2 n x hx
theorem zip_none {K : PySem.W.Frag} {w : World} {H : Hp} {l : List (Str × PV)} {m : List (Str × Value)} (r : RUs K w H l m) {n : Str} : (l.lookup n).isNone = (m.lookup n).isNone := by
  rcases r.lookup n with ⟨e1, e2⟩ | ⟨x, u, e1, e2, _⟩ <;> rw [e1, e2] <;> rfl
theorem look_mem {α : Type} {l : List (Str × α)} : ∀ {ns : List Str} {ws : List α} {n : Str}, lookAll l ns = some ws → n ∈ ns → ∃ v, l.lookup n = some v
  | m :: ns, ws, n, e, h => by
    unfold lookAll at e
    split at e <;> first | cases e | skip
    rename_i v vs e1 e2
    rcases List.mem_cons.mp h with rfl | h
    · exact ⟨v, e1⟩
    · exact look_mem e2 h
theorem filter_lookup {α : Type} {kdf : List (Str × α)} {n : Str} {v : α} : ∀ {ko : List Str}, (ko.filterMap fun n => (kdf.lookup n).map (n, ·)).lookup n = some v → kdf.lookup n = some v
  | [], h => by simp at h
  | m :: ko, h => by
    rw [List.filterMap_cons] at h
    cases e : kdf.lookup m with
    | none => rw [e] at h; exact filter_lookup h
    | some x =>
      rw [e] at h
      simp only [Option.map_some] at h
      rw [List.lookup_cons] at h
      cases hn : n == m with
      | true => rw [hn] at h; cases h; have : n = m := by simpa using hn
                rw [this]; exact e
      | false => rw [hn] at h; exact filter_lookup h
section
variable {P : Program} {w : World} {K : PySem.W.Frag} {mg : Str → Option Value} {base : Heap} {fs : List Str} {Γ : Str → Option FDef} {gl : Str → Option PV}
theorem run_gl : ∀ k, (run Γ gl k).gl = gl
  | 0 => rfl
  | _ + 1 => rfl
theorem fnP_step (m : ModOk K w fs Γ gl mg) (k : Nat) (ih : ∀ f ∈ fs, ∃ a, mg f = some (.ref a) ∧ PySem.W.keepIn K (.ref a) = true ∧ FnP P w K mg base k a ((run Γ gl k).fn f)) (f : Str) (hf : f ∈ fs) :
    ∃ a, mg f = some (.ref a) ∧ PySem.W.keepIn K (.ref a) = true ∧ FnP P w K mg base (k + 1) a ((run Γ gl (k + 1)).fn f) := by
  obtain ⟨d, a, hd, hmg, D⟩ := m.fn f hf
  refine ⟨a, hmg, D.kp, ?_⟩
  obtain ⟨oc, dV, kV, doc, pm, cdv, ct, od, an, osl, name, qual, params, body, scope, lk, hcd, p1, p2, p3, p4, p5, sc, hc, dD, dK⟩ := D.ex
  intro A outer s H us kw vs kvs Q E g e0 rv rk ⟨S, G, xs, kws, Q', P', at_, rl, rf, hsp, bk, bx⟩
  unfold run at hsp
  dsimp only at hsp
  rw [hd] at hsp
  dsimp only at hsp
  split at hsp <;> first | exact hsp.elim | skip
  rename_i ws0 hws
  unfold FDef.args at hws
  split at hws <;> first | cases hws | skip
  rename_i hfit
  cases hlk : lookAll (tblG d.pos d.ko d.dfl d.kdf xs kws) (d.pos ++ d.ko) with
  | none => rw [hlk] at hws; cases hws
  | some ws =>
  rw [hlk] at hws
  simp only [Option.map_some, Option.some.injEq] at hws
  unfold FDef.fits at hfit
  simp only [Bool.and_eq_true, List.all_eq_true, Bool.or_eq_true, decide_eq_true_eq] at hfit
  obtain ⟨⟨⟨⟨⟨f1, f2⟩, f3⟩, f4⟩, f5⟩, f6⟩ := hfit
  have KX : K.In s.heap := e0.mod.kin.keeps fun b o e => (e0.bs b o e).1
  obtain ⟨kds, hkd, hkn⟩ := kwd_list dK
  obtain ⟨dopt, ds, dvs, e1, rd, rdl, hD⟩ : ∃ (dopt : Option (Array Value)) (ds : List Value) (dvs : List V), (dopt.getD #[]).toList = ds ∧ Vals dvs ds ∧ (∀ H, RepL K w H d.dfl dvs) ∧ ∀ {M : Model} {A' : Around} {Ex : Value → Shared → Prop} {α : Type} (kk : Option (Array Value) → Sem α) (R : α → Shared → Prop), wpAny M A' (kk dopt) R Ex s → wpAny M A' (seqItems? dV >>= kk) R Ex s := by
    rcases dD with ⟨h1, h2⟩ | ⟨T, o, its, n, dvs, h1, h2, h3, h4, h5⟩
    · subst h2
      refine ⟨none, [], [], rfl, .nil, fun H => by rw [h1]; rfl, fun kk R q => wpAny_bind (wpAny_pure q)⟩
    · subst h1
      exact ⟨some its.toArray, its, dvs, by simp, h4, h5, fun kk R q => wpAny_bind (wpAny_seqItems (KX _ _ h2) h3 q)⟩
  have hdl : d.dfl.length = ds.length := (rdl H).length.trans rd.length
  have rz : RUs K w H (d.pos.zip xs) (d.pos.zip us) := ru_zip _ rl rv
  have rw0 : RUs K w H kws kw := ru_kw rf rk
  have rt0 : RUs K w H (d.pos.zip xs ++ kws) (d.pos.zip us ++ kw) := rz.app rw0
  have rt1 : RUs K w H (d.pos.zip xs ++ kws ++ (d.pos.drop (d.pos.length - d.dfl.length)).zip d.dfl) (d.pos.zip us ++ kw ++ (d.pos.drop (d.pos.length - ds.length)).zip ds) := by
    rw [hdl]; exact rt0.app (ru_zip _ (rdl H) rd)
  have rt : RUs K w H (tblG d.pos d.ko d.dfl d.kdf xs kws) (d.pos.zip us ++ kw ++ (d.pos.drop (d.pos.length - ds.length)).zip ds ++ d.ko.filterMap fun n => (kds.lookup n).map (n, ·)) := rt1.app (ru_filter (hkd H) d.ko)
  obtain ⟨wV, wU, q1, q2, q3, q4⟩ := look_all rt _ hlk
  refine StX.run_bnd lk hcd sc g.room e0 (G := fun vsV H2 => ∃ stp : Step S H H2, At K w S G H2 ∧ RepL K w H2 ws0 vsV) (fun A' Ex Q2 hQ => ?_) fun s2 H2 vsV ⟨stp, at2, rp2⟩ hr' => ?_
  · refine bind_run d.pos d.ko p1 p2 p3 p4 (fun q hq => ?_) ?_ (fun q hq => ?_) ?_ dopt ds e1 (by rw [← hdl]; exact f5) hD (fun n hn => ?_) kds (fun n hn hz => ?_) (fun n v hv => ?_) fun binds hb => ?_
    · have : q.1 ∈ kws.map (·.1) := by rw [ru_keys rw0]; exact List.mem_map_of_mem hq
      obtain ⟨p, hp, e⟩ := List.mem_map.mp this
      have := (f1 p hp).1
      rw [e] at this
      simpa using this
    · rw [← ru_keys rw0]; exact nodup_of f2
    · have : q.1 ∈ kws.map (·.1) := by rw [ru_keys rw0]; exact List.mem_map_of_mem hq
      obtain ⟨p, hp, e⟩ := List.mem_map.mp this
      have := (f1 p hp).2
      rw [e, zip_none rz] at this
      simpa using this
    · rcases f3 with f3 | f3
      · left; rw [← rv.length, ← rl.length]; exact f3
      · right
        show params.vararg.isSome = true
        rw [← p5] at f3
        simpa using f3
    · rw [← hdl] at hn
      have := f6 n hn
      rcases rt0.lookup n with ⟨e1, e2⟩ | ⟨x, u, e1, e2, _⟩
      · rw [e1] at this; cases this
      · rw [e2]; rfl
    · obtain ⟨v, hv⟩ := look_mem hlk (List.mem_append_right _ hn)
      rw [← zip_none rt1] at hz
      unfold tblG at hv
      rw [lookup_app] at hv
      cases e3 : List.lookup n (d.pos.zip xs ++ kws ++ (d.pos.drop (d.pos.length - d.dfl.length)).zip d.dfl) with
      | some x => rw [e3] at hz; cases hz
      | none =>
        rw [e3, Option.none_or] at hv
        have hv2 := filter_lookup hv
        rcases (hkd H).lookup n with ⟨e4, _⟩ | ⟨x, u, _, e5, _⟩
        · rw [e4] at hv2; cases hv2
        · exact ⟨u, e5⟩
    · obtain ⟨D0, h1, h2⟩ := hkn n v hv
      exact ⟨D0, h1, fun R q => (PySem.W.looks_nsIn KX h2).here q⟩
    · rw [q4] at hb
      cases hva : params.vararg with
      | none =>
        have hdva : d.va = none := by rw [← p5, hva]; rfl
        rw [hdva] at hws
        show Q2 binds s
        rw [hb]
        have hps : d.ps = d.pos ++ d.ko := by unfold FDef.ps; rw [hdva]; simp
        rw [← hps]
        refine hQ s H wV wU e0 Un.refl rfl (fun _ _ z => z) q2 (by rw [q3, hps]) ⟨Step.refl, at_, ?_⟩
        rw [← hws]; exact q1
      | some ag =>
        have hdva : d.va = some ag.arg := by rw [← p5, hva]; rfl
        rw [hdva] at hws
        show wpAny _ _ (newTuple (us.drop d.pos.length)) _ _ s
        have hn : H s.heap.objs.size = none := e0.hok.fresh (Nat.le_refl _)
        have hul : us.length ≤ 1000 := by rw [← rv.length, ← rl.length]; exact f4
        have hsl : (us.drop d.pos.length).length ≤ sizeLine := by
          rw [List.length_drop]
          exact Nat.le_trans (by omega : us.length - d.pos.length ≤ 1000) (by decide)
        refine wpAny_newTuple ?_ hsl
        have rdrop := rv.drop d.pos.length
        have new : ObjOk P w (upd H s.heap.objs.size (.tup (vs.drop d.pos.length))) (s.heap.push ({ cls := .type "tuple", data := .seq (us.drop d.pos.length).toArray } : Obj)) s.heap.objs.size (.tup (vs.drop d.pos.length)) :=
          ⟨by rw [rdrop.length]; exact hsl, us.drop d.pos.length, rdrop, ⟨_, Heap.get?_push_size _ rfl, rfl, _, rfl⟩⟩
        have un := StX.un_laid (fs := frs outer) (s := s) (o := ({ cls := .type "tuple", data := .seq (us.drop d.pos.length).toArray } : Obj)) (u := .tup (vs.drop d.pos.length)) hn
        have hps : d.ps = (d.pos ++ d.ko) ++ [ag.arg] := by unfold FDef.ps; rw [hdva]; rfl
        have stp : Step S H (upd H s.heap.objs.size (.tup (vs.drop d.pos.length))) := at_.step_new hn
        have z := hQ _ _ (wV ++ [V.ref s.heap.objs.size]) (wU ++ [Value.ref s.heap.objs.size]) (StX.env0_laid e0 new) un rfl (fun e s' => StX.cxUp outer s H _ _ E e s' un (fun b o q => Heap.get?_push_of_some _ q) rfl) (q2.append (.cons rfl .nil))
          (by rw [List.length_append, hps, List.length_append, q3] <;> rfl) ⟨stp, at_.silent hn, by
            rw [← hws]
            refine (q1.mono stp.toStay).app (RepL.one ⟨_, vs.drop d.pos.length, rfl, SqT.of upd_same, (rl.drop _).mono stp.toStay⟩)⟩
        rw [hps, List.zip_append (by rw [← q2.length, q3])] at z
        rw [hb]
        exact z
  · have gX : Good k (A.deeper (PyProof.Rows.envOfC qual scope s2.heap.objs.size a cdv)) := ⟨hr', g.gd⟩
    have xo : XOk (run Γ gl k) fs d.N k scope (cxOf (L2.CX P w) P w K mg base d.N qual scope a cdv A outer s2 H2 E) :=
      ⟨rfl, sc.nd, rfl, gX, m.bn, m.isi, m.rng, m.tys, fun x v h => m.gl x v (by rw [run_gl] at h; exact h), ih, sc.kind, fun x h => ⟨by
        unfold locB at h
        split at h <;> first | cases h | skip
        · exact .inl ‹_›
        · exact .inr ‹_›, .inl rfl⟩⟩
    have tk : Takes (cxOf (L2.CX P w) P w K mg base d.N qual scope a cdv A outer s2 H2 E) (fun cls d _ H => E cls d H) := takes_of rfl rfl rfl rfl
    refine ⟨_, sSs d.body _ _ body xo (passes_of rfl) tk hc, ?_⟩
    refine ⟨S, startP d.N ws0, G, endP Q' P', ⟨at2, start_rep rp2, fun cls fs d τ' τ G1 H1 st1 a1 _ x1 ⟨G2, sb, q⟩ => bx cls fs d G2 H1 (stp.trans st1) (a1.sub sb) x1 q⟩, hsp, ⟨?_, ?_, fun _ _ _ _ _ _ _ z => z.elim, fun _ _ _ _ _ _ _ z => z.elim⟩⟩
    · rintro τ' τ G1 H1 st1 a1 _ ⟨G2, sb, q⟩
      exact bk .non .non G2 H1 (stp.trans st1) (a1.sub sb) rfl q
    · rintro x v G1 H1 st1 a1 r1 ⟨G2, sb, q⟩
      exact bk x v G2 H1 (stp.trans st1) (a1.sub sb) r1 q
theorem fnP_all (m : ModOk K w fs Γ gl mg) : ∀ (k : Nat) (f : Str), f ∈ fs → ∃ a, mg f = some (.ref a) ∧ PySem.W.keepIn K (.ref a) = true ∧ FnP P w K mg base k a ((run Γ gl k).fn f)
  | 0, f, hf => by
    obtain ⟨d, a, hd, hmg, D⟩ := m.fn f hf
    refine ⟨a, hmg, D.kp, ?_⟩
    intro A outer s H us kw vs kvs Q E g e0 rv rk ⟨S, G, xs, kws, Q', P', at_, rl, rf, hsp, bk, bx⟩
    exact hsp.elim
  | k + 1, f, hf => fnP_step m k (fun f hf => fnP_all m k f hf) f hf
end
end Fv

set_option Elab.async false
set_option linter.all false
set_option maxRecDepth 100000
set_option maxHeartbeats 2000000
namespace Fv
open PySem PySem.Spec PyProof.Rows L2
theorem ints_rep {K : PySem.W.Frag} {w : World} {H : Hp} : ∀ ns : List Int, RepL K w H (ns.map PV.int) (ns.map V.int)
  | [] => rfl
  | n :: ns => ⟨.int n, _, rfl, rfl, ints_rep ns⟩
/-- what is tracked at the law's call: the script, where it is not the text's own -/
def hp0 (K : PySem.W.Frag) (a : Addr) (vs : List Value) (ns : List Int) : Hp := fun b => if b = a ∧ K.lookup a = none then some (.frz ⟨.type "list", none, .seq vs.toArray 0, #[]⟩ (.lst (ns.map V.int))) else none
theorem hp0_some {K : PySem.W.Frag} {a b : Addr} {vs : List Value} {ns : List Int} {o : HO} (h : hp0 K a vs ns b = some o) : b = a ∧ K.lookup a = none ∧ o = .frz ⟨.type "list", none, .seq vs.toArray 0, #[]⟩ (.lst (ns.map V.int)) := by
  unfold hp0 at h
  split at h
  · rename_i e
    exact ⟨e.1, e.2, (Option.some.inj h).symm⟩
  · cases h
theorem law_run {P : Program} {w : World} {K : PySem.W.Frag} {mg mb : Str → Option Value} {k : Nat} {fa a : Addr} {sp : List PV → List (Str × PV) → PH → VP → PC → Prop} {s1 : Shared} {vs : List Value} {ns : List Int}
    (KX : K.In s1.heap) (gn : s1.heap.Ns mainGlobals mg) (bn : s1.heap.Ns builtinsNs mb) (bb : ∀ x : Str, x ≠ "__name__" → mb x = bootBuiltins x) (lim : s1.heap.NoLimit) (ng : s1.gens = #[])
    (sc : s1.heap.get? a = some { cls := .type "list", data := .seq vs.toArray }) (hi : IntsAre vs ns) (hl : ns.length ≤ sizeLine) (hr : Room k callerA)
    (F : ∀ base : Heap, K.In base → base.Ns mainGlobals mg → FnP P w K mg base k fa sp)
    (hsp : sp [.wl (ns.map .int)] [] (fun _ => none) (fun v _ => v = .bl true) fun _ _ _ => False) :
    codeAny (model P w) callerA (.call (.ref fa) ⟨[.ref a], []⟩) (fun r s' => r = .ok (.ret (.bool true)) ∧ OldK s1.heap s'.heap ∧ s'.os = s1.os ∧ AllBare s'.gens) s1 := by
  have rv := vals_ints hi
  have lv := hi.length
  have free : ∀ {b : Addr} {o : Obj}, s1.heap.get? b = some o → (b = a → K.lookup a ≠ none) → hp0 K a vs ns b = none := fun {b o} e h => by
    unfold hp0
    rw [if_neg fun z => h z.1 z.2]
  have up : ∀ {b : Addr} {o : Obj}, s1.heap.get? b = some o → hp0 K a vs ns b = none → (hidT s1.heap (hp0 K a vs ns)).get? b = some o := fun e n => hidT_get e n
  have dictFree : ∀ {b : Addr} {m : Str → Option Value}, s1.heap.Ns b m → (hidT s1.heap (hp0 K a vs ns)).Ns b m := by
    rintro b m ⟨o, es, ep, e, d, r⟩
    refine ⟨o, es, ep, up e (free e ?_), d, r⟩
    rintro rfl
    rw [sc] at e
    cases e
    cases d
  have kb : K.In (hidT s1.heap (hp0 K a vs ns)) := fun b o e => up (KX b o e) (free (KX b o e) (by rintro rfl; rw [e]; simp))
  have hM : Mod K mg (hidT s1.heap (hp0 K a vs ns)) := ⟨kb, dictFree gn, ⟨mb, dictFree bn, bb⟩, by obtain ⟨mc, h1, h2⟩ := lim; exact ⟨mc, dictFree h1, h2⟩⟩
  have hok : HOk P w (hp0 K a vs ns) s1.heap := fun b o e => by
    obtain ⟨rfl, _, rfl⟩ := hp0_some e
    exact ⟨sc, by rw [List.length_map]; exact hl, vs, _, rv, sc⟩
  have e0 : Env0 P w K mg (hidT s1.heap (hp0 K a vs ns)) callerA [] s1 (hp0 K a vs ns) :=
    ⟨rfl, hM, fun b o e => of_hidT e, Nat.le_of_eq (hidT_size _ _), trivial, (fun b z => by cases z), hok, .of_eq ng⟩
  have fz : FzL K (hp0 K a vs ns) a (ns.map V.int) := by
    cases hk : K.lookup a with
    | none => exact .inl ⟨_, by unfold hp0; rw [if_pos ⟨rfl, hk⟩]⟩
    | some o =>
      have e := KX a o hk
      rw [sc] at e
      cases e
      exact .inr ⟨_, vs.toArray, _, hk, rfl, rfl, rfl, by rw [List.size_toArray, lv]; exact hl, by simpa using rv⟩
  have at0 : At K w (fun _ => False) (fun _ => none) (hp0 K a vs ns) := ⟨fun _ z => z.elim, fun _ _ z => by cases z⟩
  refine codeAny_mono (F _ kb (dictFree gn) callerA [] s1 (hp0 K a vs ns) [.ref a] [] [.ref a] [] (fun v _ => v = .bl true) (fun _ _ _ => False) ⟨hr, rfl⟩ e0 (.cons rfl .nil) .nil
    ⟨_, _, [.wl (ns.map .int)], [], _, _, at0, RepL.one ⟨a, ns.map V.int, rfl, fz, ints_rep ns⟩, .nil, hsp, fun x v G1 H1 _ _ r q => by subst q; exact r, fun _ _ _ _ _ _ _ _ z => z⟩) fun r s' h => ?_
  cases r with
  | error e =>
    obtain ⟨_, _, _, _, _, _, _, _, _, _, _, _, z⟩ := h
    exact z.elim
  | ok fl =>
    cases fl with
    | next => exact False.elim h
    | brk => exact False.elim h
    | cont => exact False.elim h
    | ret u =>
      obtain ⟨v, H', os, bare, un, hok', r', rfl⟩ := h
      obtain rfl : u = Value.bool true := r'
      refine ⟨rfl, OldK.of_keep fun b o e => ?_, os, bare⟩
      cases q : hp0 K a vs ns b with
      | none => exact un.keep b o e q (by intro z; cases z) (by intro z; cases z)
      | some u =>
        obtain ⟨rfl, _, rfl⟩ := hp0_some q
        have q2 := hok' b _ (un.frzs b _ _ q)
        rw [sc] at e
        cases e
        exact q2.1
/-- the goal that the head leaves, from the reading of the law's def -/
theorem walk_fv {l : PySem.W.OpenLaw} {q : Program} {loose : List Str} {XP : (Str → Option Value) → Heap → Prop} {YP : World → Heap → Prop} {d : DefRec} {K : Params → PySem.W.Frag} {fs : List Str} {Γ : Str → Option FDef} {gl : Str → Option PV} {k : Nat}
    (hn : l.most = some 63) (hdf : d.params.defaults = []) (hr : Room k callerA) (hf : d.name ∈ fs)
    (hY : ∀ (w : World) (h : Heap), YP w h → (K w.params).In h)
    (M : ∀ (w : World) (mg : Str → Option Value) (h : Heap), (K w.params).In h → h.Ns mainGlobals mg → ModOk (K w.params) w fs Γ gl mg)
    (hsp : ∀ ns : List Int, ns.length ≤ 63 → (run Γ gl k).fn d.name [.wl (ns.map .int)] [] (fun _ => none) (fun v _ => v = .bl true) fun _ _ _ => False) :
    PySem.W.WalkO q loose XP YP l.row.toRowW d [] (fun f vs => PySem.call f vs) := by
  refine Att.attach_call hn hdf fun w s₀ s₁ mg mb fa o pm cd doc a vs ns G Y ho hd hcd hmg hobj hints hlen hg => ?_
  have KX := hY w _ Y
  have mo := M w mg _ KX G.T.g
  obtain ⟨fa', h1, h2, _⟩ := fnP_all (P := l.prog) (base := s₁.heap) mo k d.name hf
  have e : fa' = fa := by rw [hmg] at h1; cases h1; rfl
  subst e
  refine law_run KX G.T.g G.T.b G.T.builtins G.T.nolimit hg hobj hints (Nat.le_trans hlen (by decide)) hr (fun base hk hb => ?_) (hsp ns hlen)
  obtain ⟨fb, g1, _, g3⟩ := fnP_all (P := l.prog) (base := base) mo k d.name hf
  rw [hmg] at g1
  cases g1
  exact g3
end Fv

set_option Elab.async false
set_option linter.all false
set_option maxRecDepth 100000
set_option maxHeartbeats 2000000
namespace Fv
open PySem PySem.Spec PyProof.Rows L2
def argsOf (st : Stmt) : Arguments := match st with
  | .FunctionDef _ a .. => a
  | _ => { posonlyargs := [], args := [], vararg := none, kwonlyargs := [], kw_defaults := [], kwarg := none, defaults := [] }
def bodyOf (st : Stmt) : List Stmt := match st with
  | .FunctionDef _ _ b .. => b
  | _ => []
def scopeB (N P : List Str) (sc : Scope) : Bool :=
  (sc.kind == .function) && !sc.isCoroutine && !sc.isGenerator && nodupB N && decide (N.take P.length = P)
    && (P.all fun x => locB sc x) && sc.names.all fun y => y.2 != .free
theorem scope_of {N P : List Str} {sc : Scope} (h : scopeB N P sc = true) : FnScope N P sc := by
  unfold scopeB at h
  simp only [Bool.and_eq_true, Bool.not_eq_true', decide_eq_true_eq, List.all_eq_true, bne_iff_ne, ne_eq] at h
  obtain ⟨⟨⟨⟨⟨⟨a, b⟩, c⟩, d⟩, e⟩, f⟩, g⟩ := h
  refine ⟨?_, b, c, nodup_of d, e, fun x hx => ?_, fun y hy => g y hy⟩
  · cases hk : sc.kind <;> rw [hk] at a <;> first | rfl | cases a
  · have := f x hx
    unfold locB at this
    split at this
    · rename_i q; exact .inl q
    · rename_i q; exact .inr q
    · cases this
def defB (fs : List Str) (d : FDef) (ps : Arguments) (body : List Stmt) (sc : Scope) : Bool :=
  ps.posonlyargs.isEmpty && ps.kwarg.isNone && decide (ps.args.map (·.arg) = d.pos) && decide (ps.kwonlyargs.map (·.arg) = d.ko) && decide (ps.vararg.map (·.arg) = d.va) && scopeB d.N d.ps sc && cSs fs d.N sc d.body body
section
variable {K : PySem.W.Frag} {w : World}
theorem def_mk {fs : List Str} {d : FDef} {a : Addr} {oc dV kV doc pm cdv ct : Value} {od an : Option Addr} {osl : Array (Option Value)} {name qual : Str} {params : Arguments} {body : List Stmt} {scope : Scope}
    (l1 : K.lookup a = some ⟨oc, od, .func (PySem.W.fnOf name qual params body scope dV kV doc pm an cdv ct), osl⟩) (c1 : PySem.W.codeIn K cdv qual = true) (k1 : PySem.W.keepIn K (.ref a) = true)
    (h : defB fs d params body scope = true) (hd : DflOk K w dV d.dfl) (hk : KwdOk K w kV d.kdf) : DefOk K w fs d a := by
  unfold defB at h
  simp only [Bool.and_eq_true, decide_eq_true_eq] at h
  obtain ⟨⟨⟨⟨⟨⟨e1, e2⟩, e3⟩, e4⟩, e5⟩, e6⟩, e7⟩ := h
  exact ⟨⟨oc, dV, kV, doc, pm, cdv, ct, od, an, osl, name, qual, params, body, scope, l1, c1, List.isEmpty_iff.1 e1, Option.isNone_iff_eq_none.1 e2, e3, e4, e5, scope_of e6, e7, hd, hk⟩, k1⟩
/-- a value that stands written -/
def CV (K : PySem.W.Frag) (w : World) (x : PV) (u : Value) : Prop := ∃ v, RelV v u ∧ ∀ H, RepV K w H x v
def CVs (K : PySem.W.Frag) (w : World) (xs : List PV) (us : List Value) : Prop := ∃ vs, Vals vs us ∧ ∀ H, RepL K w H xs vs
theorem cv_int {i : Int} {t : Tok} : CV K w (.int i) (.int i t) := ⟨.int i, ⟨t, rfl⟩, fun _ => rfl⟩
theorem cv_str {i : Str} {t : Tok} : CV K w (.str i) (.str i t) := ⟨.str i, ⟨t, rfl⟩, fun _ => rfl⟩
theorem cv_bl {b : Bool} : CV K w (.bl b) (.bool b) := ⟨.bl b, rfl, fun _ => rfl⟩
theorem cv_non : CV K w .non .none := ⟨.non, rfl, fun _ => rfl⟩
theorem cvs_nil : CVs K w [] [] := ⟨[], .nil, fun _ => rfl⟩
theorem cvs_cons {x : PV} {u : Value} {xs : List PV} {us : List Value} (h : CV K w x u) (t : CVs K w xs us) : CVs K w (x :: xs) (u :: us) := by
  obtain ⟨v, a, b⟩ := h
  obtain ⟨vs, c, d⟩ := t
  exact ⟨v :: vs, .cons a c, fun H => ⟨v, vs, rfl, b H, d H⟩⟩
theorem cv_tup {A : Addr} {od : Option Addr} {us : List Value} {n : Nat} {osl : Array (Option Value)} {xs : List PV} (h : K.lookup A = some ⟨.type "tuple", od, .seq us.toArray n, osl⟩) (hs : us.length ≤ sizeLine) (t : CVs K w xs us) : CV K w (.tup xs) (.ref A) := by
  obtain ⟨vs, c, d⟩ := t
  exact ⟨.ref A, rfl, fun H => ⟨A, vs, rfl, .inr ⟨_, us.toArray, n, h, rfl, rfl, by simpa using hs, by simpa using c⟩, d H⟩⟩
theorem cv_wl {A : Addr} {us : List Value} {n : Nat} {osl : Array (Option Value)} {xs : List PV} (h : K.lookup A = some ⟨.type "list", none, .seq us.toArray n, osl⟩) (hs : us.length ≤ sizeLine) (t : CVs K w xs us) : CV K w (.wl xs) (.ref A) := by
  obtain ⟨vs, c, d⟩ := t
  exact ⟨.ref A, rfl, fun H => ⟨A, vs, rfl, .inr ⟨_, us.toArray, n, h, rfl, rfl, rfl, by simpa using hs, by simpa using c⟩, d H⟩⟩
theorem dfl_none : DflOk K w .none [] := .inl ⟨rfl, rfl⟩
theorem dfl_mk {A : Addr} {oc : Value} {od : Option Addr} {us : List Value} {n : Nat} {osl : Array (Option Value)} {xs : List PV} (h : K.lookup A = some ⟨oc, od, .seq us.toArray n, osl⟩) (t : CVs K w xs us) : DflOk K w (.ref A) xs := by
  obtain ⟨vs, c, d⟩ := t
  exact .inr ⟨A, _, us, n, vs, rfl, h, rfl, c, d⟩
theorem kwd_none {kV : Value} : KwdOk K w kV [] := fun _ h => nomatch h
theorem kwd_cons {D : Addr} {x : Str} {v : PV} {u : Value} {r : List (Str × PV)} (h : PySem.W.nsIn K D x = some (some u)) (c : CV K w v u) (t : KwdOk K w (.ref D) r) : KwdOk K w (.ref D) ((x, v) :: r) := fun q hq => by
  rcases List.mem_cons.1 hq with rfl | hq
  · obtain ⟨vv, a, b⟩ := c
    exact ⟨D, u, vv, rfl, h, a, b⟩
  · exact t q hq
theorem all_cons {α : Type} {p : α → Prop} {x : α} {xs : List α} (h : p x) (t : ∀ y ∈ xs, p y) : ∀ y ∈ x :: xs, p y := fun y hy => by
  rcases List.mem_cons.1 hy with rfl | hy
  · exact h
  · exact t y hy
theorem all_nil {α : Type} {p : α → Prop} : ∀ y ∈ ([] : List α), p y := fun _ h => nomatch h
/-- the names of the text's def, each where it stands -/
def FnAt (K : PySem.W.Frag) (w : World) (fs : List Str) (Γ : Str → Option FDef) (mg : Str → Option Value) (f : Str) : Prop := ∃ d a, Γ f = some d ∧ mg f = some (.ref a) ∧ DefOk K w fs d a
/-- the text's constants -/
def GlAt (K : PySem.W.Frag) (w : World) (mg : Str → Option Value) (p : Str × PV) : Prop := ∃ u, mg p.1 = some u ∧ CV K w p.2 u
theorem mod_ok {fs : List Str} {Γ : Str → Option FDef} {gs : List (Str × PV)} {mg : Str → Option Value}
    (h1 : ∀ x ∈ (["len", "abs", "max", "min", "str", "repr", "tuple", "list", "all", "any", "isinstance", "range", "int", "bool", "dict"] : List Str), mg x = none)
    (h2 : ∀ p ∈ gs, GlAt K w mg p) (h3 : ∀ f ∈ fs, FnAt K w fs Γ mg f) : ModOk K w fs Γ (fun x => gs.lookup x) mg where
  bn b := by cases b <;> exact h1 _ (by decide)
  isi := h1 _ (by decide)
  rng := h1 _ (by decide)
  tys q hq := h1 _ (by
    have : ∀ q ∈ isiTys, q.2 ∈ (["len", "abs", "max", "min", "str", "repr", "tuple", "list", "all", "any", "isinstance", "range", "int", "bool", "dict"] : List Str) := by decide
    exact this q hq)
  gl x v e := by
    have : (x, v) ∈ gs := by
      clear h2
      induction gs with
      | nil => cases e
      | cons p r ih =>
        obtain ⟨a, b⟩ := p
        simp only [List.lookup_cons] at e
        split at e
        · rename_i hx
          have := eq_of_beq hx
          subst this
          cases e
          exact List.mem_cons_self
        · exact List.mem_cons_of_mem _ (ih e)
    obtain ⟨u, a, vv, b, c⟩ := h2 _ this
    exact ⟨u, vv, a, b, c⟩
  fn f hf := h3 f hf
end
end Fv

set_option Elab.async false
set_option linter.all false
set_option maxRecDepth 100000
set_option maxHeartbeats 2000000
namespace Fv
open PySem L2
theorem run_call {Γ : Str → Option FDef} {gl : Str → Option PV} {k : Nat} {f : Str} {d : FDef} {xs vs : List PV} {kws : List (Str × PV)} {G : PH} {Q : VP} {P : PC} (h1 : Γ f = some d) (h2 : d.args xs kws = some vs) (h3 : wSs (Fv.run Γ gl k) d.body (endP Q P) (startP d.N vs) G) : (Fv.run Γ gl (k + 1)).fn f xs kws G Q P := by
  unfold Fv.run
  simp only [h1, h2]
  exact h3
theorem atI_nat {α : Type} {xs : List α} {i : Nat} (h : i < xs.length) : L2.atI xs (i : Int) = some xs[i] := by
  unfold L2.atI L2.ixN
  rw [if_pos (by omega), if_pos (by omega)]
  simp [h]
theorem atI_int {α : Type} {xs : List α} {i : Int} (h0 : 0 ≤ i) (h : i.toNat < xs.length) : L2.atI xs i = some xs[i.toNat] := by
  have := atI_nat h
  rwa [Int.toNat_of_nonneg h0] at this
theorem atI_m1 {α : Type} {xs : List α} {x : α} : L2.atI (xs ++ [x]) (-1) = some x := by
  unfold L2.atI L2.ixN
  rw [if_neg (by omega), if_pos (by simp; omega)]
  have : ((-1 : Int) + ((xs ++ [x]).length : Nat)).toNat = xs.length := by simp; omega
  rw [this]
  simp
theorem atI_0 {α : Type} {x : α} {xs : List α} : L2.atI (x :: xs) 0 = some x := atI_nat (i := 0) (by simp)
theorem atI_1 {α : Type} {x0 x : α} {xs : List α} : L2.atI (x0 :: x :: xs) 1 = some x := atI_nat (i := 1) (by simp)
theorem atI_2 {α : Type} {x0 x1 x : α} {xs : List α} : L2.atI (x0 :: x1 :: x :: xs) 2 = some x := atI_nat (i := 2) (by simp)
theorem atI_3 {α : Type} {x0 x1 x2 x : α} {xs : List α} : L2.atI (x0 :: x1 :: x2 :: x :: xs) 3 = some x := atI_nat (i := 3) (by simp)
theorem atI_4 {α : Type} {x0 x1 x2 x3 x : α} {xs : List α} : L2.atI (x0 :: x1 :: x2 :: x3 :: x :: xs) 4 = some x := atI_nat (i := 4) (by simp)
theorem atI_5 {α : Type} {x0 x1 x2 x3 x4 x : α} {xs : List α} : L2.atI (x0 :: x1 :: x2 :: x3 :: x4 :: x :: xs) 5 = some x := atI_nat (i := 5) (by simp)
theorem kb_NoneType_tuple : L2.kitB "NoneType" "tuple" = some false := by decide +kernel
theorem kb_NoneType_int : L2.kitB "NoneType" "int" = some false := by decide +kernel
theorem kb_NoneType_bool : L2.kitB "NoneType" "bool" = some false := by decide +kernel
theorem kb_NoneType_str : L2.kitB "NoneType" "str" = some false := by decide +kernel
theorem kb_NoneType_list : L2.kitB "NoneType" "list" = some false := by decide +kernel
theorem kb_NoneType_dict : L2.kitB "NoneType" "dict" = some false := by decide +kernel
theorem kb_bool_tuple : L2.kitB "bool" "tuple" = some false := by decide +kernel
theorem kb_bool_int : L2.kitB "bool" "int" = some true := by decide +kernel
theorem kb_bool_bool : L2.kitB "bool" "bool" = some true := by decide +kernel
theorem kb_bool_str : L2.kitB "bool" "str" = some false := by decide +kernel
theorem kb_bool_list : L2.kitB "bool" "list" = some false := by decide +kernel
theorem kb_bool_dict : L2.kitB "bool" "dict" = some false := by decide +kernel
theorem kb_int_tuple : L2.kitB "int" "tuple" = some false := by decide +kernel
theorem kb_int_int : L2.kitB "int" "int" = some true := by decide +kernel
theorem kb_int_bool : L2.kitB "int" "bool" = some false := by decide +kernel
theorem kb_int_str : L2.kitB "int" "str" = some false := by decide +kernel
theorem kb_int_list : L2.kitB "int" "list" = some false := by decide +kernel
theorem kb_int_dict : L2.kitB "int" "dict" = some false := by decide +kernel
theorem kb_str_tuple : L2.kitB "str" "tuple" = some false := by decide +kernel
theorem kb_str_int : L2.kitB "str" "int" = some false := by decide +kernel
theorem kb_str_bool : L2.kitB "str" "bool" = some false := by decide +kernel
theorem kb_str_str : L2.kitB "str" "str" = some true := by decide +kernel
theorem kb_str_list : L2.kitB "str" "list" = some false := by decide +kernel
theorem kb_str_dict : L2.kitB "str" "dict" = some false := by decide +kernel
theorem kb_tuple_tuple : L2.kitB "tuple" "tuple" = some true := by decide +kernel
theorem kb_tuple_int : L2.kitB "tuple" "int" = some false := by decide +kernel
theorem kb_tuple_bool : L2.kitB "tuple" "bool" = some false := by decide +kernel
theorem kb_tuple_str : L2.kitB "tuple" "str" = some false := by decide +kernel
theorem kb_tuple_list : L2.kitB "tuple" "list" = some false := by decide +kernel
theorem kb_tuple_dict : L2.kitB "tuple" "dict" = some false := by decide +kernel
theorem kb_list_tuple : L2.kitB "list" "tuple" = some false := by decide +kernel
theorem kb_list_int : L2.kitB "list" "int" = some false := by decide +kernel
theorem kb_list_bool : L2.kitB "list" "bool" = some false := by decide +kernel
theorem kb_list_str : L2.kitB "list" "str" = some false := by decide +kernel
theorem kb_list_list : L2.kitB "list" "list" = some true := by decide +kernel
theorem kb_list_dict : L2.kitB "list" "dict" = some false := by decide +kernel
theorem kb_dict_tuple : L2.kitB "dict" "tuple" = some false := by decide +kernel
theorem kb_dict_int : L2.kitB "dict" "int" = some false := by decide +kernel
theorem kb_dict_bool : L2.kitB "dict" "bool" = some false := by decide +kernel
theorem kb_dict_str : L2.kitB "dict" "str" = some false := by decide +kernel
theorem kb_dict_list : L2.kitB "dict" "list" = some false := by decide +kernel
theorem kb_dict_dict : L2.kitB "dict" "dict" = some true := by decide +kernel
theorem o_add_ii {i j : Int} {G : PH} {Q : VP} : pAdd (.int i) (.int j) G Q = Q (.int (i + j)) G := rfl
theorem o_add_ss {a b : Str} {G : PH} {Q : VP} : pAdd (.str a) (.str b) G Q = (a.length + b.length ≤ sizeLine ∧ Q (.str (a ++ b)) G) := rfl
theorem o_add_tt {a b : List PV} {G : PH} {Q : VP} : pAdd (.tup a) (.tup b) G Q = (a.length + b.length ≤ sizeLine ∧ Q (.tup (a ++ b)) G) := rfl
theorem o_add_rr {a b : Addr} {G : PH} {Q : VP} : pAdd (.ref a) (.ref b) G Q = (match G a, G b with | some (.lst xs), some (.lst ys) => xs.length + ys.length ≤ sizeLine ∧ ∀ p, G p = none → Q (.ref p) (pu G p (.lst (xs ++ ys))) | _, _ => False) := rfl
theorem o_sub_ii {i j : Int} {G : PH} {Q : VP} : pSub (.int i) (.int j) G Q = Q (.int (i - j)) G := rfl
theorem o_mul_ii {i j : Int} {G : PH} {Q : VP} : pMul (.int i) (.int j) G Q = (L2.CMul i j ∧ Q (.int (i * j)) G) := rfl
theorem o_mul_rk {a : Addr} {k : Int} {G : PH} {Q : VP} : pMul (.ref a) (.int k) G Q = (match G a with | some (.lst xs) => (-(2 ^ 63) ≤ k ∧ k < 2 ^ 63) ∧ xs.length * k.toNat ≤ sizeLine ∧ ∀ p, G p = none → Q (.ref p) (pu G p (.lst (List.replicate k.toNat xs).flatten)) | _ => False) := rfl
theorem o_mod_ii {i j : Int} {G : PH} {Q : VP} : pMod (.int i) (.int j) G Q = (0 < j ∧ Q (.int (i % j)) G) := rfl
theorem o_div_ii {i j : Int} {G : PH} {Q : VP} : pDiv (.int i) (.int j) G Q = (L2.CDiv i j ∧ Q (.int (i / j)) G) := rfl
theorem o_pow_ii {i j : Int} {G : PH} {Q : VP} : pPow (.int i) (.int j) G Q = (L2.CPow i j ∧ Q (.int (i ^ j.toNat)) G) := rfl
theorem o_lt_ii {f : Int → Int → Bool} {g : List Nat → List Nat → Bool} {i j : Int} {Q : Bool → Prop} : pLt f g (.int i) (.int j) Q = Q (f i j) := rfl
theorem o_lt_ss {f : Int → Int → Bool} {g : List Nat → List Nat → Bool} {a b : Str} {Q : Bool → Prop} : pLt f g (.str a) (.str b) Q = Q (g a.cps.toList b.cps.toList) := rfl
theorem o_eq_nn {G : PH} {Q : Bool → Prop} : pEq G .non .non Q = Q true := rfl
theorem o_eq_ni {i2 : Int} {G : PH} {Q : Bool → Prop} : pEq G .non (.int i2) Q = Q false := rfl
theorem o_eq_in {i1 : Int} {G : PH} {Q : Bool → Prop} : pEq G (.int i1) .non Q = Q false := rfl
theorem o_eq_nb {b2 : Bool} {G : PH} {Q : Bool → Prop} : pEq G .non (.bl b2) Q = Q false := rfl
theorem o_eq_bn {b1 : Bool} {G : PH} {Q : Bool → Prop} : pEq G (.bl b1) .non Q = Q false := rfl
theorem o_eq_ns {x2 : Str} {G : PH} {Q : Bool → Prop} : pEq G .non (.str x2) Q = Q false := rfl
theorem o_eq_sn {x1 : Str} {G : PH} {Q : Bool → Prop} : pEq G (.str x1) .non Q = Q false := rfl
theorem o_eq_ii {i1 : Int} {i2 : Int} {G : PH} {Q : Bool → Prop} : pEq G (.int i1) (.int i2) Q = Q (i1 == i2) := rfl
theorem o_eq_bb {b1 : Bool} {b2 : Bool} {G : PH} {Q : Bool → Prop} : pEq G (.bl b1) (.bl b2) Q = Q (b1 == b2) := rfl
theorem o_eq_ss {x1 : Str} {x2 : Str} {G : PH} {Q : Bool → Prop} : pEq G (.str x1) (.str x2) Q = Q (x1 == x2) := rfl
theorem o_eq_is {i1 : Int} {x2 : Str} {G : PH} {Q : Bool → Prop} : pEq G (.int i1) (.str x2) Q = Q false := rfl
theorem o_eq_si {x1 : Str} {i2 : Int} {G : PH} {Q : Bool → Prop} : pEq G (.str x1) (.int i2) Q = Q false := rfl
theorem o_eq_bs {b1 : Bool} {x2 : Str} {G : PH} {Q : Bool → Prop} : pEq G (.bl b1) (.str x2) Q = Q false := rfl
theorem o_eq_sb {x1 : Str} {b2 : Bool} {G : PH} {Q : Bool → Prop} : pEq G (.str x1) (.bl b2) Q = Q false := rfl
theorem o_eq_tt {t1 : List PV} {t2 : List PV} {G : PH} {Q : Bool → Prop} : pEq G (.tup t1) (.tup t2) Q = (SeqAt.shaped (datH G 60 (.tup t1)) = true ∧ SeqAt.shaped (datH G 60 (.tup t2)) = true ∧ Q (PyData.eqv (datH G 60 (.tup t1)) (datH G 60 (.tup t2)))) := rfl
theorem o_eq_tr {t1 : List PV} {a2 : Addr} {G : PH} {Q : Bool → Prop} : pEq G (.tup t1) (.ref a2) Q = (SeqAt.shaped (datH G 60 (.tup t1)) = true ∧ SeqAt.shaped (datH G 60 (.ref a2)) = true ∧ Q (PyData.eqv (datH G 60 (.tup t1)) (datH G 60 (.ref a2)))) := rfl
theorem o_eq_tn {t1 : List PV} {G : PH} {Q : Bool → Prop} : pEq G (.tup t1) .non Q = (SeqAt.shaped (datH G 60 (.tup t1)) = true ∧ SeqAt.shaped (datH G 60 .non) = true ∧ Q (PyData.eqv (datH G 60 (.tup t1)) (datH G 60 .non))) := rfl
theorem o_eq_nt {t2 : List PV} {G : PH} {Q : Bool → Prop} : pEq G .non (.tup t2) Q = (SeqAt.shaped (datH G 60 .non) = true ∧ SeqAt.shaped (datH G 60 (.tup t2)) = true ∧ Q (PyData.eqv (datH G 60 .non) (datH G 60 (.tup t2)))) := rfl
theorem o_eq_ti {t1 : List PV} {i2 : Int} {G : PH} {Q : Bool → Prop} : pEq G (.tup t1) (.int i2) Q = (SeqAt.shaped (datH G 60 (.tup t1)) = true ∧ SeqAt.shaped (datH G 60 (.int i2)) = true ∧ Q (PyData.eqv (datH G 60 (.tup t1)) (datH G 60 (.int i2)))) := rfl
theorem o_eq_it {i1 : Int} {t2 : List PV} {G : PH} {Q : Bool → Prop} : pEq G (.int i1) (.tup t2) Q = (SeqAt.shaped (datH G 60 (.int i1)) = true ∧ SeqAt.shaped (datH G 60 (.tup t2)) = true ∧ Q (PyData.eqv (datH G 60 (.int i1)) (datH G 60 (.tup t2)))) := rfl
theorem o_eq_tb {t1 : List PV} {b2 : Bool} {G : PH} {Q : Bool → Prop} : pEq G (.tup t1) (.bl b2) Q = (SeqAt.shaped (datH G 60 (.tup t1)) = true ∧ SeqAt.shaped (datH G 60 (.bl b2)) = true ∧ Q (PyData.eqv (datH G 60 (.tup t1)) (datH G 60 (.bl b2)))) := rfl
theorem o_eq_bt {b1 : Bool} {t2 : List PV} {G : PH} {Q : Bool → Prop} : pEq G (.bl b1) (.tup t2) Q = (SeqAt.shaped (datH G 60 (.bl b1)) = true ∧ SeqAt.shaped (datH G 60 (.tup t2)) = true ∧ Q (PyData.eqv (datH G 60 (.bl b1)) (datH G 60 (.tup t2)))) := rfl
theorem o_eq_ts {t1 : List PV} {x2 : Str} {G : PH} {Q : Bool → Prop} : pEq G (.tup t1) (.str x2) Q = (SeqAt.shaped (datH G 60 (.tup t1)) = true ∧ SeqAt.shaped (datH G 60 (.str x2)) = true ∧ Q (PyData.eqv (datH G 60 (.tup t1)) (datH G 60 (.str x2)))) := rfl
theorem o_eq_st {x1 : Str} {t2 : List PV} {G : PH} {Q : Bool → Prop} : pEq G (.str x1) (.tup t2) Q = (SeqAt.shaped (datH G 60 (.str x1)) = true ∧ SeqAt.shaped (datH G 60 (.tup t2)) = true ∧ Q (PyData.eqv (datH G 60 (.str x1)) (datH G 60 (.tup t2)))) := rfl
theorem o_eq_rt {a1 : Addr} {t2 : List PV} {G : PH} {Q : Bool → Prop} : pEq G (.ref a1) (.tup t2) Q = (SeqAt.shaped (datH G 60 (.ref a1)) = true ∧ SeqAt.shaped (datH G 60 (.tup t2)) = true ∧ Q (PyData.eqv (datH G 60 (.ref a1)) (datH G 60 (.tup t2)))) := rfl
theorem o_eq_rr {a1 : Addr} {a2 : Addr} {G : PH} {Q : Bool → Prop} : pEq G (.ref a1) (.ref a2) Q = (SeqAt.shaped (datH G 60 (.ref a1)) = true ∧ SeqAt.shaped (datH G 60 (.ref a2)) = true ∧ Q (PyData.eqv (datH G 60 (.ref a1)) (datH G 60 (.ref a2)))) := rfl
theorem o_eq_rn {a1 : Addr} {G : PH} {Q : Bool → Prop} : pEq G (.ref a1) .non Q = (SeqAt.shaped (datH G 60 (.ref a1)) = true ∧ SeqAt.shaped (datH G 60 .non) = true ∧ Q (PyData.eqv (datH G 60 (.ref a1)) (datH G 60 .non))) := rfl
theorem o_eq_nr {a2 : Addr} {G : PH} {Q : Bool → Prop} : pEq G .non (.ref a2) Q = (SeqAt.shaped (datH G 60 .non) = true ∧ SeqAt.shaped (datH G 60 (.ref a2)) = true ∧ Q (PyData.eqv (datH G 60 .non) (datH G 60 (.ref a2)))) := rfl
theorem o_eq_ri {a1 : Addr} {i2 : Int} {G : PH} {Q : Bool → Prop} : pEq G (.ref a1) (.int i2) Q = (SeqAt.shaped (datH G 60 (.ref a1)) = true ∧ SeqAt.shaped (datH G 60 (.int i2)) = true ∧ Q (PyData.eqv (datH G 60 (.ref a1)) (datH G 60 (.int i2)))) := rfl
theorem o_eq_ir {i1 : Int} {a2 : Addr} {G : PH} {Q : Bool → Prop} : pEq G (.int i1) (.ref a2) Q = (SeqAt.shaped (datH G 60 (.int i1)) = true ∧ SeqAt.shaped (datH G 60 (.ref a2)) = true ∧ Q (PyData.eqv (datH G 60 (.int i1)) (datH G 60 (.ref a2)))) := rfl
theorem o_eq_rb {a1 : Addr} {b2 : Bool} {G : PH} {Q : Bool → Prop} : pEq G (.ref a1) (.bl b2) Q = (SeqAt.shaped (datH G 60 (.ref a1)) = true ∧ SeqAt.shaped (datH G 60 (.bl b2)) = true ∧ Q (PyData.eqv (datH G 60 (.ref a1)) (datH G 60 (.bl b2)))) := rfl
theorem o_eq_br {b1 : Bool} {a2 : Addr} {G : PH} {Q : Bool → Prop} : pEq G (.bl b1) (.ref a2) Q = (SeqAt.shaped (datH G 60 (.bl b1)) = true ∧ SeqAt.shaped (datH G 60 (.ref a2)) = true ∧ Q (PyData.eqv (datH G 60 (.bl b1)) (datH G 60 (.ref a2)))) := rfl
theorem o_eq_rs {a1 : Addr} {x2 : Str} {G : PH} {Q : Bool → Prop} : pEq G (.ref a1) (.str x2) Q = (SeqAt.shaped (datH G 60 (.ref a1)) = true ∧ SeqAt.shaped (datH G 60 (.str x2)) = true ∧ Q (PyData.eqv (datH G 60 (.ref a1)) (datH G 60 (.str x2)))) := rfl
theorem o_eq_sr {x1 : Str} {a2 : Addr} {G : PH} {Q : Bool → Prop} : pEq G (.str x1) (.ref a2) Q = (SeqAt.shaped (datH G 60 (.str x1)) = true ∧ SeqAt.shaped (datH G 60 (.ref a2)) = true ∧ Q (PyData.eqv (datH G 60 (.str x1)) (datH G 60 (.ref a2)))) := rfl
theorem o_tru_n {G : PH} {Q : Bool → Prop} : pTru .non G Q = Q false := rfl
theorem o_tru_b {b : Bool} {G : PH} {Q : Bool → Prop} : pTru (.bl b) G Q = Q b := rfl
theorem o_tru_i {i : Int} {G : PH} {Q : Bool → Prop} : pTru (.int i) G Q = Q (i != 0) := rfl
theorem o_tru_s {x : Str} {G : PH} {Q : Bool → Prop} : pTru (.str x) G Q = (x.length ≤ sizeLine ∧ Q (x.length != 0)) := rfl
theorem o_tru_t {x : List PV} {G : PH} {Q : Bool → Prop} : pTru (.tup x) G Q = Q (!x.isEmpty) := rfl
theorem o_tru_w {x : List PV} {G : PH} {Q : Bool → Prop} : pTru (.wl x) G Q = Q (!x.isEmpty) := rfl
theorem o_tru_r {a : Addr} {G : PH} {Q : Bool → Prop} : pTru (.ref a) G Q = (match G a with | some (.lst xs) => Q (!xs.isEmpty) | _ => False) := rfl
theorem o_idx_t {xs : List PV} {i : Int} {G : PH} {Q : VP} : pIdx (.tup xs) (.int i) G Q = (match L2.atI xs i with | some v => Q v G | none => False) := rfl
theorem o_idx_w {xs : List PV} {i : Int} {G : PH} {Q : VP} : pIdx (.wl xs) (.int i) G Q = (match L2.atI xs i with | some v => Q v G | none => False) := rfl
theorem o_idx_r {a : Addr} {i : Int} {G : PH} {Q : VP} : pIdx (.ref a) (.int i) G Q = (match G a with | some (.lst xs) => (match L2.atI xs i with | some v => Q v G | none => False) | _ => False) := rfl
theorem o_idx_s {z : Str} {i : Int} {G : PH} {Q : VP} : pIdx (.str z) (.int i) G Q = (z.length ≤ sizeLine ∧ match L2.atI z.cps.toList i with | some c => Q (.str ⟨#[c]⟩) G | none => False) := rfl
theorem o_idx_d {ks : List Str} {vs : List PV} {z : Str} {G : PH} {Q : VP} : pIdx (.wd ks vs) (.str z) G Q = (ks.length = vs.length ∧ match (ks.zip vs).lookup z with | some v => Q v G | none => False) := rfl
theorem o_sl_t {xs : List PV} {lo hi : Option Int} {G : PH} {Q : VP} : pSl (.tup xs) lo hi G Q = Q (.tup ((xs.drop (HT.sIx xs.length 0 lo)).take (HT.sIx xs.length xs.length hi - HT.sIx xs.length 0 lo))) G := rfl
theorem o_sl_s {z : Str} {lo hi : Option Int} {G : PH} {Q : VP} : pSl (.str z) lo hi G Q = (z.length ≤ sizeLine ∧ Q (.str (L2.cutS z lo hi)) G) := rfl
theorem o_sl_r {a : Addr} {lo hi : Option Int} {G : PH} {Q : VP} : pSl (.ref a) lo hi G Q = (match G a with | some (.lst xs) => ∀ p, G p = none → Q (.ref p) (pu G p (.lst ((xs.drop (HT.sIx xs.length 0 lo)).take (HT.sIx xs.length xs.length hi - HT.sIx xs.length 0 lo)))) | _ => False) := rfl
theorem o_isi_n {t0 : String} {G : PH} {Q : VP} : pIsi t0 .non G Q = (match L2.kitB "NoneType" t0 with | some k => Q (.bl k) G | none => False) := rfl
theorem o_isi_b {t0 : String} {b : Bool} {G : PH} {Q : VP} : pIsi t0 (.bl b) G Q = (match L2.kitB "bool" t0 with | some k => Q (.bl k) G | none => False) := rfl
theorem o_isi_i {t0 : String} {i : Int} {G : PH} {Q : VP} : pIsi t0 (.int i) G Q = (match L2.kitB "int" t0 with | some k => Q (.bl k) G | none => False) := rfl
theorem o_isi_s {t0 : String} {x : Str} {G : PH} {Q : VP} : pIsi t0 (.str x) G Q = (match L2.kitB "str" t0 with | some k => Q (.bl k) G | none => False) := rfl
theorem o_isi_t {t0 : String} {t : List PV} {G : PH} {Q : VP} : pIsi t0 (.tup t) G Q = (match L2.kitB "tuple" t0 with | some k => Q (.bl k) G | none => False) := rfl
theorem o_isi_w {t0 : String} {w : List PV} {G : PH} {Q : VP} : pIsi t0 (.wl w) G Q = (match L2.kitB "list" t0 with | some k => Q (.bl k) G | none => False) := rfl
theorem o_isi_d {t0 : String} {ks : List Str} {vs : List PV} {G : PH} {Q : VP} : pIsi t0 (.wd ks vs) G Q = (match L2.kitB "dict" t0 with | some k => Q (.bl k) G | none => False) := rfl
theorem o_isi_r {t0 : String} {a : Addr} {G : PH} {Q : VP} : pIsi t0 (.ref a) G Q = (match (match G a with | some (.lst _) => some (.inl "list") | some (.dict _) => some (.inl "dict") | some (.ins C _) => some (.inr C) | none => none : Option (String ⊕ Addr)) with | some (.inl u) => (match L2.kitB u t0 with | some k => Q (.bl k) G | none => False) | _ => False) := rfl
theorem o_len_t {x : List PV} {G : PH} {Q : VP} : bLen [.tup x] G Q = Q (.int (x.length : Nat)) G := rfl
theorem o_len_w {x : List PV} {G : PH} {Q : VP} : bLen [.wl x] G Q = Q (.int (x.length : Nat)) G := rfl
theorem o_len_s {x : Str} {G : PH} {Q : VP} : bLen [.str x] G Q = (if x.length ≤ sizeLine then Q (.int (x.length : Nat)) G else False) := by by_cases h : x.length ≤ sizeLine <;> simp [bLen, pLen, h]
theorem o_len_r {a : Addr} {G : PH} {Q : VP} : bLen [.ref a] G Q = (match G a with | some (.lst xs) => Q (.int (xs.length : Nat)) G | _ => False) := by cases h : G a with | none => simp [bLen, pLen, h] | some o => cases o <;> simp [bLen, pLen, h]
theorem o_abs {i : Int} {G : PH} {Q : VP} : bAbs [.int i] G Q = Q (.int (if i < 0 then -i else i)) G := rfl
theorem o_max {i j : Int} {G : PH} {Q : VP} : bMax [.int i, .int j] G Q = Q (.int (if j > i then j else i)) G := rfl
theorem o_min {i j : Int} {G : PH} {Q : VP} : bMin [.int i, .int j] G Q = Q (.int (if j < i then j else i)) G := rfl
theorem o_str {i : Int} {G : PH} {Q : VP} : bStr [.int i] G Q = (i.natAbs.log2 < 1920 ∧ Q (.str (Str.ofString (toString i))) G) := rfl
theorem o_repr {x : PV} {G : PH} {Q : VP} : bRepr [x] G Q = (SeqAt.shaped (datH G 60 x) = true ∧ (datH G 60 x).showable = true ∧ (datH G 60 x).shown.length ≤ sizeLine ∧ Q (.str (datH G 60 x).shown) G) := rfl
theorem o_tuple_t {x : List PV} {G : PH} {Q : VP} : bTuple [.tup x] G Q = Q (.tup x) G := rfl
theorem o_tuple_r {a : Addr} {G : PH} {Q : VP} : bTuple [.ref a] G Q = (match G a with | some (.lst ys) => Q (.tup ys) G | _ => False) := rfl
theorem o_list_t {x : List PV} {G : PH} {Q : VP} : bList [.tup x] G Q = (∀ p, G p = none → Q (.ref p) (pu G p (.lst x))) := rfl
theorem o_list_r {a : Addr} {G : PH} {Q : VP} : bList [.ref a] G Q = (match G a with | some (.lst ys) => ∀ p, G p = none → Q (.ref p) (pu G p (.lst ys)) | _ => False) := rfl
theorem o_set_r {a : Addr} {i : Int} {v : PV} {G : PH} {Q : PH → Prop} : pSet (.ref a) (.int i) v G Q = (match G a with | some (.lst xs) => (match L2.ixN xs.length i with | some j => Q (pu G a (.lst (xs.set j v))) | none => False) | _ => False) := rfl
theorem o_in_t {x : PV} {ys : List PV} {G : PH} {Q : Bool → Prop} : pIn G x (.tup ys) Q = pInS G x (.tup ys) ys Q := rfl
theorem o_in_w {x : PV} {ys : List PV} {G : PH} {Q : Bool → Prop} : pIn G x (.wl ys) Q = pInS G x (.wl ys) ys Q := rfl
theorem o_in_r {x : PV} {a : Addr} {G : PH} {Q : Bool → Prop} : pIn G x (.ref a) Q = (match G a with | some (.lst ys) => pInS G x (.ref a) ys Q | _ => False) := rfl
theorem o_in_s {z a : Str} {G : PH} {Q : Bool → Prop} : pIn G (.str a) (.str z) Q = Q (!(Builtin.Str.occurrences z a 0 z.length 1).isEmpty) := rfl
theorem o_in_d {ks : List Str} {vs : List PV} {z : Str} {G : PH} {Q : Bool → Prop} : pIn G (.str z) (.wd ks vs) Q = (ks.length = vs.length ∧ Q (ks.contains z)) := rfl
theorem o_neg {o : Orc} {a : E} {σ : PSt} {G : PH} {Q : VP} {W : PX} {i : Int} : (fun (x : PV) (G : PH) (Q : VP) => match x with | .int i => Q (.int (-i)) G | _ => False) (.int i) G Q = Q (.int (-i)) G := rfl
/-- a loop, by what holds ahead of each turn -/
theorem for_inv {kp : Keep} {g : TPG} {tb : TPS} {D : PD} {xs : List PV} {σ : PSt} {G : PH} (I : List PV → PSt → PH → Prop) (h0 : I xs σ G) (hk : ∀ xs σ G, I xs σ G → Kept kp G) (hn : ∀ σ G, I [] σ G → D.nx σ G)
    (hs : ∀ (x : PV) (xs : List PV) (σ : PSt) (G : PH) (R : PSt → PH → Prop), I (x :: xs) σ G → (∀ σ3 G3 G4, Sub G4 G3 → I xs σ3 G4 → R σ3 G3) → g x σ G (fun σ2 G2 => tb { D with nx := R, ct := R, bk := D.nx } σ2 G2) D.ex) : forL kp g tb D xs σ G := by
  induction xs generalizing σ G with
  | nil => exact ⟨hk _ _ _ h0, hn _ _ h0⟩
  | cons x xs ih => exact ⟨hk _ _ _ h0, hs x xs σ G _ h0 fun σ3 G3 G4 s i => ⟨G4, s, ih i⟩⟩
theorem lc_inv {kp : Keep} {g : TPG} {tt : TPT} {te : TPE} {σ0 : PSt} {xs acc : List PV} {G : PH} {Q : List PV → PH → Prop} (I : List PV → List PV → PH → Prop) (h0 : I xs acc G) (hk : ∀ xs acc G, I xs acc G → Kept kp G) (hn : ∀ acc G, I [] acc G → Q acc G)
    (hs : ∀ (x : PV) (xs acc : List PV) (G : PH) (R : List PV → PH → Prop), I (x :: xs) acc G → (∀ acc G, I xs acc G → R acc G) → g x σ0 G (fun σ2 G2 => tt σ2 G2 (fun b G3 => if b = true then te σ2 G3 (fun y G4 => acc.length < sizeLine ∧ R (acc ++ [y]) G4) noX else R acc G3) noX) noX) : lcL kp g tt te σ0 xs acc G Q := by
  induction xs generalizing acc G with
  | nil => exact ⟨hk _ _ _ h0, hn _ _ h0⟩
  | cons x xs ih => exact ⟨hk _ _ _ h0, hs x xs acc G _ h0 fun acc G i => ih i⟩
theorem kept_nil {G : PH} : Kept [] G := fun _ h => nomatch h
theorem kept_one {a : Addr} {o : PO} {G : PH} (h : G a = some o) : Kept [(a, o)] G := fun p hp => by
  rcases List.mem_cons.1 hp with rfl | hp
  · exact h
  · cases hp
theorem atI_last {α : Type} {xs : List α} {x : α} : L2.atI (x :: xs) (-1) = some ((x :: xs).getLast (List.cons_ne_nil _ _)) := by
  unfold L2.atI L2.ixN
  rw [if_neg (by omega), if_pos (by simp; omega)]
  have : ((-1 : Int) + ((x :: xs).length : Nat)).toNat = xs.length := by simp; omega
  rw [this, Option.bind_some, List.getLast_eq_getElem, List.getElem?_eq_getElem (by simp)]
  simp
theorem ss_cons {o : Orc} {s : S} {r : Ss} {D : PD} {σ : PSt} {G : PH} (h : wS o s { D with nx := fun σ2 G2 => wSs o r D σ2 G2 } σ G) : wSs o (.cons s r) D σ G := h
/-- one statement, what follows kept out of sight -/
theorem ss_step {o : Orc} {s : S} {r : Ss} {D : PD} {σ : PSt} {G : PH} (h : ∀ N : PSt → PH → Prop, (∀ σ2 G2, wSs o r D σ2 G2 → N σ2 G2) → wS o s { D with nx := N } σ G) : wSs o (.cons s r) D σ G := h _ fun _ _ h => h
theorem ss_nil {o : Orc} {D : PD} {σ : PSt} {G : PH} (h : D.nx σ G) : wSs o .nil D σ G := h
/-- a bag: what is left of the digits, the mixer's start, the count -/
def BagO (o : PO) (c : Int) : Prop := ∃ d m n : Int, o = .lst [.int d, .int m, .int n] ∧ 0 ≤ d ∧ 0 ≤ m ∧ m < 2305843009213693951 ∧ 0 ≤ n ∧ n ≤ c
theorem BagO.mono {o : PO} {c e : Int} (h : BagO o c) (k : c ≤ e) : BagO o e := by
  obtain ⟨d, m, n, a, b, b2, b3, b4, b5⟩ := h
  exact ⟨d, m, n, a, b, b2, b3, b4, by omega⟩
theorem cmul_lit {i j : Int} (h : -2 ^ 64 < i ∧ i < 2 ^ 64) : L2.CMul i j := .inl h
def bBag : Ss := .cons (.asg (.name 2) (.ite (.cmp .Lt (.var 1) (.blt .len (.one (.var 0) (.nil)))) (.idx (.var 0) (.var 1)) (.cst (.int 0))))
    (.cons (.asg (.name 3) (.ite (.cmp .GtE (.blt .abs (.one (.var 2) (.nil))) (.bin .Pow (.cst (.int 10)) (.cst (.int 18)))) (.blt .abs (.one (.var 2) (.nil))) (.cst (.int 0))))
    (.cons (.ret (.lst (.one (.var 3) (.one (.bin .Mod (.bin .Mult (.bin .Add (.bin .Add (.bin .Mod (.var 2) (.cst (.int 2305843009213693951))) (.bin .Mult (.cst (.int 7919)) (.var 1))) (.cst (.int 3))) (.cst (.int 6700417))) (.cst (.int 2305843009213693951))) (.one (.cst (.int 0)) (.nil))))))
    (.nil)))
def dBag : FDef := { pos := ["_law_script", "_law_at"], ko := [], va := none, N := ["_law_script", "_law_at", "_law_cell", "_law_digits"], body := bBag, dfl := [], kdf := [] }
def bTake : Ss := .cons (.ifs (.cmp .Gt (.idx (.var 0) (.cst (.int 0))) (.cst (.int 0))) (.cons (.asg (.name 2) (.bin .Mod (.idx (.var 0) (.cst (.int 0))) (.var 1)))
    (.cons (.asg (.sub (.var 0) (.cst (.int 0))) (.bin .FloorDiv (.idx (.var 0) (.cst (.int 0))) (.var 1)))
    (.cons (.ret (.var 2))
    (.nil)))) (.nil))
    (.cons (.asg (.sub (.var 0) (.cst (.int 2))) (.bin .Add (.idx (.var 0) (.cst (.int 2))) (.cst (.int 1))))
    (.cons (.asg (.name 3) (.bin .Mod (.bin .Pow (.bin .Add (.idx (.var 0) (.cst (.int 1))) (.bin .Mult (.cst (.int 1000003)) (.idx (.var 0) (.cst (.int 2))))) (.cst (.int 3))) (.cst (.int 2305843009213693921))))
    (.cons (.asg (.name 3) (.bin .Mod (.bin .Pow (.bin .Add (.var 3) (.bin .Mult (.cst (.int 15485863)) (.idx (.var 0) (.cst (.int 2))))) (.cst (.int 2))) (.cst (.int 2305843009213693951))))
    (.cons (.ret (.bin .Mod (.bin .FloorDiv (.var 3) (.cst (.int 1024))) (.var 1)))
    (.nil)))))
def dTake : FDef := { pos := ["_law_bag_here", "_law_many"], ko := [], va := none, N := ["_law_bag_here", "_law_many", "_law_digit", "_law_mixed"], body := bTake, dfl := [], kdf := [] }
section
variable {Γ : Str → Option FDef} {gl : Str → Option PV}
theorem s_take (hΓ : Γ "_law_take" = some dTake) (k : Nat) {G : PH} {a : Addr} {o : PO} {c many : Int} {Q : VP} {P : Fv.PC} (h : G a = some o) (b : BagO o c) (hc : c < 1000000000000) (hm : 0 < many) (hm2 : many < 2 ^ 30)
    (q : ∀ r o2, 0 ≤ r → r < many → BagO o2 (c + 1) → Q (.int r) (pu G a o2)) : (Fv.run Γ gl (k + 1)).fn "_law_take" [.ref a, .int many] [] G Q P := by
  obtain ⟨d, m, n, rfl, hd, hm0, hm1, hn0, hn⟩ := b
  refine run_call hΓ (d := dTake) rfl ?_
  show wSs _ bTake _ [some (.ref a), some (.int many), none, none] G
  (try simp only [Fv.wSs, Fv.wS, Fv.wE, Fv.wT, Fv.wTs, Fv.wA, Fv.wO, Fv.wG, Fv.wGs, Fv.wI, Fv.wVar, Fv.wCst, Fv.wOp, Fv.wUn, Fv.wIte, Fv.wNil, Fv.wCons, Fv.wTup, Fv.wLst, Fv.wCall, Fv.wName, Fv.wGNil, Fv.wGCons, Fv.pBin, Fv.pCmp, Fv.pCmpB, Fv.pBn, Fv.pIsN, Fv.isNon, Fv.endP, List.getElem?_cons_zero, List.getElem?_cons_succ, List.set_cons_zero, List.set_cons_succ, List.map_cons, List.map_nil, List.zip_cons_cons, List.zip_nil_left, Option.map_some, decide_eq_true_eq, if_true, if_false, reduceCtorEq, ↓reduceIte, Bool.not_true, Bool.not_false, Bool.false_eq_true, Fv.pu_same, Fv.pu_pu, L2.ixN, Fv.atI_0, Fv.atI_1, Fv.atI_2, Fv.atI_3, Fv.atI_4, Fv.atI_5, List.length_cons, List.length_nil, Nat.reduceAdd, Int.reduceLT, Int.reduceLE, Int.cast_ofNat_Int, List.length_set, Nat.lt_add_one, true_and, Option.bind_some, Int.toNat_zero, Int.toNat_one, Int.reduceToNat, Nat.zero_add, Int.zero_lt_one, Int.reduceBEq, beq_self_eq_true, List.length_map, ite_true, ite_false, Int.reduceNeg, Fv.atI_last, List.getLast_cons_cons, List.getLast_singleton, Fv.kb_NoneType_tuple, Fv.kb_NoneType_int, Fv.kb_NoneType_bool, Fv.kb_NoneType_str, Fv.kb_NoneType_list, Fv.kb_NoneType_dict, Fv.kb_bool_tuple, Fv.kb_bool_int, Fv.kb_bool_bool, Fv.kb_bool_str, Fv.kb_bool_list, Fv.kb_bool_dict, Fv.kb_int_tuple, Fv.kb_int_int, Fv.kb_int_bool, Fv.kb_int_str, Fv.kb_int_list, Fv.kb_int_dict, Fv.kb_str_tuple, Fv.kb_str_int, Fv.kb_str_bool, Fv.kb_str_str, Fv.kb_str_list, Fv.kb_str_dict, Fv.kb_tuple_tuple, Fv.kb_tuple_int, Fv.kb_tuple_bool, Fv.kb_tuple_str, Fv.kb_tuple_list, Fv.kb_tuple_dict, Fv.kb_list_tuple, Fv.kb_list_int, Fv.kb_list_bool, Fv.kb_list_str, Fv.kb_list_list, Fv.kb_list_dict, Fv.kb_dict_tuple, Fv.kb_dict_int, Fv.kb_dict_bool, Fv.kb_dict_str, Fv.kb_dict_list, Fv.kb_dict_dict, Fv.o_add_ii, Fv.o_add_ss, Fv.o_add_tt, Fv.o_add_rr, Fv.o_sub_ii, Fv.o_mul_ii, Fv.o_mul_rk, Fv.o_mod_ii, Fv.o_div_ii, Fv.o_pow_ii, Fv.o_lt_ii, Fv.o_lt_ss, Fv.o_eq_nn, Fv.o_eq_ni, Fv.o_eq_in, Fv.o_eq_nb, Fv.o_eq_bn, Fv.o_eq_ns, Fv.o_eq_sn, Fv.o_eq_ii, Fv.o_eq_bb, Fv.o_eq_ss, Fv.o_eq_is, Fv.o_eq_si, Fv.o_eq_bs, Fv.o_eq_sb, Fv.o_eq_tt, Fv.o_eq_tr, Fv.o_eq_tn, Fv.o_eq_nt, Fv.o_eq_ti, Fv.o_eq_it, Fv.o_eq_tb, Fv.o_eq_bt, Fv.o_eq_ts, Fv.o_eq_st, Fv.o_eq_rt, Fv.o_eq_rr, Fv.o_eq_rn, Fv.o_eq_nr, Fv.o_eq_ri, Fv.o_eq_ir, Fv.o_eq_rb, Fv.o_eq_br, Fv.o_eq_rs, Fv.o_eq_sr, Fv.o_tru_n, Fv.o_tru_b, Fv.o_tru_i, Fv.o_tru_s, Fv.o_tru_t, Fv.o_tru_w, Fv.o_tru_r, Fv.o_idx_t, Fv.o_idx_w, Fv.o_idx_r, Fv.o_idx_s, Fv.o_idx_d, Fv.o_sl_t, Fv.o_sl_s, Fv.o_sl_r, Fv.o_isi_n, Fv.o_isi_b, Fv.o_isi_i, Fv.o_isi_s, Fv.o_isi_t, Fv.o_isi_w, Fv.o_isi_d, Fv.o_isi_r, Fv.o_len_t, Fv.o_len_w, Fv.o_len_s, Fv.o_len_r, Fv.o_abs, Fv.o_max, Fv.o_min, Fv.o_str, Fv.o_repr, Fv.o_tuple_t, Fv.o_tuple_r, Fv.o_list_t, Fv.o_list_r, Fv.o_set_r, Fv.o_in_t, Fv.o_in_w, Fv.o_in_r, Fv.o_in_s, Fv.o_in_d, Fv.setAll, eq_self, and_true, bTake, h])
  split
  · rename_i h0
    refine ⟨hm, ⟨hm, hm2⟩, _, Sub.refl _, ?_⟩
    exact q _ _ (Int.emod_nonneg _ (by omega)) (Int.emod_lt_of_pos _ hm) ⟨_, _, _, rfl, Int.ediv_nonneg hd (by omega), hm0, hm1, hn0, by omega⟩
  · have e1 : 0 ≤ (m + 1000003 * (n + 1)) ^ 3 % 2305843009213693921 := Int.emod_nonneg _ (by omega)
    have e2 : (m + 1000003 * (n + 1)) ^ 3 % 2305843009213693921 < 2305843009213693921 := Int.emod_lt_of_pos _ (by omega)
    generalize (m + 1000003 * (n + 1)) ^ 3 % 2305843009213693921 = X at e1 e2 ⊢
    refine ⟨.inl (by omega), ⟨by omega, by omega, by omega⟩, .inl (by omega), ⟨by omega, by omega, by omega⟩, ⟨by omega, by omega⟩, hm, _, Sub.refl _, ?_⟩
    exact q _ _ (Int.emod_nonneg _ (by omega)) (Int.emod_lt_of_pos _ hm) ⟨_, _, _, rfl, hd, hm0, hm1, by omega, by omega⟩
theorem pow18 : (10 : Int) ^ 18 = 1000000000000000000 := by decide
theorem atI_map {ns : List Int} {i : Int} (h0 : 0 ≤ i) (h1 : i < ns.length) : ∃ v, L2.atI (ns.map PV.int) i = some (.int v) := by
  rw [atI_int h0 (by simp; omega)]
  simp
theorem s_bag (hΓ : Γ "_law_bag" = some dBag) (k : Nat) {G : PH} {ns : List Int} {i : Int} {Q : VP} {P : Fv.PC} (h0 : 0 ≤ i) (h1 : i < 1000)
    (q : ∀ a o, G a = none → BagO o 0 → Q (.ref a) (pu G a o)) : (Fv.run Γ gl (k + 1)).fn "_law_bag" [.wl (ns.map .int), .int i] [] G Q P := by
  refine run_call hΓ (d := dBag) rfl ?_
  show wSs _ bBag _ [some (.wl (ns.map .int)), some (.int i), none, none] G
  have go : ∀ x : Int, wSs (Fv.run Γ gl k) (match bBag with | .cons _ r => r | .nil => .nil) (endP Q P) [some (.wl (ns.map .int)), some (.int i), some (.int x), none] G := fun x => by
    (try simp only [Fv.wSs, Fv.wS, Fv.wE, Fv.wT, Fv.wTs, Fv.wA, Fv.wO, Fv.wG, Fv.wGs, Fv.wI, Fv.wVar, Fv.wCst, Fv.wOp, Fv.wUn, Fv.wIte, Fv.wNil, Fv.wCons, Fv.wTup, Fv.wLst, Fv.wCall, Fv.wName, Fv.wGNil, Fv.wGCons, Fv.pBin, Fv.pCmp, Fv.pCmpB, Fv.pBn, Fv.pIsN, Fv.isNon, Fv.endP, List.getElem?_cons_zero, List.getElem?_cons_succ, List.set_cons_zero, List.set_cons_succ, List.map_cons, List.map_nil, List.zip_cons_cons, List.zip_nil_left, Option.map_some, decide_eq_true_eq, if_true, if_false, reduceCtorEq, ↓reduceIte, Bool.not_true, Bool.not_false, Bool.false_eq_true, Fv.pu_same, Fv.pu_pu, L2.ixN, Fv.atI_0, Fv.atI_1, Fv.atI_2, Fv.atI_3, Fv.atI_4, Fv.atI_5, List.length_cons, List.length_nil, Nat.reduceAdd, Int.reduceLT, Int.reduceLE, Int.cast_ofNat_Int, List.length_set, Nat.lt_add_one, true_and, Option.bind_some, Int.toNat_zero, Int.toNat_one, Int.reduceToNat, Nat.zero_add, Int.zero_lt_one, Int.reduceBEq, beq_self_eq_true, List.length_map, ite_true, ite_false, Int.reduceNeg, Fv.atI_last, List.getLast_cons_cons, List.getLast_singleton, Fv.kb_NoneType_tuple, Fv.kb_NoneType_int, Fv.kb_NoneType_bool, Fv.kb_NoneType_str, Fv.kb_NoneType_list, Fv.kb_NoneType_dict, Fv.kb_bool_tuple, Fv.kb_bool_int, Fv.kb_bool_bool, Fv.kb_bool_str, Fv.kb_bool_list, Fv.kb_bool_dict, Fv.kb_int_tuple, Fv.kb_int_int, Fv.kb_int_bool, Fv.kb_int_str, Fv.kb_int_list, Fv.kb_int_dict, Fv.kb_str_tuple, Fv.kb_str_int, Fv.kb_str_bool, Fv.kb_str_str, Fv.kb_str_list, Fv.kb_str_dict, Fv.kb_tuple_tuple, Fv.kb_tuple_int, Fv.kb_tuple_bool, Fv.kb_tuple_str, Fv.kb_tuple_list, Fv.kb_tuple_dict, Fv.kb_list_tuple, Fv.kb_list_int, Fv.kb_list_bool, Fv.kb_list_str, Fv.kb_list_list, Fv.kb_list_dict, Fv.kb_dict_tuple, Fv.kb_dict_int, Fv.kb_dict_bool, Fv.kb_dict_str, Fv.kb_dict_list, Fv.kb_dict_dict, Fv.o_add_ii, Fv.o_add_ss, Fv.o_add_tt, Fv.o_add_rr, Fv.o_sub_ii, Fv.o_mul_ii, Fv.o_mul_rk, Fv.o_mod_ii, Fv.o_div_ii, Fv.o_pow_ii, Fv.o_lt_ii, Fv.o_lt_ss, Fv.o_eq_nn, Fv.o_eq_ni, Fv.o_eq_in, Fv.o_eq_nb, Fv.o_eq_bn, Fv.o_eq_ns, Fv.o_eq_sn, Fv.o_eq_ii, Fv.o_eq_bb, Fv.o_eq_ss, Fv.o_eq_is, Fv.o_eq_si, Fv.o_eq_bs, Fv.o_eq_sb, Fv.o_eq_tt, Fv.o_eq_tr, Fv.o_eq_tn, Fv.o_eq_nt, Fv.o_eq_ti, Fv.o_eq_it, Fv.o_eq_tb, Fv.o_eq_bt, Fv.o_eq_ts, Fv.o_eq_st, Fv.o_eq_rt, Fv.o_eq_rr, Fv.o_eq_rn, Fv.o_eq_nr, Fv.o_eq_ri, Fv.o_eq_ir, Fv.o_eq_rb, Fv.o_eq_br, Fv.o_eq_rs, Fv.o_eq_sr, Fv.o_tru_n, Fv.o_tru_b, Fv.o_tru_i, Fv.o_tru_s, Fv.o_tru_t, Fv.o_tru_w, Fv.o_tru_r, Fv.o_idx_t, Fv.o_idx_w, Fv.o_idx_r, Fv.o_idx_s, Fv.o_idx_d, Fv.o_sl_t, Fv.o_sl_s, Fv.o_sl_r, Fv.o_isi_n, Fv.o_isi_b, Fv.o_isi_i, Fv.o_isi_s, Fv.o_isi_t, Fv.o_isi_w, Fv.o_isi_d, Fv.o_isi_r, Fv.o_len_t, Fv.o_len_w, Fv.o_len_s, Fv.o_len_r, Fv.o_abs, Fv.o_max, Fv.o_min, Fv.o_str, Fv.o_repr, Fv.o_tuple_t, Fv.o_tuple_r, Fv.o_list_t, Fv.o_list_r, Fv.o_set_r, Fv.o_in_t, Fv.o_in_w, Fv.o_in_r, Fv.o_in_s, Fv.o_in_d, Fv.setAll, eq_self, and_true, bBag])
    have hx : 0 ≤ (if x < 0 then -x else x) := by split <;> omega
    have hm : ∀ z : Int, 0 ≤ z % 2305843009213693951 ∧ z % 2305843009213693951 < 2305843009213693951 := fun z => ⟨Int.emod_nonneg _ (by omega), Int.emod_lt_of_pos _ (by omega)⟩
    generalize (if x < 0 then -x else x) = y at hx ⊢
    refine ⟨⟨by omega, by omega, by omega⟩, ?_⟩
    split
    · refine ⟨.inl (by omega), .inr (by omega), by decide, fun p hp => ⟨_, Sub.refl _, q p _ hp ⟨_, _, _, rfl, hx, (hm _).1, (hm _).2, by omega, by omega⟩⟩⟩
    · refine ⟨.inl (by omega), .inr (by omega), by decide, fun p hp => ⟨_, Sub.refl _, q p _ hp ⟨_, _, _, rfl, by omega, (hm _).1, (hm _).2, by omega, by omega⟩⟩⟩
  show wSs _ (.cons _ (match bBag with | .cons _ r => r | .nil => .nil)) _ _ _
  generalize hb : (match bBag with | .cons _ r => r | .nil => .nil) = B at go ⊢
  (try simp only [Fv.wSs, Fv.wS, Fv.wE, Fv.wT, Fv.wTs, Fv.wA, Fv.wO, Fv.wG, Fv.wGs, Fv.wI, Fv.wVar, Fv.wCst, Fv.wOp, Fv.wUn, Fv.wIte, Fv.wNil, Fv.wCons, Fv.wTup, Fv.wLst, Fv.wCall, Fv.wName, Fv.wGNil, Fv.wGCons, Fv.pBin, Fv.pCmp, Fv.pCmpB, Fv.pBn, Fv.pIsN, Fv.isNon, Fv.endP, List.getElem?_cons_zero, List.getElem?_cons_succ, List.set_cons_zero, List.set_cons_succ, List.map_cons, List.map_nil, List.zip_cons_cons, List.zip_nil_left, Option.map_some, decide_eq_true_eq, if_true, if_false, reduceCtorEq, ↓reduceIte, Bool.not_true, Bool.not_false, Bool.false_eq_true, Fv.pu_same, Fv.pu_pu, L2.ixN, Fv.atI_0, Fv.atI_1, Fv.atI_2, Fv.atI_3, Fv.atI_4, Fv.atI_5, List.length_cons, List.length_nil, Nat.reduceAdd, Int.reduceLT, Int.reduceLE, Int.cast_ofNat_Int, List.length_set, Nat.lt_add_one, true_and, Option.bind_some, Int.toNat_zero, Int.toNat_one, Int.reduceToNat, Nat.zero_add, Int.zero_lt_one, Int.reduceBEq, beq_self_eq_true, List.length_map, ite_true, ite_false, Int.reduceNeg, Fv.atI_last, List.getLast_cons_cons, List.getLast_singleton, Fv.kb_NoneType_tuple, Fv.kb_NoneType_int, Fv.kb_NoneType_bool, Fv.kb_NoneType_str, Fv.kb_NoneType_list, Fv.kb_NoneType_dict, Fv.kb_bool_tuple, Fv.kb_bool_int, Fv.kb_bool_bool, Fv.kb_bool_str, Fv.kb_bool_list, Fv.kb_bool_dict, Fv.kb_int_tuple, Fv.kb_int_int, Fv.kb_int_bool, Fv.kb_int_str, Fv.kb_int_list, Fv.kb_int_dict, Fv.kb_str_tuple, Fv.kb_str_int, Fv.kb_str_bool, Fv.kb_str_str, Fv.kb_str_list, Fv.kb_str_dict, Fv.kb_tuple_tuple, Fv.kb_tuple_int, Fv.kb_tuple_bool, Fv.kb_tuple_str, Fv.kb_tuple_list, Fv.kb_tuple_dict, Fv.kb_list_tuple, Fv.kb_list_int, Fv.kb_list_bool, Fv.kb_list_str, Fv.kb_list_list, Fv.kb_list_dict, Fv.kb_dict_tuple, Fv.kb_dict_int, Fv.kb_dict_bool, Fv.kb_dict_str, Fv.kb_dict_list, Fv.kb_dict_dict, Fv.o_add_ii, Fv.o_add_ss, Fv.o_add_tt, Fv.o_add_rr, Fv.o_sub_ii, Fv.o_mul_ii, Fv.o_mul_rk, Fv.o_mod_ii, Fv.o_div_ii, Fv.o_pow_ii, Fv.o_lt_ii, Fv.o_lt_ss, Fv.o_eq_nn, Fv.o_eq_ni, Fv.o_eq_in, Fv.o_eq_nb, Fv.o_eq_bn, Fv.o_eq_ns, Fv.o_eq_sn, Fv.o_eq_ii, Fv.o_eq_bb, Fv.o_eq_ss, Fv.o_eq_is, Fv.o_eq_si, Fv.o_eq_bs, Fv.o_eq_sb, Fv.o_eq_tt, Fv.o_eq_tr, Fv.o_eq_tn, Fv.o_eq_nt, Fv.o_eq_ti, Fv.o_eq_it, Fv.o_eq_tb, Fv.o_eq_bt, Fv.o_eq_ts, Fv.o_eq_st, Fv.o_eq_rt, Fv.o_eq_rr, Fv.o_eq_rn, Fv.o_eq_nr, Fv.o_eq_ri, Fv.o_eq_ir, Fv.o_eq_rb, Fv.o_eq_br, Fv.o_eq_rs, Fv.o_eq_sr, Fv.o_tru_n, Fv.o_tru_b, Fv.o_tru_i, Fv.o_tru_s, Fv.o_tru_t, Fv.o_tru_w, Fv.o_tru_r, Fv.o_idx_t, Fv.o_idx_w, Fv.o_idx_r, Fv.o_idx_s, Fv.o_idx_d, Fv.o_sl_t, Fv.o_sl_s, Fv.o_sl_r, Fv.o_isi_n, Fv.o_isi_b, Fv.o_isi_i, Fv.o_isi_s, Fv.o_isi_t, Fv.o_isi_w, Fv.o_isi_d, Fv.o_isi_r, Fv.o_len_t, Fv.o_len_w, Fv.o_len_s, Fv.o_len_r, Fv.o_abs, Fv.o_max, Fv.o_min, Fv.o_str, Fv.o_repr, Fv.o_tuple_t, Fv.o_tuple_r, Fv.o_list_t, Fv.o_list_r, Fv.o_set_r, Fv.o_in_t, Fv.o_in_w, Fv.o_in_r, Fv.o_in_s, Fv.o_in_d, Fv.setAll, eq_self, and_true, List.length_map])
  split
  · rename_i hl
    obtain ⟨v, e⟩ := atI_map (ns := ns) h0 hl
    simp only [e]
    exact go v
  · exact go 0
end
end Fv

set_option Elab.async false
set_option linter.all false
set_option maxRecDepth 100000
set_option maxHeartbeats 2000000
namespace Fv
open PySem L2
/-- a map of a value: always this number, or the found number and so much more -/
inductive Mp where
  | num (i : Int) | fnd (i : Int)
def Mp.i : Mp → Int
  | .num i => i
  | .fnd i => i
def Mp.pv : Mp → PV
  | .num i => .int i
  | .fnd i => .tup [.str "found", .int i]
def Mp.isF : Mp → Bool
  | .num _ => false
  | .fnd _ => true
def Mp.app (m : Mp) (x b : Int) : Int := match m with
  | .num i => i
  | .fnd n => (x + n) % b
def Mp.join (m n : Mp) (b : Int) : Mp := match n with
  | .num i => .num i
  | .fnd j => match m with
    | .num i => .num ((i + j) % b)
    | .fnd i => .fnd ((i + j) % b)
def Mp.comp (ms : List Mp) (b : Int) : Mp := ms.foldl (fun m n => m.join n b) (.fnd 0)
def Mp.ok (m : Mp) (b : Int) : Prop := 0 ≤ m.i ∧ m.i < b
def Mp.dat : Mp → PyData
  | .num i => .int i
  | .fnd i => .tuple [.str "found", .int i]
theorem Mp.dat_pv (m : Mp) (G : PH) : datH G 60 m.pv = m.dat := by
  cases m <;> simp [Mp.pv, Mp.dat, datH, PV.dat]
theorem Mp.shaped (m : Mp) : SeqAt.shaped m.dat = true := by
  cases m <;> simp [Mp.dat, SeqAt.shaped, PyData.canLay0, PyData.canLayAll0, PyData.depth, PyData.depthAll] <;> decide +kernel
theorem log2_small {i : Int} (h0 : 0 ≤ i) (h : i < 2 ^ 62) : i.natAbs.log2 < 1920 := by
  have : i.natAbs < 2 ^ 62 := by omega
  by_cases z : i.natAbs = 0
  · rw [z]; decide
  · have := (Nat.log2_lt z).2 this
    omega
theorem Mp.showable {m : Mp} {b : Int} (h : m.ok b) (hb : b < 2 ^ 62) : m.dat.showable = true := by
  have := log2_small h.1 (Int.lt_trans h.2 hb)
  cases m <;> simp [Mp.dat, PyData.showable, PyData.showableAll, Mp.i] at this ⊢ <;> exact this
theorem str_app (a b : Str) : (a ++ b).length = a.length + b.length := by
  show (a.cps ++ b.cps).size = _
  rw [Array.size_append]; rfl
theorem Mp.short {m : Mp} {b : Int} (h : m.ok b) (hb : b < 2 ^ 62) : m.dat.shown.length ≤ sizeLine := by
  have h2 := PyProof.Rows.int_text_len_1921 (log2_small h.1 (Int.lt_trans h.2 hb))
  have e : sizeLine = 16777216 := rfl
  cases m with
  | num i => exact Nat.le_trans h2 (by decide)
  | fnd i =>
    have j := join_length_add [reprText "found", Str.ofString (toString i)] (by simp)
    show (tupleText [reprText "found", Str.ofString (toString i)]).length ≤ _
    unfold tupleText
    rw [str_app, str_app]
    have p : piled [reprText "found", Str.ofString (toString i)] ≤ 2000 + 1921 := by
      have r : (reprText "found").length = 7 := by decide +kernel
      simp only [Mp.i] at h2
      simp only [piled, List.map_cons, List.map_nil, List.sum_cons, List.sum_nil]
      omega
    have q1 : (Str.ofString "(").length = 1 := by decide +kernel
    have q2 : (Str.ofString ")").length = 1 := by decide +kernel
    simp only [List.length_cons, List.length_nil]
    rw [if_neg (by decide)]
    omega
def bApply : Ss := .cons (.ret (.ite (.e (.isi (.var 0) "tuple")) (.bin .Mod (.bin .Add (.var 1) (.idx (.var 0) (.cst (.int 1)))) (.var 2)) (.var 0)))
    (.nil)
def dApply : FDef := { pos := ["mapping", "number"], ko := ["base"], va := none, N := ["mapping", "number", "base"], body := bApply, dfl := [], kdf := [("base", .int (3))] }
def bJoined : Ss := .cons (.ifs (.not (.e (.isi (.var 1) "tuple"))) (.cons (.ret (.var 1))
    (.nil)) (.nil))
    (.cons (.ifs (.not (.e (.isi (.var 0) "tuple"))) (.cons (.ret (.call "apply" (.one (.var 1) (.one (.var 0) (.nil))) ["base"] (.one (.var 2) (.nil))))
    (.nil)) (.nil))
    (.cons (.ret (.tup (.one (.glob "FOUND") (.one (.bin .Mod (.bin .Add (.idx (.var 0) (.cst (.int 1))) (.idx (.var 1) (.cst (.int 1)))) (.var 2)) (.nil)))))
    (.nil)))
def dJoined : FDef := { pos := ["first", "second", "base"], ko := [], va := none, N := ["first", "second", "base"], body := bJoined, dfl := [], kdf := [] }
def bComposed : Ss := .cons (.asg (.name 2) (.glob "SAME"))
    (.cons (.for_ (.name 3) (.gen (.var 1)) (.cons (.asg (.name 2) (.call "joined" (.one (.var 2) (.one (.var 3) (.one (.var 0) (.nil)))) [] (.nil)))
    (.nil)))
    (.cons (.ret (.var 2))
    (.nil)))
def dComposed : FDef := { pos := [], ko := ["base"], va := some "mappings", N := ["base", "mappings", "found", "mapping"], body := bComposed, dfl := [], kdf := [("base", .int (3))] }
def bLMap : Ss := .cons (.asg (.name 2) (.call "_law_take" (.one (.var 0) (.one (.var 1) (.nil))) [] (.nil)))
    (.cons (.ret (.idx (.lst (.one (.var 2) (.one (.tup (.one (.cst (.str "found")) (.one (.var 2) (.nil)))) (.nil)))) (.call "_law_take" (.one (.var 0) (.one (.cst (.int 2)) (.nil))) [] (.nil))))
    (.nil))
def dLMap : FDef := { pos := ["_law_bag_here", "_law_radix"], ko := [], va := none, N := ["_law_bag_here", "_law_radix", "_law_number"], body := bLMap, dfl := [], kdf := [] }
def bLJoined : Ss := .cons (.asg (.name 2) (.tup (.one (.cst (.str "found")) (.one (.cst (.int 0)) (.nil)))))
    (.cons (.for_ (.name 3) (.gen (.var 0)) (.cons (.ifs (.not (.e (.isi (.var 3) "tuple"))) (.cons (.asg (.name 2) (.var 3))
    (.nil)) (.cons (.ifs (.e (.isi (.var 2) "tuple")) (.cons (.asg (.name 2) (.tup (.one (.cst (.str "found")) (.one (.bin .Mod (.bin .Add (.idx (.var 2) (.cst (.int 1))) (.idx (.var 3) (.cst (.int 1)))) (.var 1)) (.nil)))))
    (.nil)) (.cons (.asg (.name 2) (.bin .Mod (.bin .Add (.var 2) (.idx (.var 3) (.cst (.int 1)))) (.var 1)))
    (.nil)))
    (.nil)))
    (.nil)))
    (.cons (.ret (.var 2))
    (.nil)))
def dLJoined : FDef := { pos := ["_law_mappings", "_law_radix"], ko := [], va := none, N := ["_law_mappings", "_law_radix", "_law_found", "_law_mapping"], body := bLJoined, dfl := [], kdf := [] }
section
variable {Γ : Str → Option FDef} {gl : Str → Option PV}
theorem b_apply (o : Orc) (m : Mp) {b x : Int} {D : PD} {G : PH} (hb : 0 < b) (q : D.rt (.int (m.app x b)) G) : wSs o bApply D [some m.pv, some (.int x), some (.int b)] G := by
  cases m with
  | num i =>
    (try simp only [Fv.wSs, Fv.wS, Fv.wE, Fv.wT, Fv.wTs, Fv.wA, Fv.wO, Fv.wG, Fv.wGs, Fv.wI, Fv.wVar, Fv.wCst, Fv.wOp, Fv.wUn, Fv.wIte, Fv.wNil, Fv.wCons, Fv.wTup, Fv.wLst, Fv.wCall, Fv.wName, Fv.wGNil, Fv.wGCons, Fv.pBin, Fv.pCmp, Fv.pCmpB, Fv.pBn, Fv.pIsN, Fv.isNon, Fv.endP, List.getElem?_cons_zero, List.getElem?_cons_succ, List.set_cons_zero, List.set_cons_succ, List.map_cons, List.map_nil, List.zip_cons_cons, List.zip_nil_left, Option.map_some, decide_eq_true_eq, if_true, if_false, reduceCtorEq, ↓reduceIte, Bool.not_true, Bool.not_false, Bool.false_eq_true, Fv.pu_same, Fv.pu_pu, L2.ixN, Fv.atI_0, Fv.atI_1, Fv.atI_2, Fv.atI_3, Fv.atI_4, Fv.atI_5, List.length_cons, List.length_nil, Nat.reduceAdd, Int.reduceLT, Int.reduceLE, Int.cast_ofNat_Int, List.length_set, Nat.lt_add_one, true_and, Option.bind_some, Int.toNat_zero, Int.toNat_one, Int.reduceToNat, Nat.zero_add, Int.zero_lt_one, Int.reduceBEq, beq_self_eq_true, List.length_map, ite_true, ite_false, Int.reduceNeg, Fv.atI_last, List.getLast_cons_cons, List.getLast_singleton, Fv.kb_NoneType_tuple, Fv.kb_NoneType_int, Fv.kb_NoneType_bool, Fv.kb_NoneType_str, Fv.kb_NoneType_list, Fv.kb_NoneType_dict, Fv.kb_bool_tuple, Fv.kb_bool_int, Fv.kb_bool_bool, Fv.kb_bool_str, Fv.kb_bool_list, Fv.kb_bool_dict, Fv.kb_int_tuple, Fv.kb_int_int, Fv.kb_int_bool, Fv.kb_int_str, Fv.kb_int_list, Fv.kb_int_dict, Fv.kb_str_tuple, Fv.kb_str_int, Fv.kb_str_bool, Fv.kb_str_str, Fv.kb_str_list, Fv.kb_str_dict, Fv.kb_tuple_tuple, Fv.kb_tuple_int, Fv.kb_tuple_bool, Fv.kb_tuple_str, Fv.kb_tuple_list, Fv.kb_tuple_dict, Fv.kb_list_tuple, Fv.kb_list_int, Fv.kb_list_bool, Fv.kb_list_str, Fv.kb_list_list, Fv.kb_list_dict, Fv.kb_dict_tuple, Fv.kb_dict_int, Fv.kb_dict_bool, Fv.kb_dict_str, Fv.kb_dict_list, Fv.kb_dict_dict, Fv.o_add_ii, Fv.o_add_ss, Fv.o_add_tt, Fv.o_add_rr, Fv.o_sub_ii, Fv.o_mul_ii, Fv.o_mul_rk, Fv.o_mod_ii, Fv.o_div_ii, Fv.o_pow_ii, Fv.o_lt_ii, Fv.o_lt_ss, Fv.o_eq_nn, Fv.o_eq_ni, Fv.o_eq_in, Fv.o_eq_nb, Fv.o_eq_bn, Fv.o_eq_ns, Fv.o_eq_sn, Fv.o_eq_ii, Fv.o_eq_bb, Fv.o_eq_ss, Fv.o_eq_is, Fv.o_eq_si, Fv.o_eq_bs, Fv.o_eq_sb, Fv.o_eq_tt, Fv.o_eq_tr, Fv.o_eq_tn, Fv.o_eq_nt, Fv.o_eq_ti, Fv.o_eq_it, Fv.o_eq_tb, Fv.o_eq_bt, Fv.o_eq_ts, Fv.o_eq_st, Fv.o_eq_rt, Fv.o_eq_rr, Fv.o_eq_rn, Fv.o_eq_nr, Fv.o_eq_ri, Fv.o_eq_ir, Fv.o_eq_rb, Fv.o_eq_br, Fv.o_eq_rs, Fv.o_eq_sr, Fv.o_tru_n, Fv.o_tru_b, Fv.o_tru_i, Fv.o_tru_s, Fv.o_tru_t, Fv.o_tru_w, Fv.o_tru_r, Fv.o_idx_t, Fv.o_idx_w, Fv.o_idx_r, Fv.o_idx_s, Fv.o_idx_d, Fv.o_sl_t, Fv.o_sl_s, Fv.o_sl_r, Fv.o_isi_n, Fv.o_isi_b, Fv.o_isi_i, Fv.o_isi_s, Fv.o_isi_t, Fv.o_isi_w, Fv.o_isi_d, Fv.o_isi_r, Fv.o_len_t, Fv.o_len_w, Fv.o_len_s, Fv.o_len_r, Fv.o_abs, Fv.o_max, Fv.o_min, Fv.o_str, Fv.o_repr, Fv.o_tuple_t, Fv.o_tuple_r, Fv.o_list_t, Fv.o_list_r, Fv.o_set_r, Fv.o_in_t, Fv.o_in_w, Fv.o_in_r, Fv.o_in_s, Fv.o_in_d, Fv.setAll, eq_self, and_true, bApply, Mp.pv])
    exact q
  | fnd i =>
    (try simp only [Fv.wSs, Fv.wS, Fv.wE, Fv.wT, Fv.wTs, Fv.wA, Fv.wO, Fv.wG, Fv.wGs, Fv.wI, Fv.wVar, Fv.wCst, Fv.wOp, Fv.wUn, Fv.wIte, Fv.wNil, Fv.wCons, Fv.wTup, Fv.wLst, Fv.wCall, Fv.wName, Fv.wGNil, Fv.wGCons, Fv.pBin, Fv.pCmp, Fv.pCmpB, Fv.pBn, Fv.pIsN, Fv.isNon, Fv.endP, List.getElem?_cons_zero, List.getElem?_cons_succ, List.set_cons_zero, List.set_cons_succ, List.map_cons, List.map_nil, List.zip_cons_cons, List.zip_nil_left, Option.map_some, decide_eq_true_eq, if_true, if_false, reduceCtorEq, ↓reduceIte, Bool.not_true, Bool.not_false, Bool.false_eq_true, Fv.pu_same, Fv.pu_pu, L2.ixN, Fv.atI_0, Fv.atI_1, Fv.atI_2, Fv.atI_3, Fv.atI_4, Fv.atI_5, List.length_cons, List.length_nil, Nat.reduceAdd, Int.reduceLT, Int.reduceLE, Int.cast_ofNat_Int, List.length_set, Nat.lt_add_one, true_and, Option.bind_some, Int.toNat_zero, Int.toNat_one, Int.reduceToNat, Nat.zero_add, Int.zero_lt_one, Int.reduceBEq, beq_self_eq_true, List.length_map, ite_true, ite_false, Int.reduceNeg, Fv.atI_last, List.getLast_cons_cons, List.getLast_singleton, Fv.kb_NoneType_tuple, Fv.kb_NoneType_int, Fv.kb_NoneType_bool, Fv.kb_NoneType_str, Fv.kb_NoneType_list, Fv.kb_NoneType_dict, Fv.kb_bool_tuple, Fv.kb_bool_int, Fv.kb_bool_bool, Fv.kb_bool_str, Fv.kb_bool_list, Fv.kb_bool_dict, Fv.kb_int_tuple, Fv.kb_int_int, Fv.kb_int_bool, Fv.kb_int_str, Fv.kb_int_list, Fv.kb_int_dict, Fv.kb_str_tuple, Fv.kb_str_int, Fv.kb_str_bool, Fv.kb_str_str, Fv.kb_str_list, Fv.kb_str_dict, Fv.kb_tuple_tuple, Fv.kb_tuple_int, Fv.kb_tuple_bool, Fv.kb_tuple_str, Fv.kb_tuple_list, Fv.kb_tuple_dict, Fv.kb_list_tuple, Fv.kb_list_int, Fv.kb_list_bool, Fv.kb_list_str, Fv.kb_list_list, Fv.kb_list_dict, Fv.kb_dict_tuple, Fv.kb_dict_int, Fv.kb_dict_bool, Fv.kb_dict_str, Fv.kb_dict_list, Fv.kb_dict_dict, Fv.o_add_ii, Fv.o_add_ss, Fv.o_add_tt, Fv.o_add_rr, Fv.o_sub_ii, Fv.o_mul_ii, Fv.o_mul_rk, Fv.o_mod_ii, Fv.o_div_ii, Fv.o_pow_ii, Fv.o_lt_ii, Fv.o_lt_ss, Fv.o_eq_nn, Fv.o_eq_ni, Fv.o_eq_in, Fv.o_eq_nb, Fv.o_eq_bn, Fv.o_eq_ns, Fv.o_eq_sn, Fv.o_eq_ii, Fv.o_eq_bb, Fv.o_eq_ss, Fv.o_eq_is, Fv.o_eq_si, Fv.o_eq_bs, Fv.o_eq_sb, Fv.o_eq_tt, Fv.o_eq_tr, Fv.o_eq_tn, Fv.o_eq_nt, Fv.o_eq_ti, Fv.o_eq_it, Fv.o_eq_tb, Fv.o_eq_bt, Fv.o_eq_ts, Fv.o_eq_st, Fv.o_eq_rt, Fv.o_eq_rr, Fv.o_eq_rn, Fv.o_eq_nr, Fv.o_eq_ri, Fv.o_eq_ir, Fv.o_eq_rb, Fv.o_eq_br, Fv.o_eq_rs, Fv.o_eq_sr, Fv.o_tru_n, Fv.o_tru_b, Fv.o_tru_i, Fv.o_tru_s, Fv.o_tru_t, Fv.o_tru_w, Fv.o_tru_r, Fv.o_idx_t, Fv.o_idx_w, Fv.o_idx_r, Fv.o_idx_s, Fv.o_idx_d, Fv.o_sl_t, Fv.o_sl_s, Fv.o_sl_r, Fv.o_isi_n, Fv.o_isi_b, Fv.o_isi_i, Fv.o_isi_s, Fv.o_isi_t, Fv.o_isi_w, Fv.o_isi_d, Fv.o_isi_r, Fv.o_len_t, Fv.o_len_w, Fv.o_len_s, Fv.o_len_r, Fv.o_abs, Fv.o_max, Fv.o_min, Fv.o_str, Fv.o_repr, Fv.o_tuple_t, Fv.o_tuple_r, Fv.o_list_t, Fv.o_list_r, Fv.o_set_r, Fv.o_in_t, Fv.o_in_w, Fv.o_in_r, Fv.o_in_s, Fv.o_in_d, Fv.setAll, eq_self, and_true, bApply, Mp.pv])
    exact ⟨hb, q⟩
theorem s_apply (hΓ : Γ "apply" = some dApply) (k : Nat) (m : Mp) {b x : Int} {G : PH} {Q : VP} {P : Fv.PC} (hb : 0 < b) (q : Q (.int (m.app x b)) G) : (Fv.run Γ gl (k + 1)).fn "apply" [m.pv, .int x] [("base", .int b)] G Q P :=
  run_call hΓ (d := dApply) rfl (b_apply _ m hb ⟨_, Sub.refl _, q⟩)
theorem s_apply3 (hΓ : Γ "apply" = some dApply) (k : Nat) (m : Mp) {x : Int} {G : PH} {Q : VP} {P : Fv.PC} (q : Q (.int (m.app x 3)) G) : (Fv.run Γ gl (k + 1)).fn "apply" [m.pv, .int x] [] G Q P :=
  run_call hΓ (d := dApply) rfl (b_apply _ m (by omega) ⟨_, Sub.refl _, q⟩)
theorem s_joined (hA : Γ "apply" = some dApply) (hJ : Γ "joined" = some dJoined) (hF : gl "FOUND" = some (.str "found")) (k : Nat) (m n : Mp) {b : Int} {G : PH} {Q : VP} {P : Fv.PC} (hb : 0 < b) (q : Q (m.join n b).pv G) : (Fv.run Γ gl (k + 2)).fn "joined" [m.pv, n.pv, .int b] [] G Q P := by
  refine run_call hJ (d := dJoined) rfl ?_
  show wSs _ bJoined _ [some m.pv, some n.pv, some (.int b)] G
  cases n with
  | num i =>
    (try simp only [Fv.wSs, Fv.wS, Fv.wE, Fv.wT, Fv.wTs, Fv.wA, Fv.wO, Fv.wG, Fv.wGs, Fv.wI, Fv.wVar, Fv.wCst, Fv.wOp, Fv.wUn, Fv.wIte, Fv.wNil, Fv.wCons, Fv.wTup, Fv.wLst, Fv.wCall, Fv.wName, Fv.wGNil, Fv.wGCons, Fv.pBin, Fv.pCmp, Fv.pCmpB, Fv.pBn, Fv.pIsN, Fv.isNon, Fv.endP, List.getElem?_cons_zero, List.getElem?_cons_succ, List.set_cons_zero, List.set_cons_succ, List.map_cons, List.map_nil, List.zip_cons_cons, List.zip_nil_left, Option.map_some, decide_eq_true_eq, if_true, if_false, reduceCtorEq, ↓reduceIte, Bool.not_true, Bool.not_false, Bool.false_eq_true, Fv.pu_same, Fv.pu_pu, L2.ixN, Fv.atI_0, Fv.atI_1, Fv.atI_2, Fv.atI_3, Fv.atI_4, Fv.atI_5, List.length_cons, List.length_nil, Nat.reduceAdd, Int.reduceLT, Int.reduceLE, Int.cast_ofNat_Int, List.length_set, Nat.lt_add_one, true_and, Option.bind_some, Int.toNat_zero, Int.toNat_one, Int.reduceToNat, Nat.zero_add, Int.zero_lt_one, Int.reduceBEq, beq_self_eq_true, List.length_map, ite_true, ite_false, Int.reduceNeg, Fv.atI_last, List.getLast_cons_cons, List.getLast_singleton, Fv.kb_NoneType_tuple, Fv.kb_NoneType_int, Fv.kb_NoneType_bool, Fv.kb_NoneType_str, Fv.kb_NoneType_list, Fv.kb_NoneType_dict, Fv.kb_bool_tuple, Fv.kb_bool_int, Fv.kb_bool_bool, Fv.kb_bool_str, Fv.kb_bool_list, Fv.kb_bool_dict, Fv.kb_int_tuple, Fv.kb_int_int, Fv.kb_int_bool, Fv.kb_int_str, Fv.kb_int_list, Fv.kb_int_dict, Fv.kb_str_tuple, Fv.kb_str_int, Fv.kb_str_bool, Fv.kb_str_str, Fv.kb_str_list, Fv.kb_str_dict, Fv.kb_tuple_tuple, Fv.kb_tuple_int, Fv.kb_tuple_bool, Fv.kb_tuple_str, Fv.kb_tuple_list, Fv.kb_tuple_dict, Fv.kb_list_tuple, Fv.kb_list_int, Fv.kb_list_bool, Fv.kb_list_str, Fv.kb_list_list, Fv.kb_list_dict, Fv.kb_dict_tuple, Fv.kb_dict_int, Fv.kb_dict_bool, Fv.kb_dict_str, Fv.kb_dict_list, Fv.kb_dict_dict, Fv.o_add_ii, Fv.o_add_ss, Fv.o_add_tt, Fv.o_add_rr, Fv.o_sub_ii, Fv.o_mul_ii, Fv.o_mul_rk, Fv.o_mod_ii, Fv.o_div_ii, Fv.o_pow_ii, Fv.o_lt_ii, Fv.o_lt_ss, Fv.o_eq_nn, Fv.o_eq_ni, Fv.o_eq_in, Fv.o_eq_nb, Fv.o_eq_bn, Fv.o_eq_ns, Fv.o_eq_sn, Fv.o_eq_ii, Fv.o_eq_bb, Fv.o_eq_ss, Fv.o_eq_is, Fv.o_eq_si, Fv.o_eq_bs, Fv.o_eq_sb, Fv.o_eq_tt, Fv.o_eq_tr, Fv.o_eq_tn, Fv.o_eq_nt, Fv.o_eq_ti, Fv.o_eq_it, Fv.o_eq_tb, Fv.o_eq_bt, Fv.o_eq_ts, Fv.o_eq_st, Fv.o_eq_rt, Fv.o_eq_rr, Fv.o_eq_rn, Fv.o_eq_nr, Fv.o_eq_ri, Fv.o_eq_ir, Fv.o_eq_rb, Fv.o_eq_br, Fv.o_eq_rs, Fv.o_eq_sr, Fv.o_tru_n, Fv.o_tru_b, Fv.o_tru_i, Fv.o_tru_s, Fv.o_tru_t, Fv.o_tru_w, Fv.o_tru_r, Fv.o_idx_t, Fv.o_idx_w, Fv.o_idx_r, Fv.o_idx_s, Fv.o_idx_d, Fv.o_sl_t, Fv.o_sl_s, Fv.o_sl_r, Fv.o_isi_n, Fv.o_isi_b, Fv.o_isi_i, Fv.o_isi_s, Fv.o_isi_t, Fv.o_isi_w, Fv.o_isi_d, Fv.o_isi_r, Fv.o_len_t, Fv.o_len_w, Fv.o_len_s, Fv.o_len_r, Fv.o_abs, Fv.o_max, Fv.o_min, Fv.o_str, Fv.o_repr, Fv.o_tuple_t, Fv.o_tuple_r, Fv.o_list_t, Fv.o_list_r, Fv.o_set_r, Fv.o_in_t, Fv.o_in_w, Fv.o_in_r, Fv.o_in_s, Fv.o_in_d, Fv.setAll, eq_self, and_true, bJoined, Mp.pv])
    exact ⟨_, Sub.refl _, q⟩
  | fnd i =>
    cases m with
    | num j =>
      (try simp only [Fv.wSs, Fv.wS, Fv.wE, Fv.wT, Fv.wTs, Fv.wA, Fv.wO, Fv.wG, Fv.wGs, Fv.wI, Fv.wVar, Fv.wCst, Fv.wOp, Fv.wUn, Fv.wIte, Fv.wNil, Fv.wCons, Fv.wTup, Fv.wLst, Fv.wCall, Fv.wName, Fv.wGNil, Fv.wGCons, Fv.pBin, Fv.pCmp, Fv.pCmpB, Fv.pBn, Fv.pIsN, Fv.isNon, Fv.endP, List.getElem?_cons_zero, List.getElem?_cons_succ, List.set_cons_zero, List.set_cons_succ, List.map_cons, List.map_nil, List.zip_cons_cons, List.zip_nil_left, Option.map_some, decide_eq_true_eq, if_true, if_false, reduceCtorEq, ↓reduceIte, Bool.not_true, Bool.not_false, Bool.false_eq_true, Fv.pu_same, Fv.pu_pu, L2.ixN, Fv.atI_0, Fv.atI_1, Fv.atI_2, Fv.atI_3, Fv.atI_4, Fv.atI_5, List.length_cons, List.length_nil, Nat.reduceAdd, Int.reduceLT, Int.reduceLE, Int.cast_ofNat_Int, List.length_set, Nat.lt_add_one, true_and, Option.bind_some, Int.toNat_zero, Int.toNat_one, Int.reduceToNat, Nat.zero_add, Int.zero_lt_one, Int.reduceBEq, beq_self_eq_true, List.length_map, ite_true, ite_false, Int.reduceNeg, Fv.atI_last, List.getLast_cons_cons, List.getLast_singleton, Fv.kb_NoneType_tuple, Fv.kb_NoneType_int, Fv.kb_NoneType_bool, Fv.kb_NoneType_str, Fv.kb_NoneType_list, Fv.kb_NoneType_dict, Fv.kb_bool_tuple, Fv.kb_bool_int, Fv.kb_bool_bool, Fv.kb_bool_str, Fv.kb_bool_list, Fv.kb_bool_dict, Fv.kb_int_tuple, Fv.kb_int_int, Fv.kb_int_bool, Fv.kb_int_str, Fv.kb_int_list, Fv.kb_int_dict, Fv.kb_str_tuple, Fv.kb_str_int, Fv.kb_str_bool, Fv.kb_str_str, Fv.kb_str_list, Fv.kb_str_dict, Fv.kb_tuple_tuple, Fv.kb_tuple_int, Fv.kb_tuple_bool, Fv.kb_tuple_str, Fv.kb_tuple_list, Fv.kb_tuple_dict, Fv.kb_list_tuple, Fv.kb_list_int, Fv.kb_list_bool, Fv.kb_list_str, Fv.kb_list_list, Fv.kb_list_dict, Fv.kb_dict_tuple, Fv.kb_dict_int, Fv.kb_dict_bool, Fv.kb_dict_str, Fv.kb_dict_list, Fv.kb_dict_dict, Fv.o_add_ii, Fv.o_add_ss, Fv.o_add_tt, Fv.o_add_rr, Fv.o_sub_ii, Fv.o_mul_ii, Fv.o_mul_rk, Fv.o_mod_ii, Fv.o_div_ii, Fv.o_pow_ii, Fv.o_lt_ii, Fv.o_lt_ss, Fv.o_eq_nn, Fv.o_eq_ni, Fv.o_eq_in, Fv.o_eq_nb, Fv.o_eq_bn, Fv.o_eq_ns, Fv.o_eq_sn, Fv.o_eq_ii, Fv.o_eq_bb, Fv.o_eq_ss, Fv.o_eq_is, Fv.o_eq_si, Fv.o_eq_bs, Fv.o_eq_sb, Fv.o_eq_tt, Fv.o_eq_tr, Fv.o_eq_tn, Fv.o_eq_nt, Fv.o_eq_ti, Fv.o_eq_it, Fv.o_eq_tb, Fv.o_eq_bt, Fv.o_eq_ts, Fv.o_eq_st, Fv.o_eq_rt, Fv.o_eq_rr, Fv.o_eq_rn, Fv.o_eq_nr, Fv.o_eq_ri, Fv.o_eq_ir, Fv.o_eq_rb, Fv.o_eq_br, Fv.o_eq_rs, Fv.o_eq_sr, Fv.o_tru_n, Fv.o_tru_b, Fv.o_tru_i, Fv.o_tru_s, Fv.o_tru_t, Fv.o_tru_w, Fv.o_tru_r, Fv.o_idx_t, Fv.o_idx_w, Fv.o_idx_r, Fv.o_idx_s, Fv.o_idx_d, Fv.o_sl_t, Fv.o_sl_s, Fv.o_sl_r, Fv.o_isi_n, Fv.o_isi_b, Fv.o_isi_i, Fv.o_isi_s, Fv.o_isi_t, Fv.o_isi_w, Fv.o_isi_d, Fv.o_isi_r, Fv.o_len_t, Fv.o_len_w, Fv.o_len_s, Fv.o_len_r, Fv.o_abs, Fv.o_max, Fv.o_min, Fv.o_str, Fv.o_repr, Fv.o_tuple_t, Fv.o_tuple_r, Fv.o_list_t, Fv.o_list_r, Fv.o_set_r, Fv.o_in_t, Fv.o_in_w, Fv.o_in_r, Fv.o_in_s, Fv.o_in_d, Fv.setAll, eq_self, and_true, bJoined, Mp.pv])
      exact s_apply hA k (.fnd i) hb ⟨_, Sub.refl _, q⟩
    | fnd j =>
      have hF2 : (Fv.run Γ gl (k + 1)).gl (Str.ofString "FOUND") = some (.str "found") := hF
      (try simp only [Fv.wSs, Fv.wS, Fv.wE, Fv.wT, Fv.wTs, Fv.wA, Fv.wO, Fv.wG, Fv.wGs, Fv.wI, Fv.wVar, Fv.wCst, Fv.wOp, Fv.wUn, Fv.wIte, Fv.wNil, Fv.wCons, Fv.wTup, Fv.wLst, Fv.wCall, Fv.wName, Fv.wGNil, Fv.wGCons, Fv.pBin, Fv.pCmp, Fv.pCmpB, Fv.pBn, Fv.pIsN, Fv.isNon, Fv.endP, List.getElem?_cons_zero, List.getElem?_cons_succ, List.set_cons_zero, List.set_cons_succ, List.map_cons, List.map_nil, List.zip_cons_cons, List.zip_nil_left, Option.map_some, decide_eq_true_eq, if_true, if_false, reduceCtorEq, ↓reduceIte, Bool.not_true, Bool.not_false, Bool.false_eq_true, Fv.pu_same, Fv.pu_pu, L2.ixN, Fv.atI_0, Fv.atI_1, Fv.atI_2, Fv.atI_3, Fv.atI_4, Fv.atI_5, List.length_cons, List.length_nil, Nat.reduceAdd, Int.reduceLT, Int.reduceLE, Int.cast_ofNat_Int, List.length_set, Nat.lt_add_one, true_and, Option.bind_some, Int.toNat_zero, Int.toNat_one, Int.reduceToNat, Nat.zero_add, Int.zero_lt_one, Int.reduceBEq, beq_self_eq_true, List.length_map, ite_true, ite_false, Int.reduceNeg, Fv.atI_last, List.getLast_cons_cons, List.getLast_singleton, Fv.kb_NoneType_tuple, Fv.kb_NoneType_int, Fv.kb_NoneType_bool, Fv.kb_NoneType_str, Fv.kb_NoneType_list, Fv.kb_NoneType_dict, Fv.kb_bool_tuple, Fv.kb_bool_int, Fv.kb_bool_bool, Fv.kb_bool_str, Fv.kb_bool_list, Fv.kb_bool_dict, Fv.kb_int_tuple, Fv.kb_int_int, Fv.kb_int_bool, Fv.kb_int_str, Fv.kb_int_list, Fv.kb_int_dict, Fv.kb_str_tuple, Fv.kb_str_int, Fv.kb_str_bool, Fv.kb_str_str, Fv.kb_str_list, Fv.kb_str_dict, Fv.kb_tuple_tuple, Fv.kb_tuple_int, Fv.kb_tuple_bool, Fv.kb_tuple_str, Fv.kb_tuple_list, Fv.kb_tuple_dict, Fv.kb_list_tuple, Fv.kb_list_int, Fv.kb_list_bool, Fv.kb_list_str, Fv.kb_list_list, Fv.kb_list_dict, Fv.kb_dict_tuple, Fv.kb_dict_int, Fv.kb_dict_bool, Fv.kb_dict_str, Fv.kb_dict_list, Fv.kb_dict_dict, Fv.o_add_ii, Fv.o_add_ss, Fv.o_add_tt, Fv.o_add_rr, Fv.o_sub_ii, Fv.o_mul_ii, Fv.o_mul_rk, Fv.o_mod_ii, Fv.o_div_ii, Fv.o_pow_ii, Fv.o_lt_ii, Fv.o_lt_ss, Fv.o_eq_nn, Fv.o_eq_ni, Fv.o_eq_in, Fv.o_eq_nb, Fv.o_eq_bn, Fv.o_eq_ns, Fv.o_eq_sn, Fv.o_eq_ii, Fv.o_eq_bb, Fv.o_eq_ss, Fv.o_eq_is, Fv.o_eq_si, Fv.o_eq_bs, Fv.o_eq_sb, Fv.o_eq_tt, Fv.o_eq_tr, Fv.o_eq_tn, Fv.o_eq_nt, Fv.o_eq_ti, Fv.o_eq_it, Fv.o_eq_tb, Fv.o_eq_bt, Fv.o_eq_ts, Fv.o_eq_st, Fv.o_eq_rt, Fv.o_eq_rr, Fv.o_eq_rn, Fv.o_eq_nr, Fv.o_eq_ri, Fv.o_eq_ir, Fv.o_eq_rb, Fv.o_eq_br, Fv.o_eq_rs, Fv.o_eq_sr, Fv.o_tru_n, Fv.o_tru_b, Fv.o_tru_i, Fv.o_tru_s, Fv.o_tru_t, Fv.o_tru_w, Fv.o_tru_r, Fv.o_idx_t, Fv.o_idx_w, Fv.o_idx_r, Fv.o_idx_s, Fv.o_idx_d, Fv.o_sl_t, Fv.o_sl_s, Fv.o_sl_r, Fv.o_isi_n, Fv.o_isi_b, Fv.o_isi_i, Fv.o_isi_s, Fv.o_isi_t, Fv.o_isi_w, Fv.o_isi_d, Fv.o_isi_r, Fv.o_len_t, Fv.o_len_w, Fv.o_len_s, Fv.o_len_r, Fv.o_abs, Fv.o_max, Fv.o_min, Fv.o_str, Fv.o_repr, Fv.o_tuple_t, Fv.o_tuple_r, Fv.o_list_t, Fv.o_list_r, Fv.o_set_r, Fv.o_in_t, Fv.o_in_w, Fv.o_in_r, Fv.o_in_s, Fv.o_in_d, Fv.setAll, eq_self, and_true, bJoined, Mp.pv, hF2])
      exact ⟨hb, by decide, _, Sub.refl _, q⟩
theorem args_composed {xs : List PV} {b : Int} (h : xs.length ≤ 1000) : dComposed.args xs [("base", .int b)] = some [.int b, .tup xs] := by
  have hf : dComposed.fits xs [("base", .int b)] = true := by
    simp [FDef.fits, dComposed, nodupB, h]
  unfold FDef.args
  rw [if_pos hf]
  simp [dComposed, tblG, lookAll]
theorem args_composed3 {xs : List PV} (h : xs.length ≤ 1000) : dComposed.args xs [] = some [.int 3, .tup xs] := by
  have hf : dComposed.fits xs [] = true := by
    simp [FDef.fits, dComposed, nodupB, h]
  unfold FDef.args
  rw [if_pos hf]
  simp [dComposed, tblG, lookAll]
theorem b_composed (hA : Γ "apply" = some dApply) (hJ : Γ "joined" = some dJoined) (hF : gl "FOUND" = some (.str "found")) (hS : gl "SAME" = some (.tup [.str "found", .int 0])) (k : Nat) (ms : List Mp) {b : Int} {D : PD} {G : PH} (hb : 0 < b) (q : D.rt (Mp.comp ms b).pv G) :
    wSs (Fv.run Γ gl (k + 2)) bComposed D [some (.int b), some (.tup (ms.map Mp.pv)), none, none] G := by
  have hS2 : (Fv.run Γ gl (k + 2)).gl (Str.ofString "SAME") = some (.tup [.str "found", .int 0]) := hS
  (try simp only [Fv.wSs, Fv.wS, Fv.wE, Fv.wT, Fv.wTs, Fv.wA, Fv.wO, Fv.wG, Fv.wGs, Fv.wI, Fv.wVar, Fv.wCst, Fv.wOp, Fv.wUn, Fv.wIte, Fv.wNil, Fv.wCons, Fv.wTup, Fv.wLst, Fv.wCall, Fv.wName, Fv.wGNil, Fv.wGCons, Fv.pBin, Fv.pCmp, Fv.pCmpB, Fv.pBn, Fv.pIsN, Fv.isNon, Fv.endP, List.getElem?_cons_zero, List.getElem?_cons_succ, List.set_cons_zero, List.set_cons_succ, List.map_cons, List.map_nil, List.zip_cons_cons, List.zip_nil_left, Option.map_some, decide_eq_true_eq, if_true, if_false, reduceCtorEq, ↓reduceIte, Bool.not_true, Bool.not_false, Bool.false_eq_true, Fv.pu_same, Fv.pu_pu, L2.ixN, Fv.atI_0, Fv.atI_1, Fv.atI_2, Fv.atI_3, Fv.atI_4, Fv.atI_5, List.length_cons, List.length_nil, Nat.reduceAdd, Int.reduceLT, Int.reduceLE, Int.cast_ofNat_Int, List.length_set, Nat.lt_add_one, true_and, Option.bind_some, Int.toNat_zero, Int.toNat_one, Int.reduceToNat, Nat.zero_add, Int.zero_lt_one, Int.reduceBEq, beq_self_eq_true, List.length_map, ite_true, ite_false, Int.reduceNeg, Fv.atI_last, List.getLast_cons_cons, List.getLast_singleton, Fv.kb_NoneType_tuple, Fv.kb_NoneType_int, Fv.kb_NoneType_bool, Fv.kb_NoneType_str, Fv.kb_NoneType_list, Fv.kb_NoneType_dict, Fv.kb_bool_tuple, Fv.kb_bool_int, Fv.kb_bool_bool, Fv.kb_bool_str, Fv.kb_bool_list, Fv.kb_bool_dict, Fv.kb_int_tuple, Fv.kb_int_int, Fv.kb_int_bool, Fv.kb_int_str, Fv.kb_int_list, Fv.kb_int_dict, Fv.kb_str_tuple, Fv.kb_str_int, Fv.kb_str_bool, Fv.kb_str_str, Fv.kb_str_list, Fv.kb_str_dict, Fv.kb_tuple_tuple, Fv.kb_tuple_int, Fv.kb_tuple_bool, Fv.kb_tuple_str, Fv.kb_tuple_list, Fv.kb_tuple_dict, Fv.kb_list_tuple, Fv.kb_list_int, Fv.kb_list_bool, Fv.kb_list_str, Fv.kb_list_list, Fv.kb_list_dict, Fv.kb_dict_tuple, Fv.kb_dict_int, Fv.kb_dict_bool, Fv.kb_dict_str, Fv.kb_dict_list, Fv.kb_dict_dict, Fv.o_add_ii, Fv.o_add_ss, Fv.o_add_tt, Fv.o_add_rr, Fv.o_sub_ii, Fv.o_mul_ii, Fv.o_mul_rk, Fv.o_mod_ii, Fv.o_div_ii, Fv.o_pow_ii, Fv.o_lt_ii, Fv.o_lt_ss, Fv.o_eq_nn, Fv.o_eq_ni, Fv.o_eq_in, Fv.o_eq_nb, Fv.o_eq_bn, Fv.o_eq_ns, Fv.o_eq_sn, Fv.o_eq_ii, Fv.o_eq_bb, Fv.o_eq_ss, Fv.o_eq_is, Fv.o_eq_si, Fv.o_eq_bs, Fv.o_eq_sb, Fv.o_eq_tt, Fv.o_eq_tr, Fv.o_eq_tn, Fv.o_eq_nt, Fv.o_eq_ti, Fv.o_eq_it, Fv.o_eq_tb, Fv.o_eq_bt, Fv.o_eq_ts, Fv.o_eq_st, Fv.o_eq_rt, Fv.o_eq_rr, Fv.o_eq_rn, Fv.o_eq_nr, Fv.o_eq_ri, Fv.o_eq_ir, Fv.o_eq_rb, Fv.o_eq_br, Fv.o_eq_rs, Fv.o_eq_sr, Fv.o_tru_n, Fv.o_tru_b, Fv.o_tru_i, Fv.o_tru_s, Fv.o_tru_t, Fv.o_tru_w, Fv.o_tru_r, Fv.o_idx_t, Fv.o_idx_w, Fv.o_idx_r, Fv.o_idx_s, Fv.o_idx_d, Fv.o_sl_t, Fv.o_sl_s, Fv.o_sl_r, Fv.o_isi_n, Fv.o_isi_b, Fv.o_isi_i, Fv.o_isi_s, Fv.o_isi_t, Fv.o_isi_w, Fv.o_isi_d, Fv.o_isi_r, Fv.o_len_t, Fv.o_len_w, Fv.o_len_s, Fv.o_len_r, Fv.o_abs, Fv.o_max, Fv.o_min, Fv.o_str, Fv.o_repr, Fv.o_tuple_t, Fv.o_tuple_r, Fv.o_list_t, Fv.o_list_r, Fv.o_set_r, Fv.o_in_t, Fv.o_in_w, Fv.o_in_r, Fv.o_in_s, Fv.o_in_d, Fv.setAll, eq_self, and_true, bComposed, hS2])
  refine for_inv (fun xs σ G1 => ∃ (m : Mp) (r : List Mp) (x : Option PV), xs = r.map Mp.pv ∧ σ = [some (.int b), some (.tup (ms.map Mp.pv)), some m.pv, x] ∧ G1 = G ∧ r.foldl (fun m n => m.join n b) m = Mp.comp ms b) ⟨.fnd 0, ms, none, rfl, rfl, rfl, rfl⟩ (fun _ _ _ _ => kept_nil) ?_ ?_
  · rintro σ G1 ⟨m, r, x, e, rfl, rfl, h⟩
    cases r with
    | cons _ _ => cases e
    | nil =>
      (try simp only [Fv.wSs, Fv.wS, Fv.wE, Fv.wT, Fv.wTs, Fv.wA, Fv.wO, Fv.wG, Fv.wGs, Fv.wI, Fv.wVar, Fv.wCst, Fv.wOp, Fv.wUn, Fv.wIte, Fv.wNil, Fv.wCons, Fv.wTup, Fv.wLst, Fv.wCall, Fv.wName, Fv.wGNil, Fv.wGCons, Fv.pBin, Fv.pCmp, Fv.pCmpB, Fv.pBn, Fv.pIsN, Fv.isNon, Fv.endP, List.getElem?_cons_zero, List.getElem?_cons_succ, List.set_cons_zero, List.set_cons_succ, List.map_cons, List.map_nil, List.zip_cons_cons, List.zip_nil_left, Option.map_some, decide_eq_true_eq, if_true, if_false, reduceCtorEq, ↓reduceIte, Bool.not_true, Bool.not_false, Bool.false_eq_true, Fv.pu_same, Fv.pu_pu, L2.ixN, Fv.atI_0, Fv.atI_1, Fv.atI_2, Fv.atI_3, Fv.atI_4, Fv.atI_5, List.length_cons, List.length_nil, Nat.reduceAdd, Int.reduceLT, Int.reduceLE, Int.cast_ofNat_Int, List.length_set, Nat.lt_add_one, true_and, Option.bind_some, Int.toNat_zero, Int.toNat_one, Int.reduceToNat, Nat.zero_add, Int.zero_lt_one, Int.reduceBEq, beq_self_eq_true, List.length_map, ite_true, ite_false, Int.reduceNeg, Fv.atI_last, List.getLast_cons_cons, List.getLast_singleton, Fv.kb_NoneType_tuple, Fv.kb_NoneType_int, Fv.kb_NoneType_bool, Fv.kb_NoneType_str, Fv.kb_NoneType_list, Fv.kb_NoneType_dict, Fv.kb_bool_tuple, Fv.kb_bool_int, Fv.kb_bool_bool, Fv.kb_bool_str, Fv.kb_bool_list, Fv.kb_bool_dict, Fv.kb_int_tuple, Fv.kb_int_int, Fv.kb_int_bool, Fv.kb_int_str, Fv.kb_int_list, Fv.kb_int_dict, Fv.kb_str_tuple, Fv.kb_str_int, Fv.kb_str_bool, Fv.kb_str_str, Fv.kb_str_list, Fv.kb_str_dict, Fv.kb_tuple_tuple, Fv.kb_tuple_int, Fv.kb_tuple_bool, Fv.kb_tuple_str, Fv.kb_tuple_list, Fv.kb_tuple_dict, Fv.kb_list_tuple, Fv.kb_list_int, Fv.kb_list_bool, Fv.kb_list_str, Fv.kb_list_list, Fv.kb_list_dict, Fv.kb_dict_tuple, Fv.kb_dict_int, Fv.kb_dict_bool, Fv.kb_dict_str, Fv.kb_dict_list, Fv.kb_dict_dict, Fv.o_add_ii, Fv.o_add_ss, Fv.o_add_tt, Fv.o_add_rr, Fv.o_sub_ii, Fv.o_mul_ii, Fv.o_mul_rk, Fv.o_mod_ii, Fv.o_div_ii, Fv.o_pow_ii, Fv.o_lt_ii, Fv.o_lt_ss, Fv.o_eq_nn, Fv.o_eq_ni, Fv.o_eq_in, Fv.o_eq_nb, Fv.o_eq_bn, Fv.o_eq_ns, Fv.o_eq_sn, Fv.o_eq_ii, Fv.o_eq_bb, Fv.o_eq_ss, Fv.o_eq_is, Fv.o_eq_si, Fv.o_eq_bs, Fv.o_eq_sb, Fv.o_eq_tt, Fv.o_eq_tr, Fv.o_eq_tn, Fv.o_eq_nt, Fv.o_eq_ti, Fv.o_eq_it, Fv.o_eq_tb, Fv.o_eq_bt, Fv.o_eq_ts, Fv.o_eq_st, Fv.o_eq_rt, Fv.o_eq_rr, Fv.o_eq_rn, Fv.o_eq_nr, Fv.o_eq_ri, Fv.o_eq_ir, Fv.o_eq_rb, Fv.o_eq_br, Fv.o_eq_rs, Fv.o_eq_sr, Fv.o_tru_n, Fv.o_tru_b, Fv.o_tru_i, Fv.o_tru_s, Fv.o_tru_t, Fv.o_tru_w, Fv.o_tru_r, Fv.o_idx_t, Fv.o_idx_w, Fv.o_idx_r, Fv.o_idx_s, Fv.o_idx_d, Fv.o_sl_t, Fv.o_sl_s, Fv.o_sl_r, Fv.o_isi_n, Fv.o_isi_b, Fv.o_isi_i, Fv.o_isi_s, Fv.o_isi_t, Fv.o_isi_w, Fv.o_isi_d, Fv.o_isi_r, Fv.o_len_t, Fv.o_len_w, Fv.o_len_s, Fv.o_len_r, Fv.o_abs, Fv.o_max, Fv.o_min, Fv.o_str, Fv.o_repr, Fv.o_tuple_t, Fv.o_tuple_r, Fv.o_list_t, Fv.o_list_r, Fv.o_set_r, Fv.o_in_t, Fv.o_in_w, Fv.o_in_r, Fv.o_in_s, Fv.o_in_d, Fv.setAll, eq_self, and_true])
      rw [← h] at q
      exact q
  · rintro x xs σ G1 R ⟨m, r, y, e, rfl, rfl, h⟩ hR
    cases r with
    | nil => cases e
    | cons n r =>
      cases e
      (try simp only [Fv.wSs, Fv.wS, Fv.wE, Fv.wT, Fv.wTs, Fv.wA, Fv.wO, Fv.wG, Fv.wGs, Fv.wI, Fv.wVar, Fv.wCst, Fv.wOp, Fv.wUn, Fv.wIte, Fv.wNil, Fv.wCons, Fv.wTup, Fv.wLst, Fv.wCall, Fv.wName, Fv.wGNil, Fv.wGCons, Fv.pBin, Fv.pCmp, Fv.pCmpB, Fv.pBn, Fv.pIsN, Fv.isNon, Fv.endP, List.getElem?_cons_zero, List.getElem?_cons_succ, List.set_cons_zero, List.set_cons_succ, List.map_cons, List.map_nil, List.zip_cons_cons, List.zip_nil_left, Option.map_some, decide_eq_true_eq, if_true, if_false, reduceCtorEq, ↓reduceIte, Bool.not_true, Bool.not_false, Bool.false_eq_true, Fv.pu_same, Fv.pu_pu, L2.ixN, Fv.atI_0, Fv.atI_1, Fv.atI_2, Fv.atI_3, Fv.atI_4, Fv.atI_5, List.length_cons, List.length_nil, Nat.reduceAdd, Int.reduceLT, Int.reduceLE, Int.cast_ofNat_Int, List.length_set, Nat.lt_add_one, true_and, Option.bind_some, Int.toNat_zero, Int.toNat_one, Int.reduceToNat, Nat.zero_add, Int.zero_lt_one, Int.reduceBEq, beq_self_eq_true, List.length_map, ite_true, ite_false, Int.reduceNeg, Fv.atI_last, List.getLast_cons_cons, List.getLast_singleton, Fv.kb_NoneType_tuple, Fv.kb_NoneType_int, Fv.kb_NoneType_bool, Fv.kb_NoneType_str, Fv.kb_NoneType_list, Fv.kb_NoneType_dict, Fv.kb_bool_tuple, Fv.kb_bool_int, Fv.kb_bool_bool, Fv.kb_bool_str, Fv.kb_bool_list, Fv.kb_bool_dict, Fv.kb_int_tuple, Fv.kb_int_int, Fv.kb_int_bool, Fv.kb_int_str, Fv.kb_int_list, Fv.kb_int_dict, Fv.kb_str_tuple, Fv.kb_str_int, Fv.kb_str_bool, Fv.kb_str_str, Fv.kb_str_list, Fv.kb_str_dict, Fv.kb_tuple_tuple, Fv.kb_tuple_int, Fv.kb_tuple_bool, Fv.kb_tuple_str, Fv.kb_tuple_list, Fv.kb_tuple_dict, Fv.kb_list_tuple, Fv.kb_list_int, Fv.kb_list_bool, Fv.kb_list_str, Fv.kb_list_list, Fv.kb_list_dict, Fv.kb_dict_tuple, Fv.kb_dict_int, Fv.kb_dict_bool, Fv.kb_dict_str, Fv.kb_dict_list, Fv.kb_dict_dict, Fv.o_add_ii, Fv.o_add_ss, Fv.o_add_tt, Fv.o_add_rr, Fv.o_sub_ii, Fv.o_mul_ii, Fv.o_mul_rk, Fv.o_mod_ii, Fv.o_div_ii, Fv.o_pow_ii, Fv.o_lt_ii, Fv.o_lt_ss, Fv.o_eq_nn, Fv.o_eq_ni, Fv.o_eq_in, Fv.o_eq_nb, Fv.o_eq_bn, Fv.o_eq_ns, Fv.o_eq_sn, Fv.o_eq_ii, Fv.o_eq_bb, Fv.o_eq_ss, Fv.o_eq_is, Fv.o_eq_si, Fv.o_eq_bs, Fv.o_eq_sb, Fv.o_eq_tt, Fv.o_eq_tr, Fv.o_eq_tn, Fv.o_eq_nt, Fv.o_eq_ti, Fv.o_eq_it, Fv.o_eq_tb, Fv.o_eq_bt, Fv.o_eq_ts, Fv.o_eq_st, Fv.o_eq_rt, Fv.o_eq_rr, Fv.o_eq_rn, Fv.o_eq_nr, Fv.o_eq_ri, Fv.o_eq_ir, Fv.o_eq_rb, Fv.o_eq_br, Fv.o_eq_rs, Fv.o_eq_sr, Fv.o_tru_n, Fv.o_tru_b, Fv.o_tru_i, Fv.o_tru_s, Fv.o_tru_t, Fv.o_tru_w, Fv.o_tru_r, Fv.o_idx_t, Fv.o_idx_w, Fv.o_idx_r, Fv.o_idx_s, Fv.o_idx_d, Fv.o_sl_t, Fv.o_sl_s, Fv.o_sl_r, Fv.o_isi_n, Fv.o_isi_b, Fv.o_isi_i, Fv.o_isi_s, Fv.o_isi_t, Fv.o_isi_w, Fv.o_isi_d, Fv.o_isi_r, Fv.o_len_t, Fv.o_len_w, Fv.o_len_s, Fv.o_len_r, Fv.o_abs, Fv.o_max, Fv.o_min, Fv.o_str, Fv.o_repr, Fv.o_tuple_t, Fv.o_tuple_r, Fv.o_list_t, Fv.o_list_r, Fv.o_set_r, Fv.o_in_t, Fv.o_in_w, Fv.o_in_r, Fv.o_in_s, Fv.o_in_d, Fv.setAll, eq_self, and_true])
      exact s_joined hA hJ hF k m n hb (hR _ _ _ (Sub.refl _) ⟨_, r, _, rfl, rfl, rfl, h⟩)
theorem s_composed (hA : Γ "apply" = some dApply) (hJ : Γ "joined" = some dJoined) (hC : Γ "composed" = some dComposed) (hF : gl "FOUND" = some (.str "found")) (hS : gl "SAME" = some (.tup [.str "found", .int 0])) (k : Nat) (ms : List Mp) {b : Int} {G : PH} {Q : VP} {P : Fv.PC} (hb : 0 < b) (hl : ms.length ≤ 1000) (q : Q (Mp.comp ms b).pv G) :
    (Fv.run Γ gl (k + 3)).fn "composed" (ms.map Mp.pv) [("base", .int b)] G Q P :=
  run_call hC (args_composed (by simpa using hl)) (b_composed hA hJ hF hS k ms hb ⟨_, Sub.refl _, q⟩)
theorem s_composed3 (hA : Γ "apply" = some dApply) (hJ : Γ "joined" = some dJoined) (hC : Γ "composed" = some dComposed) (hF : gl "FOUND" = some (.str "found")) (hS : gl "SAME" = some (.tup [.str "found", .int 0])) (k : Nat) (ms : List Mp) {G : PH} {Q : VP} {P : Fv.PC} (hl : ms.length ≤ 1000) (q : Q (Mp.comp ms 3).pv G) :
    (Fv.run Γ gl (k + 3)).fn "composed" (ms.map Mp.pv) [] G Q P :=
  run_call hC (args_composed3 (by simpa using hl)) (b_composed hA hJ hF hS k ms (by omega) ⟨_, Sub.refl _, q⟩)
theorem sub_np {G : PH} {a p : Addr} {o1 o2 l : PO} (h : pu G a o1 p = none) : Sub (pu G a o2) (pu (pu (pu G a o1) p l) a o2) := fun b u e => by
  have hp : p ≠ a := by rintro rfl; rw [pu_same] at h; cases h
  rw [pu_ne hp] at h
  by_cases hb : b = a
  · subst hb; rw [pu_same] at e ⊢; exact e
  · rw [pu_ne hb] at e
    rw [pu_ne hb, pu_ne (by rintro rfl; rw [h] at e; cases e), pu_ne hb]; exact e
theorem s_map (hT : Γ "_law_take" = some dTake) (hM : Γ "_law_map" = some dLMap) (k : Nat) {G : PH} {a : Addr} {o : PO} {c b : Int} {Q : VP} {P : Fv.PC} (h : G a = some o) (bg : BagO o c) (hc : c < 100000000000) (hb : 0 < b) (hb2 : b < 2 ^ 30)
    (q : ∀ (m : Mp) o2, m.ok b → BagO o2 (c + 2) → Q m.pv (pu G a o2)) : (Fv.run Γ gl (k + 2)).fn "_law_map" [.ref a, .int b] [] G Q P := by
  refine run_call hM (d := dLMap) rfl ?_
  show wSs _ bLMap _ [some (.ref a), some (.int b), none] G
  (try simp only [Fv.wSs, Fv.wS, Fv.wE, Fv.wT, Fv.wTs, Fv.wA, Fv.wO, Fv.wG, Fv.wGs, Fv.wI, Fv.wVar, Fv.wCst, Fv.wOp, Fv.wUn, Fv.wIte, Fv.wNil, Fv.wCons, Fv.wTup, Fv.wLst, Fv.wCall, Fv.wName, Fv.wGNil, Fv.wGCons, Fv.pBin, Fv.pCmp, Fv.pCmpB, Fv.pBn, Fv.pIsN, Fv.isNon, Fv.endP, List.getElem?_cons_zero, List.getElem?_cons_succ, List.set_cons_zero, List.set_cons_succ, List.map_cons, List.map_nil, List.zip_cons_cons, List.zip_nil_left, Option.map_some, decide_eq_true_eq, if_true, if_false, reduceCtorEq, ↓reduceIte, Bool.not_true, Bool.not_false, Bool.false_eq_true, Fv.pu_same, Fv.pu_pu, L2.ixN, Fv.atI_0, Fv.atI_1, Fv.atI_2, Fv.atI_3, Fv.atI_4, Fv.atI_5, List.length_cons, List.length_nil, Nat.reduceAdd, Int.reduceLT, Int.reduceLE, Int.cast_ofNat_Int, List.length_set, Nat.lt_add_one, true_and, Option.bind_some, Int.toNat_zero, Int.toNat_one, Int.reduceToNat, Nat.zero_add, Int.zero_lt_one, Int.reduceBEq, beq_self_eq_true, List.length_map, ite_true, ite_false, Int.reduceNeg, Fv.atI_last, List.getLast_cons_cons, List.getLast_singleton, Fv.kb_NoneType_tuple, Fv.kb_NoneType_int, Fv.kb_NoneType_bool, Fv.kb_NoneType_str, Fv.kb_NoneType_list, Fv.kb_NoneType_dict, Fv.kb_bool_tuple, Fv.kb_bool_int, Fv.kb_bool_bool, Fv.kb_bool_str, Fv.kb_bool_list, Fv.kb_bool_dict, Fv.kb_int_tuple, Fv.kb_int_int, Fv.kb_int_bool, Fv.kb_int_str, Fv.kb_int_list, Fv.kb_int_dict, Fv.kb_str_tuple, Fv.kb_str_int, Fv.kb_str_bool, Fv.kb_str_str, Fv.kb_str_list, Fv.kb_str_dict, Fv.kb_tuple_tuple, Fv.kb_tuple_int, Fv.kb_tuple_bool, Fv.kb_tuple_str, Fv.kb_tuple_list, Fv.kb_tuple_dict, Fv.kb_list_tuple, Fv.kb_list_int, Fv.kb_list_bool, Fv.kb_list_str, Fv.kb_list_list, Fv.kb_list_dict, Fv.kb_dict_tuple, Fv.kb_dict_int, Fv.kb_dict_bool, Fv.kb_dict_str, Fv.kb_dict_list, Fv.kb_dict_dict, Fv.o_add_ii, Fv.o_add_ss, Fv.o_add_tt, Fv.o_add_rr, Fv.o_sub_ii, Fv.o_mul_ii, Fv.o_mul_rk, Fv.o_mod_ii, Fv.o_div_ii, Fv.o_pow_ii, Fv.o_lt_ii, Fv.o_lt_ss, Fv.o_eq_nn, Fv.o_eq_ni, Fv.o_eq_in, Fv.o_eq_nb, Fv.o_eq_bn, Fv.o_eq_ns, Fv.o_eq_sn, Fv.o_eq_ii, Fv.o_eq_bb, Fv.o_eq_ss, Fv.o_eq_is, Fv.o_eq_si, Fv.o_eq_bs, Fv.o_eq_sb, Fv.o_eq_tt, Fv.o_eq_tr, Fv.o_eq_tn, Fv.o_eq_nt, Fv.o_eq_ti, Fv.o_eq_it, Fv.o_eq_tb, Fv.o_eq_bt, Fv.o_eq_ts, Fv.o_eq_st, Fv.o_eq_rt, Fv.o_eq_rr, Fv.o_eq_rn, Fv.o_eq_nr, Fv.o_eq_ri, Fv.o_eq_ir, Fv.o_eq_rb, Fv.o_eq_br, Fv.o_eq_rs, Fv.o_eq_sr, Fv.o_tru_n, Fv.o_tru_b, Fv.o_tru_i, Fv.o_tru_s, Fv.o_tru_t, Fv.o_tru_w, Fv.o_tru_r, Fv.o_idx_t, Fv.o_idx_w, Fv.o_idx_r, Fv.o_idx_s, Fv.o_idx_d, Fv.o_sl_t, Fv.o_sl_s, Fv.o_sl_r, Fv.o_isi_n, Fv.o_isi_b, Fv.o_isi_i, Fv.o_isi_s, Fv.o_isi_t, Fv.o_isi_w, Fv.o_isi_d, Fv.o_isi_r, Fv.o_len_t, Fv.o_len_w, Fv.o_len_s, Fv.o_len_r, Fv.o_abs, Fv.o_max, Fv.o_min, Fv.o_str, Fv.o_repr, Fv.o_tuple_t, Fv.o_tuple_r, Fv.o_list_t, Fv.o_list_r, Fv.o_set_r, Fv.o_in_t, Fv.o_in_w, Fv.o_in_r, Fv.o_in_s, Fv.o_in_d, Fv.setAll, eq_self, and_true, bLMap])
  refine s_take hT k h bg (by omega) hb hb2 fun r o2 r0 r1 bg2 => ?_
  refine ⟨by decide, by decide, fun p hp => ?_⟩
  have hpa : a ≠ p := by rintro rfl; rw [pu_same] at hp; cases hp
  refine s_take hT k (o := o2) (by rw [pu_ne hpa, pu_same]) bg2 (by omega) (by omega) (by omega) fun t o3 t0 t1 bg3 => ?_
  have hq : pu (pu (pu G a o2) p (.lst [.int r, .tup [.str "found", .int r]])) a o3 p = some (.lst [.int r, .tup [.str "found", .int r]]) := by rw [pu_ne hpa.symm, pu_same]
  have ht : t = 0 ∨ t = 1 := by omega
  rcases ht with rfl | rfl
  · (try simp only [Fv.wSs, Fv.wS, Fv.wE, Fv.wT, Fv.wTs, Fv.wA, Fv.wO, Fv.wG, Fv.wGs, Fv.wI, Fv.wVar, Fv.wCst, Fv.wOp, Fv.wUn, Fv.wIte, Fv.wNil, Fv.wCons, Fv.wTup, Fv.wLst, Fv.wCall, Fv.wName, Fv.wGNil, Fv.wGCons, Fv.pBin, Fv.pCmp, Fv.pCmpB, Fv.pBn, Fv.pIsN, Fv.isNon, Fv.endP, List.getElem?_cons_zero, List.getElem?_cons_succ, List.set_cons_zero, List.set_cons_succ, List.map_cons, List.map_nil, List.zip_cons_cons, List.zip_nil_left, Option.map_some, decide_eq_true_eq, if_true, if_false, reduceCtorEq, ↓reduceIte, Bool.not_true, Bool.not_false, Bool.false_eq_true, Fv.pu_same, Fv.pu_pu, L2.ixN, Fv.atI_0, Fv.atI_1, Fv.atI_2, Fv.atI_3, Fv.atI_4, Fv.atI_5, List.length_cons, List.length_nil, Nat.reduceAdd, Int.reduceLT, Int.reduceLE, Int.cast_ofNat_Int, List.length_set, Nat.lt_add_one, true_and, Option.bind_some, Int.toNat_zero, Int.toNat_one, Int.reduceToNat, Nat.zero_add, Int.zero_lt_one, Int.reduceBEq, beq_self_eq_true, List.length_map, ite_true, ite_false, Int.reduceNeg, Fv.atI_last, List.getLast_cons_cons, List.getLast_singleton, Fv.kb_NoneType_tuple, Fv.kb_NoneType_int, Fv.kb_NoneType_bool, Fv.kb_NoneType_str, Fv.kb_NoneType_list, Fv.kb_NoneType_dict, Fv.kb_bool_tuple, Fv.kb_bool_int, Fv.kb_bool_bool, Fv.kb_bool_str, Fv.kb_bool_list, Fv.kb_bool_dict, Fv.kb_int_tuple, Fv.kb_int_int, Fv.kb_int_bool, Fv.kb_int_str, Fv.kb_int_list, Fv.kb_int_dict, Fv.kb_str_tuple, Fv.kb_str_int, Fv.kb_str_bool, Fv.kb_str_str, Fv.kb_str_list, Fv.kb_str_dict, Fv.kb_tuple_tuple, Fv.kb_tuple_int, Fv.kb_tuple_bool, Fv.kb_tuple_str, Fv.kb_tuple_list, Fv.kb_tuple_dict, Fv.kb_list_tuple, Fv.kb_list_int, Fv.kb_list_bool, Fv.kb_list_str, Fv.kb_list_list, Fv.kb_list_dict, Fv.kb_dict_tuple, Fv.kb_dict_int, Fv.kb_dict_bool, Fv.kb_dict_str, Fv.kb_dict_list, Fv.kb_dict_dict, Fv.o_add_ii, Fv.o_add_ss, Fv.o_add_tt, Fv.o_add_rr, Fv.o_sub_ii, Fv.o_mul_ii, Fv.o_mul_rk, Fv.o_mod_ii, Fv.o_div_ii, Fv.o_pow_ii, Fv.o_lt_ii, Fv.o_lt_ss, Fv.o_eq_nn, Fv.o_eq_ni, Fv.o_eq_in, Fv.o_eq_nb, Fv.o_eq_bn, Fv.o_eq_ns, Fv.o_eq_sn, Fv.o_eq_ii, Fv.o_eq_bb, Fv.o_eq_ss, Fv.o_eq_is, Fv.o_eq_si, Fv.o_eq_bs, Fv.o_eq_sb, Fv.o_eq_tt, Fv.o_eq_tr, Fv.o_eq_tn, Fv.o_eq_nt, Fv.o_eq_ti, Fv.o_eq_it, Fv.o_eq_tb, Fv.o_eq_bt, Fv.o_eq_ts, Fv.o_eq_st, Fv.o_eq_rt, Fv.o_eq_rr, Fv.o_eq_rn, Fv.o_eq_nr, Fv.o_eq_ri, Fv.o_eq_ir, Fv.o_eq_rb, Fv.o_eq_br, Fv.o_eq_rs, Fv.o_eq_sr, Fv.o_tru_n, Fv.o_tru_b, Fv.o_tru_i, Fv.o_tru_s, Fv.o_tru_t, Fv.o_tru_w, Fv.o_tru_r, Fv.o_idx_t, Fv.o_idx_w, Fv.o_idx_r, Fv.o_idx_s, Fv.o_idx_d, Fv.o_sl_t, Fv.o_sl_s, Fv.o_sl_r, Fv.o_isi_n, Fv.o_isi_b, Fv.o_isi_i, Fv.o_isi_s, Fv.o_isi_t, Fv.o_isi_w, Fv.o_isi_d, Fv.o_isi_r, Fv.o_len_t, Fv.o_len_w, Fv.o_len_s, Fv.o_len_r, Fv.o_abs, Fv.o_max, Fv.o_min, Fv.o_str, Fv.o_repr, Fv.o_tuple_t, Fv.o_tuple_r, Fv.o_list_t, Fv.o_list_r, Fv.o_set_r, Fv.o_in_t, Fv.o_in_w, Fv.o_in_r, Fv.o_in_s, Fv.o_in_d, Fv.setAll, eq_self, and_true, hq])
    exact ⟨_, sub_np hp, q (.num r) o3 ⟨r0, r1⟩ (bg3.mono (by omega))⟩
  · (try simp only [Fv.wSs, Fv.wS, Fv.wE, Fv.wT, Fv.wTs, Fv.wA, Fv.wO, Fv.wG, Fv.wGs, Fv.wI, Fv.wVar, Fv.wCst, Fv.wOp, Fv.wUn, Fv.wIte, Fv.wNil, Fv.wCons, Fv.wTup, Fv.wLst, Fv.wCall, Fv.wName, Fv.wGNil, Fv.wGCons, Fv.pBin, Fv.pCmp, Fv.pCmpB, Fv.pBn, Fv.pIsN, Fv.isNon, Fv.endP, List.getElem?_cons_zero, List.getElem?_cons_succ, List.set_cons_zero, List.set_cons_succ, List.map_cons, List.map_nil, List.zip_cons_cons, List.zip_nil_left, Option.map_some, decide_eq_true_eq, if_true, if_false, reduceCtorEq, ↓reduceIte, Bool.not_true, Bool.not_false, Bool.false_eq_true, Fv.pu_same, Fv.pu_pu, L2.ixN, Fv.atI_0, Fv.atI_1, Fv.atI_2, Fv.atI_3, Fv.atI_4, Fv.atI_5, List.length_cons, List.length_nil, Nat.reduceAdd, Int.reduceLT, Int.reduceLE, Int.cast_ofNat_Int, List.length_set, Nat.lt_add_one, true_and, Option.bind_some, Int.toNat_zero, Int.toNat_one, Int.reduceToNat, Nat.zero_add, Int.zero_lt_one, Int.reduceBEq, beq_self_eq_true, List.length_map, ite_true, ite_false, Int.reduceNeg, Fv.atI_last, List.getLast_cons_cons, List.getLast_singleton, Fv.kb_NoneType_tuple, Fv.kb_NoneType_int, Fv.kb_NoneType_bool, Fv.kb_NoneType_str, Fv.kb_NoneType_list, Fv.kb_NoneType_dict, Fv.kb_bool_tuple, Fv.kb_bool_int, Fv.kb_bool_bool, Fv.kb_bool_str, Fv.kb_bool_list, Fv.kb_bool_dict, Fv.kb_int_tuple, Fv.kb_int_int, Fv.kb_int_bool, Fv.kb_int_str, Fv.kb_int_list, Fv.kb_int_dict, Fv.kb_str_tuple, Fv.kb_str_int, Fv.kb_str_bool, Fv.kb_str_str, Fv.kb_str_list, Fv.kb_str_dict, Fv.kb_tuple_tuple, Fv.kb_tuple_int, Fv.kb_tuple_bool, Fv.kb_tuple_str, Fv.kb_tuple_list, Fv.kb_tuple_dict, Fv.kb_list_tuple, Fv.kb_list_int, Fv.kb_list_bool, Fv.kb_list_str, Fv.kb_list_list, Fv.kb_list_dict, Fv.kb_dict_tuple, Fv.kb_dict_int, Fv.kb_dict_bool, Fv.kb_dict_str, Fv.kb_dict_list, Fv.kb_dict_dict, Fv.o_add_ii, Fv.o_add_ss, Fv.o_add_tt, Fv.o_add_rr, Fv.o_sub_ii, Fv.o_mul_ii, Fv.o_mul_rk, Fv.o_mod_ii, Fv.o_div_ii, Fv.o_pow_ii, Fv.o_lt_ii, Fv.o_lt_ss, Fv.o_eq_nn, Fv.o_eq_ni, Fv.o_eq_in, Fv.o_eq_nb, Fv.o_eq_bn, Fv.o_eq_ns, Fv.o_eq_sn, Fv.o_eq_ii, Fv.o_eq_bb, Fv.o_eq_ss, Fv.o_eq_is, Fv.o_eq_si, Fv.o_eq_bs, Fv.o_eq_sb, Fv.o_eq_tt, Fv.o_eq_tr, Fv.o_eq_tn, Fv.o_eq_nt, Fv.o_eq_ti, Fv.o_eq_it, Fv.o_eq_tb, Fv.o_eq_bt, Fv.o_eq_ts, Fv.o_eq_st, Fv.o_eq_rt, Fv.o_eq_rr, Fv.o_eq_rn, Fv.o_eq_nr, Fv.o_eq_ri, Fv.o_eq_ir, Fv.o_eq_rb, Fv.o_eq_br, Fv.o_eq_rs, Fv.o_eq_sr, Fv.o_tru_n, Fv.o_tru_b, Fv.o_tru_i, Fv.o_tru_s, Fv.o_tru_t, Fv.o_tru_w, Fv.o_tru_r, Fv.o_idx_t, Fv.o_idx_w, Fv.o_idx_r, Fv.o_idx_s, Fv.o_idx_d, Fv.o_sl_t, Fv.o_sl_s, Fv.o_sl_r, Fv.o_isi_n, Fv.o_isi_b, Fv.o_isi_i, Fv.o_isi_s, Fv.o_isi_t, Fv.o_isi_w, Fv.o_isi_d, Fv.o_isi_r, Fv.o_len_t, Fv.o_len_w, Fv.o_len_s, Fv.o_len_r, Fv.o_abs, Fv.o_max, Fv.o_min, Fv.o_str, Fv.o_repr, Fv.o_tuple_t, Fv.o_tuple_r, Fv.o_list_t, Fv.o_list_r, Fv.o_set_r, Fv.o_in_t, Fv.o_in_w, Fv.o_in_r, Fv.o_in_s, Fv.o_in_d, Fv.setAll, eq_self, and_true, hq])
    exact ⟨_, sub_np hp, q (.fnd r) o3 ⟨r0, r1⟩ (bg3.mono (by omega))⟩
theorem s_ljoined (hJ : Γ "_law_joined" = some dLJoined) (k : Nat) (ms : List Mp) {b : Int} {G : PH} {a : Addr} {Q : VP} {P : Fv.PC} (h : G a = some (.lst (ms.map Mp.pv))) (hb : 0 < b) (q : Q (Mp.comp ms b).pv G) :
    (Fv.run Γ gl (k + 1)).fn "_law_joined" [.ref a, .int b] [] G Q P := by
  refine run_call hJ (d := dLJoined) rfl ?_
  show wSs _ bLJoined _ [some (.ref a), some (.int b), none, none] G
  (try simp only [Fv.wSs, Fv.wS, Fv.wE, Fv.wT, Fv.wTs, Fv.wA, Fv.wO, Fv.wG, Fv.wGs, Fv.wI, Fv.wVar, Fv.wCst, Fv.wOp, Fv.wUn, Fv.wIte, Fv.wNil, Fv.wCons, Fv.wTup, Fv.wLst, Fv.wCall, Fv.wName, Fv.wGNil, Fv.wGCons, Fv.pBin, Fv.pCmp, Fv.pCmpB, Fv.pBn, Fv.pIsN, Fv.isNon, Fv.endP, List.getElem?_cons_zero, List.getElem?_cons_succ, List.set_cons_zero, List.set_cons_succ, List.map_cons, List.map_nil, List.zip_cons_cons, List.zip_nil_left, Option.map_some, decide_eq_true_eq, if_true, if_false, reduceCtorEq, ↓reduceIte, Bool.not_true, Bool.not_false, Bool.false_eq_true, Fv.pu_same, Fv.pu_pu, L2.ixN, Fv.atI_0, Fv.atI_1, Fv.atI_2, Fv.atI_3, Fv.atI_4, Fv.atI_5, List.length_cons, List.length_nil, Nat.reduceAdd, Int.reduceLT, Int.reduceLE, Int.cast_ofNat_Int, List.length_set, Nat.lt_add_one, true_and, Option.bind_some, Int.toNat_zero, Int.toNat_one, Int.reduceToNat, Nat.zero_add, Int.zero_lt_one, Int.reduceBEq, beq_self_eq_true, List.length_map, ite_true, ite_false, Int.reduceNeg, Fv.atI_last, List.getLast_cons_cons, List.getLast_singleton, Fv.kb_NoneType_tuple, Fv.kb_NoneType_int, Fv.kb_NoneType_bool, Fv.kb_NoneType_str, Fv.kb_NoneType_list, Fv.kb_NoneType_dict, Fv.kb_bool_tuple, Fv.kb_bool_int, Fv.kb_bool_bool, Fv.kb_bool_str, Fv.kb_bool_list, Fv.kb_bool_dict, Fv.kb_int_tuple, Fv.kb_int_int, Fv.kb_int_bool, Fv.kb_int_str, Fv.kb_int_list, Fv.kb_int_dict, Fv.kb_str_tuple, Fv.kb_str_int, Fv.kb_str_bool, Fv.kb_str_str, Fv.kb_str_list, Fv.kb_str_dict, Fv.kb_tuple_tuple, Fv.kb_tuple_int, Fv.kb_tuple_bool, Fv.kb_tuple_str, Fv.kb_tuple_list, Fv.kb_tuple_dict, Fv.kb_list_tuple, Fv.kb_list_int, Fv.kb_list_bool, Fv.kb_list_str, Fv.kb_list_list, Fv.kb_list_dict, Fv.kb_dict_tuple, Fv.kb_dict_int, Fv.kb_dict_bool, Fv.kb_dict_str, Fv.kb_dict_list, Fv.kb_dict_dict, Fv.o_add_ii, Fv.o_add_ss, Fv.o_add_tt, Fv.o_add_rr, Fv.o_sub_ii, Fv.o_mul_ii, Fv.o_mul_rk, Fv.o_mod_ii, Fv.o_div_ii, Fv.o_pow_ii, Fv.o_lt_ii, Fv.o_lt_ss, Fv.o_eq_nn, Fv.o_eq_ni, Fv.o_eq_in, Fv.o_eq_nb, Fv.o_eq_bn, Fv.o_eq_ns, Fv.o_eq_sn, Fv.o_eq_ii, Fv.o_eq_bb, Fv.o_eq_ss, Fv.o_eq_is, Fv.o_eq_si, Fv.o_eq_bs, Fv.o_eq_sb, Fv.o_eq_tt, Fv.o_eq_tr, Fv.o_eq_tn, Fv.o_eq_nt, Fv.o_eq_ti, Fv.o_eq_it, Fv.o_eq_tb, Fv.o_eq_bt, Fv.o_eq_ts, Fv.o_eq_st, Fv.o_eq_rt, Fv.o_eq_rr, Fv.o_eq_rn, Fv.o_eq_nr, Fv.o_eq_ri, Fv.o_eq_ir, Fv.o_eq_rb, Fv.o_eq_br, Fv.o_eq_rs, Fv.o_eq_sr, Fv.o_tru_n, Fv.o_tru_b, Fv.o_tru_i, Fv.o_tru_s, Fv.o_tru_t, Fv.o_tru_w, Fv.o_tru_r, Fv.o_idx_t, Fv.o_idx_w, Fv.o_idx_r, Fv.o_idx_s, Fv.o_idx_d, Fv.o_sl_t, Fv.o_sl_s, Fv.o_sl_r, Fv.o_isi_n, Fv.o_isi_b, Fv.o_isi_i, Fv.o_isi_s, Fv.o_isi_t, Fv.o_isi_w, Fv.o_isi_d, Fv.o_isi_r, Fv.o_len_t, Fv.o_len_w, Fv.o_len_s, Fv.o_len_r, Fv.o_abs, Fv.o_max, Fv.o_min, Fv.o_str, Fv.o_repr, Fv.o_tuple_t, Fv.o_tuple_r, Fv.o_list_t, Fv.o_list_r, Fv.o_set_r, Fv.o_in_t, Fv.o_in_w, Fv.o_in_r, Fv.o_in_s, Fv.o_in_d, Fv.setAll, eq_self, and_true, bLJoined, h])
  refine ⟨by decide, ?_⟩
  refine for_inv (fun xs σ G1 => ∃ (m : Mp) (r : List Mp) (x : Option PV), xs = r.map Mp.pv ∧ σ = [some (.ref a), some (.int b), some m.pv, x] ∧ G1 = G ∧ r.foldl (fun m n => m.join n b) m = Mp.comp ms b) ⟨.fnd 0, ms, none, rfl, rfl, rfl, rfl⟩ (fun _ _ _ ⟨_, _, _, _, _, e, _⟩ => by subst e; exact kept_one h) ?_ ?_
  · rintro σ G1 ⟨m, r, x, e, rfl, rfl, h⟩
    cases r with
    | cons _ _ => cases e
    | nil =>
      (try simp only [Fv.wSs, Fv.wS, Fv.wE, Fv.wT, Fv.wTs, Fv.wA, Fv.wO, Fv.wG, Fv.wGs, Fv.wI, Fv.wVar, Fv.wCst, Fv.wOp, Fv.wUn, Fv.wIte, Fv.wNil, Fv.wCons, Fv.wTup, Fv.wLst, Fv.wCall, Fv.wName, Fv.wGNil, Fv.wGCons, Fv.pBin, Fv.pCmp, Fv.pCmpB, Fv.pBn, Fv.pIsN, Fv.isNon, Fv.endP, List.getElem?_cons_zero, List.getElem?_cons_succ, List.set_cons_zero, List.set_cons_succ, List.map_cons, List.map_nil, List.zip_cons_cons, List.zip_nil_left, Option.map_some, decide_eq_true_eq, if_true, if_false, reduceCtorEq, ↓reduceIte, Bool.not_true, Bool.not_false, Bool.false_eq_true, Fv.pu_same, Fv.pu_pu, L2.ixN, Fv.atI_0, Fv.atI_1, Fv.atI_2, Fv.atI_3, Fv.atI_4, Fv.atI_5, List.length_cons, List.length_nil, Nat.reduceAdd, Int.reduceLT, Int.reduceLE, Int.cast_ofNat_Int, List.length_set, Nat.lt_add_one, true_and, Option.bind_some, Int.toNat_zero, Int.toNat_one, Int.reduceToNat, Nat.zero_add, Int.zero_lt_one, Int.reduceBEq, beq_self_eq_true, List.length_map, ite_true, ite_false, Int.reduceNeg, Fv.atI_last, List.getLast_cons_cons, List.getLast_singleton, Fv.kb_NoneType_tuple, Fv.kb_NoneType_int, Fv.kb_NoneType_bool, Fv.kb_NoneType_str, Fv.kb_NoneType_list, Fv.kb_NoneType_dict, Fv.kb_bool_tuple, Fv.kb_bool_int, Fv.kb_bool_bool, Fv.kb_bool_str, Fv.kb_bool_list, Fv.kb_bool_dict, Fv.kb_int_tuple, Fv.kb_int_int, Fv.kb_int_bool, Fv.kb_int_str, Fv.kb_int_list, Fv.kb_int_dict, Fv.kb_str_tuple, Fv.kb_str_int, Fv.kb_str_bool, Fv.kb_str_str, Fv.kb_str_list, Fv.kb_str_dict, Fv.kb_tuple_tuple, Fv.kb_tuple_int, Fv.kb_tuple_bool, Fv.kb_tuple_str, Fv.kb_tuple_list, Fv.kb_tuple_dict, Fv.kb_list_tuple, Fv.kb_list_int, Fv.kb_list_bool, Fv.kb_list_str, Fv.kb_list_list, Fv.kb_list_dict, Fv.kb_dict_tuple, Fv.kb_dict_int, Fv.kb_dict_bool, Fv.kb_dict_str, Fv.kb_dict_list, Fv.kb_dict_dict, Fv.o_add_ii, Fv.o_add_ss, Fv.o_add_tt, Fv.o_add_rr, Fv.o_sub_ii, Fv.o_mul_ii, Fv.o_mul_rk, Fv.o_mod_ii, Fv.o_div_ii, Fv.o_pow_ii, Fv.o_lt_ii, Fv.o_lt_ss, Fv.o_eq_nn, Fv.o_eq_ni, Fv.o_eq_in, Fv.o_eq_nb, Fv.o_eq_bn, Fv.o_eq_ns, Fv.o_eq_sn, Fv.o_eq_ii, Fv.o_eq_bb, Fv.o_eq_ss, Fv.o_eq_is, Fv.o_eq_si, Fv.o_eq_bs, Fv.o_eq_sb, Fv.o_eq_tt, Fv.o_eq_tr, Fv.o_eq_tn, Fv.o_eq_nt, Fv.o_eq_ti, Fv.o_eq_it, Fv.o_eq_tb, Fv.o_eq_bt, Fv.o_eq_ts, Fv.o_eq_st, Fv.o_eq_rt, Fv.o_eq_rr, Fv.o_eq_rn, Fv.o_eq_nr, Fv.o_eq_ri, Fv.o_eq_ir, Fv.o_eq_rb, Fv.o_eq_br, Fv.o_eq_rs, Fv.o_eq_sr, Fv.o_tru_n, Fv.o_tru_b, Fv.o_tru_i, Fv.o_tru_s, Fv.o_tru_t, Fv.o_tru_w, Fv.o_tru_r, Fv.o_idx_t, Fv.o_idx_w, Fv.o_idx_r, Fv.o_idx_s, Fv.o_idx_d, Fv.o_sl_t, Fv.o_sl_s, Fv.o_sl_r, Fv.o_isi_n, Fv.o_isi_b, Fv.o_isi_i, Fv.o_isi_s, Fv.o_isi_t, Fv.o_isi_w, Fv.o_isi_d, Fv.o_isi_r, Fv.o_len_t, Fv.o_len_w, Fv.o_len_s, Fv.o_len_r, Fv.o_abs, Fv.o_max, Fv.o_min, Fv.o_str, Fv.o_repr, Fv.o_tuple_t, Fv.o_tuple_r, Fv.o_list_t, Fv.o_list_r, Fv.o_set_r, Fv.o_in_t, Fv.o_in_w, Fv.o_in_r, Fv.o_in_s, Fv.o_in_d, Fv.setAll, eq_self, and_true])
      rw [← h] at q
      exact ⟨_, Sub.refl _, q⟩
  · rintro x xs σ G1 R ⟨m, r, y, e, rfl, rfl, h⟩ hR
    cases r with
    | nil => cases e
    | cons n r =>
      cases e
      cases n with
      | num i =>
        (try simp only [Fv.wSs, Fv.wS, Fv.wE, Fv.wT, Fv.wTs, Fv.wA, Fv.wO, Fv.wG, Fv.wGs, Fv.wI, Fv.wVar, Fv.wCst, Fv.wOp, Fv.wUn, Fv.wIte, Fv.wNil, Fv.wCons, Fv.wTup, Fv.wLst, Fv.wCall, Fv.wName, Fv.wGNil, Fv.wGCons, Fv.pBin, Fv.pCmp, Fv.pCmpB, Fv.pBn, Fv.pIsN, Fv.isNon, Fv.endP, List.getElem?_cons_zero, List.getElem?_cons_succ, List.set_cons_zero, List.set_cons_succ, List.map_cons, List.map_nil, List.zip_cons_cons, List.zip_nil_left, Option.map_some, decide_eq_true_eq, if_true, if_false, reduceCtorEq, ↓reduceIte, Bool.not_true, Bool.not_false, Bool.false_eq_true, Fv.pu_same, Fv.pu_pu, L2.ixN, Fv.atI_0, Fv.atI_1, Fv.atI_2, Fv.atI_3, Fv.atI_4, Fv.atI_5, List.length_cons, List.length_nil, Nat.reduceAdd, Int.reduceLT, Int.reduceLE, Int.cast_ofNat_Int, List.length_set, Nat.lt_add_one, true_and, Option.bind_some, Int.toNat_zero, Int.toNat_one, Int.reduceToNat, Nat.zero_add, Int.zero_lt_one, Int.reduceBEq, beq_self_eq_true, List.length_map, ite_true, ite_false, Int.reduceNeg, Fv.atI_last, List.getLast_cons_cons, List.getLast_singleton, Fv.kb_NoneType_tuple, Fv.kb_NoneType_int, Fv.kb_NoneType_bool, Fv.kb_NoneType_str, Fv.kb_NoneType_list, Fv.kb_NoneType_dict, Fv.kb_bool_tuple, Fv.kb_bool_int, Fv.kb_bool_bool, Fv.kb_bool_str, Fv.kb_bool_list, Fv.kb_bool_dict, Fv.kb_int_tuple, Fv.kb_int_int, Fv.kb_int_bool, Fv.kb_int_str, Fv.kb_int_list, Fv.kb_int_dict, Fv.kb_str_tuple, Fv.kb_str_int, Fv.kb_str_bool, Fv.kb_str_str, Fv.kb_str_list, Fv.kb_str_dict, Fv.kb_tuple_tuple, Fv.kb_tuple_int, Fv.kb_tuple_bool, Fv.kb_tuple_str, Fv.kb_tuple_list, Fv.kb_tuple_dict, Fv.kb_list_tuple, Fv.kb_list_int, Fv.kb_list_bool, Fv.kb_list_str, Fv.kb_list_list, Fv.kb_list_dict, Fv.kb_dict_tuple, Fv.kb_dict_int, Fv.kb_dict_bool, Fv.kb_dict_str, Fv.kb_dict_list, Fv.kb_dict_dict, Fv.o_add_ii, Fv.o_add_ss, Fv.o_add_tt, Fv.o_add_rr, Fv.o_sub_ii, Fv.o_mul_ii, Fv.o_mul_rk, Fv.o_mod_ii, Fv.o_div_ii, Fv.o_pow_ii, Fv.o_lt_ii, Fv.o_lt_ss, Fv.o_eq_nn, Fv.o_eq_ni, Fv.o_eq_in, Fv.o_eq_nb, Fv.o_eq_bn, Fv.o_eq_ns, Fv.o_eq_sn, Fv.o_eq_ii, Fv.o_eq_bb, Fv.o_eq_ss, Fv.o_eq_is, Fv.o_eq_si, Fv.o_eq_bs, Fv.o_eq_sb, Fv.o_eq_tt, Fv.o_eq_tr, Fv.o_eq_tn, Fv.o_eq_nt, Fv.o_eq_ti, Fv.o_eq_it, Fv.o_eq_tb, Fv.o_eq_bt, Fv.o_eq_ts, Fv.o_eq_st, Fv.o_eq_rt, Fv.o_eq_rr, Fv.o_eq_rn, Fv.o_eq_nr, Fv.o_eq_ri, Fv.o_eq_ir, Fv.o_eq_rb, Fv.o_eq_br, Fv.o_eq_rs, Fv.o_eq_sr, Fv.o_tru_n, Fv.o_tru_b, Fv.o_tru_i, Fv.o_tru_s, Fv.o_tru_t, Fv.o_tru_w, Fv.o_tru_r, Fv.o_idx_t, Fv.o_idx_w, Fv.o_idx_r, Fv.o_idx_s, Fv.o_idx_d, Fv.o_sl_t, Fv.o_sl_s, Fv.o_sl_r, Fv.o_isi_n, Fv.o_isi_b, Fv.o_isi_i, Fv.o_isi_s, Fv.o_isi_t, Fv.o_isi_w, Fv.o_isi_d, Fv.o_isi_r, Fv.o_len_t, Fv.o_len_w, Fv.o_len_s, Fv.o_len_r, Fv.o_abs, Fv.o_max, Fv.o_min, Fv.o_str, Fv.o_repr, Fv.o_tuple_t, Fv.o_tuple_r, Fv.o_list_t, Fv.o_list_r, Fv.o_set_r, Fv.o_in_t, Fv.o_in_w, Fv.o_in_r, Fv.o_in_s, Fv.o_in_d, Fv.setAll, eq_self, and_true, Mp.pv])
        exact hR _ _ _ (Sub.refl _) ⟨.num i, r, _, rfl, rfl, rfl, h⟩
      | fnd i =>
        cases m with
        | num j =>
          (try simp only [Fv.wSs, Fv.wS, Fv.wE, Fv.wT, Fv.wTs, Fv.wA, Fv.wO, Fv.wG, Fv.wGs, Fv.wI, Fv.wVar, Fv.wCst, Fv.wOp, Fv.wUn, Fv.wIte, Fv.wNil, Fv.wCons, Fv.wTup, Fv.wLst, Fv.wCall, Fv.wName, Fv.wGNil, Fv.wGCons, Fv.pBin, Fv.pCmp, Fv.pCmpB, Fv.pBn, Fv.pIsN, Fv.isNon, Fv.endP, List.getElem?_cons_zero, List.getElem?_cons_succ, List.set_cons_zero, List.set_cons_succ, List.map_cons, List.map_nil, List.zip_cons_cons, List.zip_nil_left, Option.map_some, decide_eq_true_eq, if_true, if_false, reduceCtorEq, ↓reduceIte, Bool.not_true, Bool.not_false, Bool.false_eq_true, Fv.pu_same, Fv.pu_pu, L2.ixN, Fv.atI_0, Fv.atI_1, Fv.atI_2, Fv.atI_3, Fv.atI_4, Fv.atI_5, List.length_cons, List.length_nil, Nat.reduceAdd, Int.reduceLT, Int.reduceLE, Int.cast_ofNat_Int, List.length_set, Nat.lt_add_one, true_and, Option.bind_some, Int.toNat_zero, Int.toNat_one, Int.reduceToNat, Nat.zero_add, Int.zero_lt_one, Int.reduceBEq, beq_self_eq_true, List.length_map, ite_true, ite_false, Int.reduceNeg, Fv.atI_last, List.getLast_cons_cons, List.getLast_singleton, Fv.kb_NoneType_tuple, Fv.kb_NoneType_int, Fv.kb_NoneType_bool, Fv.kb_NoneType_str, Fv.kb_NoneType_list, Fv.kb_NoneType_dict, Fv.kb_bool_tuple, Fv.kb_bool_int, Fv.kb_bool_bool, Fv.kb_bool_str, Fv.kb_bool_list, Fv.kb_bool_dict, Fv.kb_int_tuple, Fv.kb_int_int, Fv.kb_int_bool, Fv.kb_int_str, Fv.kb_int_list, Fv.kb_int_dict, Fv.kb_str_tuple, Fv.kb_str_int, Fv.kb_str_bool, Fv.kb_str_str, Fv.kb_str_list, Fv.kb_str_dict, Fv.kb_tuple_tuple, Fv.kb_tuple_int, Fv.kb_tuple_bool, Fv.kb_tuple_str, Fv.kb_tuple_list, Fv.kb_tuple_dict, Fv.kb_list_tuple, Fv.kb_list_int, Fv.kb_list_bool, Fv.kb_list_str, Fv.kb_list_list, Fv.kb_list_dict, Fv.kb_dict_tuple, Fv.kb_dict_int, Fv.kb_dict_bool, Fv.kb_dict_str, Fv.kb_dict_list, Fv.kb_dict_dict, Fv.o_add_ii, Fv.o_add_ss, Fv.o_add_tt, Fv.o_add_rr, Fv.o_sub_ii, Fv.o_mul_ii, Fv.o_mul_rk, Fv.o_mod_ii, Fv.o_div_ii, Fv.o_pow_ii, Fv.o_lt_ii, Fv.o_lt_ss, Fv.o_eq_nn, Fv.o_eq_ni, Fv.o_eq_in, Fv.o_eq_nb, Fv.o_eq_bn, Fv.o_eq_ns, Fv.o_eq_sn, Fv.o_eq_ii, Fv.o_eq_bb, Fv.o_eq_ss, Fv.o_eq_is, Fv.o_eq_si, Fv.o_eq_bs, Fv.o_eq_sb, Fv.o_eq_tt, Fv.o_eq_tr, Fv.o_eq_tn, Fv.o_eq_nt, Fv.o_eq_ti, Fv.o_eq_it, Fv.o_eq_tb, Fv.o_eq_bt, Fv.o_eq_ts, Fv.o_eq_st, Fv.o_eq_rt, Fv.o_eq_rr, Fv.o_eq_rn, Fv.o_eq_nr, Fv.o_eq_ri, Fv.o_eq_ir, Fv.o_eq_rb, Fv.o_eq_br, Fv.o_eq_rs, Fv.o_eq_sr, Fv.o_tru_n, Fv.o_tru_b, Fv.o_tru_i, Fv.o_tru_s, Fv.o_tru_t, Fv.o_tru_w, Fv.o_tru_r, Fv.o_idx_t, Fv.o_idx_w, Fv.o_idx_r, Fv.o_idx_s, Fv.o_idx_d, Fv.o_sl_t, Fv.o_sl_s, Fv.o_sl_r, Fv.o_isi_n, Fv.o_isi_b, Fv.o_isi_i, Fv.o_isi_s, Fv.o_isi_t, Fv.o_isi_w, Fv.o_isi_d, Fv.o_isi_r, Fv.o_len_t, Fv.o_len_w, Fv.o_len_s, Fv.o_len_r, Fv.o_abs, Fv.o_max, Fv.o_min, Fv.o_str, Fv.o_repr, Fv.o_tuple_t, Fv.o_tuple_r, Fv.o_list_t, Fv.o_list_r, Fv.o_set_r, Fv.o_in_t, Fv.o_in_w, Fv.o_in_r, Fv.o_in_s, Fv.o_in_d, Fv.setAll, eq_self, and_true, Mp.pv])
          exact ⟨hb, hR _ _ _ (Sub.refl _) ⟨.num ((j + i) % b), r, _, rfl, rfl, rfl, h⟩⟩
        | fnd j =>
          (try simp only [Fv.wSs, Fv.wS, Fv.wE, Fv.wT, Fv.wTs, Fv.wA, Fv.wO, Fv.wG, Fv.wGs, Fv.wI, Fv.wVar, Fv.wCst, Fv.wOp, Fv.wUn, Fv.wIte, Fv.wNil, Fv.wCons, Fv.wTup, Fv.wLst, Fv.wCall, Fv.wName, Fv.wGNil, Fv.wGCons, Fv.pBin, Fv.pCmp, Fv.pCmpB, Fv.pBn, Fv.pIsN, Fv.isNon, Fv.endP, List.getElem?_cons_zero, List.getElem?_cons_succ, List.set_cons_zero, List.set_cons_succ, List.map_cons, List.map_nil, List.zip_cons_cons, List.zip_nil_left, Option.map_some, decide_eq_true_eq, if_true, if_false, reduceCtorEq, ↓reduceIte, Bool.not_true, Bool.not_false, Bool.false_eq_true, Fv.pu_same, Fv.pu_pu, L2.ixN, Fv.atI_0, Fv.atI_1, Fv.atI_2, Fv.atI_3, Fv.atI_4, Fv.atI_5, List.length_cons, List.length_nil, Nat.reduceAdd, Int.reduceLT, Int.reduceLE, Int.cast_ofNat_Int, List.length_set, Nat.lt_add_one, true_and, Option.bind_some, Int.toNat_zero, Int.toNat_one, Int.reduceToNat, Nat.zero_add, Int.zero_lt_one, Int.reduceBEq, beq_self_eq_true, List.length_map, ite_true, ite_false, Int.reduceNeg, Fv.atI_last, List.getLast_cons_cons, List.getLast_singleton, Fv.kb_NoneType_tuple, Fv.kb_NoneType_int, Fv.kb_NoneType_bool, Fv.kb_NoneType_str, Fv.kb_NoneType_list, Fv.kb_NoneType_dict, Fv.kb_bool_tuple, Fv.kb_bool_int, Fv.kb_bool_bool, Fv.kb_bool_str, Fv.kb_bool_list, Fv.kb_bool_dict, Fv.kb_int_tuple, Fv.kb_int_int, Fv.kb_int_bool, Fv.kb_int_str, Fv.kb_int_list, Fv.kb_int_dict, Fv.kb_str_tuple, Fv.kb_str_int, Fv.kb_str_bool, Fv.kb_str_str, Fv.kb_str_list, Fv.kb_str_dict, Fv.kb_tuple_tuple, Fv.kb_tuple_int, Fv.kb_tuple_bool, Fv.kb_tuple_str, Fv.kb_tuple_list, Fv.kb_tuple_dict, Fv.kb_list_tuple, Fv.kb_list_int, Fv.kb_list_bool, Fv.kb_list_str, Fv.kb_list_list, Fv.kb_list_dict, Fv.kb_dict_tuple, Fv.kb_dict_int, Fv.kb_dict_bool, Fv.kb_dict_str, Fv.kb_dict_list, Fv.kb_dict_dict, Fv.o_add_ii, Fv.o_add_ss, Fv.o_add_tt, Fv.o_add_rr, Fv.o_sub_ii, Fv.o_mul_ii, Fv.o_mul_rk, Fv.o_mod_ii, Fv.o_div_ii, Fv.o_pow_ii, Fv.o_lt_ii, Fv.o_lt_ss, Fv.o_eq_nn, Fv.o_eq_ni, Fv.o_eq_in, Fv.o_eq_nb, Fv.o_eq_bn, Fv.o_eq_ns, Fv.o_eq_sn, Fv.o_eq_ii, Fv.o_eq_bb, Fv.o_eq_ss, Fv.o_eq_is, Fv.o_eq_si, Fv.o_eq_bs, Fv.o_eq_sb, Fv.o_eq_tt, Fv.o_eq_tr, Fv.o_eq_tn, Fv.o_eq_nt, Fv.o_eq_ti, Fv.o_eq_it, Fv.o_eq_tb, Fv.o_eq_bt, Fv.o_eq_ts, Fv.o_eq_st, Fv.o_eq_rt, Fv.o_eq_rr, Fv.o_eq_rn, Fv.o_eq_nr, Fv.o_eq_ri, Fv.o_eq_ir, Fv.o_eq_rb, Fv.o_eq_br, Fv.o_eq_rs, Fv.o_eq_sr, Fv.o_tru_n, Fv.o_tru_b, Fv.o_tru_i, Fv.o_tru_s, Fv.o_tru_t, Fv.o_tru_w, Fv.o_tru_r, Fv.o_idx_t, Fv.o_idx_w, Fv.o_idx_r, Fv.o_idx_s, Fv.o_idx_d, Fv.o_sl_t, Fv.o_sl_s, Fv.o_sl_r, Fv.o_isi_n, Fv.o_isi_b, Fv.o_isi_i, Fv.o_isi_s, Fv.o_isi_t, Fv.o_isi_w, Fv.o_isi_d, Fv.o_isi_r, Fv.o_len_t, Fv.o_len_w, Fv.o_len_s, Fv.o_len_r, Fv.o_abs, Fv.o_max, Fv.o_min, Fv.o_str, Fv.o_repr, Fv.o_tuple_t, Fv.o_tuple_r, Fv.o_list_t, Fv.o_list_r, Fv.o_set_r, Fv.o_in_t, Fv.o_in_w, Fv.o_in_r, Fv.o_in_s, Fv.o_in_d, Fv.setAll, eq_self, and_true, Mp.pv])
          exact ⟨hb, by decide, hR _ _ _ (Sub.refl _) ⟨.fnd ((j + i) % b), r, _, rfl, rfl, rfl, h⟩⟩
end
end Fv

namespace L_09
open PySem PySem.Spec PyProof.Rows L2 Fv
abbrev top (i : Nat) : Stmt := PySem.Challenge.pw_foundvalues_k09_whole_maps_composed.main.body.getD i (.Pass ⟨0, 0, 0, 0⟩)
def fs : List Str := ["apply", "joined", "composed", "_law_bag", "_law_take", "_law_map", "_law_folded", "_law_walked", "law"]
def bapply : Ss := .cons (.ret (.ite (.e (.isi (.var 0) "tuple")) (.bin .Mod (.bin .Add (.var 1) (.idx (.var 0) (.cst (.int 1)))) (.var 2)) (.var 0))) .nil
def dapply : FDef := { pos := ["mapping", "number"], ko := ["base"], va := none, N := ["mapping", "number", "base"], body := bapply, dfl := [], kdf := [("base", .int (3))] }
def bjoined_2 : Ss := .cons (.ret (.tup (.one (.glob "FOUND") (.one (.bin .Mod (.bin .Add (.idx (.var 0) (.cst (.int 1))) (.idx (.var 1) (.cst (.int 1)))) (.var 2)) (.nil))))) .nil
def bjoined_1 : Ss := .cons (.ifs (.not (.e (.isi (.var 0) "tuple"))) (.cons (.ret (.call "apply" (.one (.var 1) (.one (.var 0) (.nil))) ["base"] (.one (.var 2) (.nil))))
    (.nil)) (.nil)) bjoined_2
def bjoined : Ss := .cons (.ifs (.not (.e (.isi (.var 1) "tuple"))) (.cons (.ret (.var 1))
    (.nil)) (.nil)) bjoined_1
def djoined : FDef := { pos := ["first", "second", "base"], ko := [], va := none, N := ["first", "second", "base"], body := bjoined, dfl := [], kdf := [] }
def bcomposed_f1 : Ss := .cons (.asg (.name 2) (.call "joined" (.one (.var 2) (.one (.var 3) (.one (.var 0) (.nil)))) [] (.nil))) .nil
def bcomposed_2 : Ss := .cons (.ret (.var 2)) .nil
def bcomposed_1 : Ss := .cons (.for_ (.name 3) (.gen (.var 1)) bcomposed_f1) bcomposed_2
def bcomposed : Ss := .cons (.asg (.name 2) (.glob "SAME")) bcomposed_1
def dcomposed : FDef := { pos := [], ko := ["base"], va := some "mappings", N := ["base", "mappings", "found", "mapping"], body := bcomposed, dfl := [], kdf := [("base", .int (3))] }
def bf_law_bag_2 : Ss := .cons (.ret (.lst (.one (.var 3) (.one (.bin .Mod (.bin .Mult (.bin .Add (.bin .Add (.bin .Mod (.var 2) (.cst (.int 2305843009213693951))) (.bin .Mult (.cst (.int 7919)) (.var 1))) (.cst (.int 3))) (.cst (.int 6700417))) (.cst (.int 2305843009213693951))) (.one (.cst (.int 0)) (.nil)))))) .nil
def bf_law_bag_1 : Ss := .cons (.asg (.name 3) (.ite (.cmp .GtE (.blt .abs (.one (.var 2) (.nil))) (.bin .Pow (.cst (.int 10)) (.cst (.int 18)))) (.blt .abs (.one (.var 2) (.nil))) (.cst (.int 0)))) bf_law_bag_2
def bf_law_bag : Ss := .cons (.asg (.name 2) (.ite (.cmp .Lt (.var 1) (.blt .len (.one (.var 0) (.nil)))) (.idx (.var 0) (.var 1)) (.cst (.int 0)))) bf_law_bag_1
def df_law_bag : FDef := { pos := ["_law_script", "_law_at"], ko := [], va := none, N := ["_law_script", "_law_at", "_law_cell", "_law_digits"], body := bf_law_bag, dfl := [], kdf := [] }
def bf_law_take_4 : Ss := .cons (.ret (.bin .Mod (.bin .FloorDiv (.var 3) (.cst (.int 1024))) (.var 1))) .nil
def bf_law_take_3 : Ss := .cons (.asg (.name 3) (.bin .Mod (.bin .Pow (.bin .Add (.var 3) (.bin .Mult (.cst (.int 15485863)) (.idx (.var 0) (.cst (.int 2))))) (.cst (.int 2))) (.cst (.int 2305843009213693951)))) bf_law_take_4
def bf_law_take_2 : Ss := .cons (.asg (.name 3) (.bin .Mod (.bin .Pow (.bin .Add (.idx (.var 0) (.cst (.int 1))) (.bin .Mult (.cst (.int 1000003)) (.idx (.var 0) (.cst (.int 2))))) (.cst (.int 3))) (.cst (.int 2305843009213693921)))) bf_law_take_3
def bf_law_take_1 : Ss := .cons (.asg (.sub (.var 0) (.cst (.int 2))) (.bin .Add (.idx (.var 0) (.cst (.int 2))) (.cst (.int 1)))) bf_law_take_2
def bf_law_take : Ss := .cons (.ifs (.cmp .Gt (.idx (.var 0) (.cst (.int 0))) (.cst (.int 0))) (.cons (.asg (.name 2) (.bin .Mod (.idx (.var 0) (.cst (.int 0))) (.var 1)))
    (.cons (.asg (.sub (.var 0) (.cst (.int 0))) (.bin .FloorDiv (.idx (.var 0) (.cst (.int 0))) (.var 1)))
    (.cons (.ret (.var 2))
    (.nil)))) (.nil)) bf_law_take_1
def df_law_take : FDef := { pos := ["_law_bag_here", "_law_many"], ko := [], va := none, N := ["_law_bag_here", "_law_many", "_law_digit", "_law_mixed"], body := bf_law_take, dfl := [], kdf := [] }
def bf_law_map_1 : Ss := .cons (.ret (.idx (.lst (.one (.var 2) (.one (.tup (.one (.cst (.str "found")) (.one (.var 2) (.nil)))) (.nil)))) (.call "_law_take" (.one (.var 0) (.one (.cst (.int 2)) (.nil))) [] (.nil)))) .nil
def bf_law_map : Ss := .cons (.asg (.name 2) (.call "_law_take" (.one (.var 0) (.one (.var 1) (.nil))) [] (.nil))) bf_law_map_1
def df_law_map : FDef := { pos := ["_law_bag_here", "_law_radix"], ko := [], va := none, N := ["_law_bag_here", "_law_radix", "_law_number"], body := bf_law_map, dfl := [], kdf := [] }
def bf_law_folded_f1 : Ss := .cons (.asg (.name 2) (.call "composed" (.one (.var 2) (.one (.var 3) (.nil))) ["base"] (.one (.var 1) (.nil)))) .nil
def bf_law_folded_2 : Ss := .cons (.ret (.var 2)) .nil
def bf_law_folded_1 : Ss := .cons (.for_ (.name 3) (.gen (.var 0)) bf_law_folded_f1) bf_law_folded_2
def bf_law_folded : Ss := .cons (.asg (.name 2) (.call "composed" (.nil) ["base"] (.one (.var 1) (.nil)))) bf_law_folded_1
def df_law_folded : FDef := { pos := ["_law_some", "_law_radix"], ko := [], va := none, N := ["_law_some", "_law_radix", "_law_found", "_law_mapping"], body := bf_law_folded, dfl := [], kdf := [] }
def bf_law_walked_f1 : Ss := .cons (.asg (.name 1) (.call "apply" (.one (.var 3) (.one (.var 1) (.nil))) ["base"] (.one (.var 2) (.nil)))) .nil
def bf_law_walked_1 : Ss := .cons (.ret (.var 1)) .nil
def bf_law_walked : Ss := .cons (.for_ (.name 3) (.gen (.var 0)) bf_law_walked_f1) bf_law_walked_1
def df_law_walked : FDef := { pos := ["_law_some", "_law_number", "_law_radix"], ko := [], va := none, N := ["_law_some", "_law_number", "_law_radix", "_law_mapping"], body := bf_law_walked, dfl := [], kdf := [] }
def blaw_f3 : Ss := .cons (.ifs (.cmp .NotEq (.call "apply" (.one (.var 6) (.one (.var 8) (.nil))) ["base"] (.one (.var 3) (.nil))) (.call "_law_walked" (.one (.var 5) (.one (.var 8) (.one (.var 3) (.nil)))) [] (.nil))) (.cons (.ret (.cst (.bl false)))
    (.nil)) (.nil)) .nil
def blaw_f4_3 : Ss := .cons (.ifs (.cmp .NotEq (.call "composed" (.one (.var 6) (.one (.cst (.int 1)) (.nil))) ["base"] (.one (.var 3) (.nil))) (.cst (.int 1))) (.cons (.ret (.cst (.bl false)))
    (.nil)) (.nil)) .nil
def blaw_f4_2 : Ss := .cons (.ifs (.or (.cmp .NotEq (.var 10) (.var 6)) (.cmp .NotEq (.var 11) (.var 6))) (.cons (.ret (.cst (.bl false)))
    (.nil)) (.nil)) blaw_f4_3
def blaw_f4_1 : Ss := .cons (.asg (.name 11) (.call "_law_folded" (.one (.bin .Add (.bin .Add (.sl (.var 5) (.none) (.some (.var 9))) (.lst (.one (.var 7) (.nil)))) (.sl (.var 5) (.some (.var 9)) (.none))) (.one (.var 3) (.nil))) [] (.nil))) blaw_f4_2
def blaw_f4 : Ss := .cons (.asg (.name 10) (.call "composed" (.one (.call "_law_folded" (.one (.sl (.var 5) (.none) (.some (.var 9))) (.one (.var 3) (.nil))) [] (.nil)) (.one (.call "_law_folded" (.one (.sl (.var 5) (.some (.var 9)) (.none)) (.one (.var 3) (.nil))) [] (.nil)) (.nil))) ["base"] (.one (.var 3) (.nil)))) blaw_f4_1
def blaw_f2_6 : Ss := .cons (.ifs (.cmp .NotEq (.blt .all (.one (.var 13) (.nil))) (.cmp .Eq (.blt .repr (.one (.var 12) (.nil))) (.blt .repr (.one (.var 6) (.nil))))) (.cons (.ret (.cst (.bl false)))
    (.nil)) (.nil)) .nil
def blaw_f2_5 : Ss := .cons (.asgL 13 (.lc (.cmp .Eq (.call "apply" (.one (.var 12) (.one (.var 9) (.nil))) ["base"] (.one (.var 3) (.nil))) (.call "apply" (.one (.var 6) (.one (.var 9) (.nil))) ["base"] (.one (.var 3) (.nil)))) (.name 9) (.rng (.var 3)) (.nil) [("_law_k", 9)])) blaw_f2_6
def blaw_f2_4 : Ss := .cons (.asg (.name 12) (.call "_law_map" (.one (.var 2) (.one (.var 3) (.nil))) [] (.nil))) blaw_f2_5
def blaw_f2_3 : Ss := .cons (.for_ (.name 9) (.rng (.bin .Add (.blt .len (.one (.var 5) (.nil))) (.cst (.int 1)))) blaw_f4) blaw_f2_4
def blaw_f2_2 : Ss := .cons (.for_ (.name 8) (.rng (.var 3)) blaw_f3) blaw_f2_3
def blaw_f2_1 : Ss := .cons (.asg (.tup (.cons (.name 6) (.cons (.name 7) (.nil)))) (.tup (.one (.call "_law_folded" (.one (.var 5) (.one (.var 3) (.nil))) [] (.nil)) (.one (.call "composed" (.nil) ["base"] (.one (.var 3) (.nil))) (.nil))))) blaw_f2_2
def blaw_f2 : Ss := .cons (.asgL 5 (.lc (.call "_law_map" (.one (.var 2) (.one (.var 3) (.nil))) [] (.nil)) (.name 9) (.rng (.call "_law_take" (.one (.var 2) (.one (.cst (.int 7)) (.nil))) [] (.nil))) (.nil) [("_law_k", 9)])) blaw_f2_1
def blaw_f1_2 : Ss := .cons (.for_ (.name 4) (.rng (.cst (.int 8))) blaw_f2) .nil
def blaw_f1_1 : Ss := .cons (.asg (.name 3) (.bin .Add (.cst (.int 2)) (.call "_law_take" (.one (.var 2) (.one (.cst (.int 4)) (.nil))) [] (.nil)))) blaw_f1_2
def blaw_f1 : Ss := .cons (.asg (.name 2) (.call "_law_bag" (.one (.var 0) (.one (.var 1) (.nil))) [] (.nil))) blaw_f1_1
def blaw_1 : Ss := .cons (.ret (.cst (.bl true))) .nil
def blaw : Ss := .cons (.for_ (.name 1) (.rng (.blt .max (.one (.cst (.int 2)) (.one (.blt .min (.one (.cst (.int 6)) (.one (.blt .len (.one (.var 0) (.nil))) (.nil)))) (.nil))))) blaw_f1) blaw_1
def dlaw : FDef := { pos := ["_law_script"], ko := [], va := none, N := ["_law_script", "_law_at", "_law_bag_here", "_law_radix", "_law_turn", "_law_some", "_law_whole", "_law_same", "_law_number", "_law_k", "_law_cut", "_law_more", "_law_other", "_law_done"], body := blaw, dfl := [], kdf := [] }
def gs : List (Str × PV) := [("FOUND", .str "found"), ("SAME", .tup [.str "found", .int (0)])]
def gl : Str → Option PV := fun x => gs.lookup x
def tbl : List (Str × FDef) := [("apply", dapply), ("joined", djoined), ("composed", dcomposed), ("_law_bag", df_law_bag), ("_law_take", df_law_take), ("_law_map", df_law_map), ("_law_folded", df_law_folded), ("_law_walked", df_law_walked), ("law", dlaw)]
def Γ : Str → Option FDef := fun x => tbl.lookup x
end L_09
set_option Elab.async false
set_option linter.all false
set_option maxRecDepth 100000
set_option maxHeartbeats 4000000
namespace L_09
open PySem hiding run
open Fv
theorem g_apply : Γ "apply" = some dApply := by rfl
theorem g_joined : Γ "joined" = some dJoined := by rfl
theorem g_composed : Γ "composed" = some dComposed := by rfl
theorem g_bag : Γ "_law_bag" = some dBag := by rfl
theorem g_take : Γ "_law_take" = some dTake := by rfl
theorem g_map : Γ "_law_map" = some dLMap := by rfl
theorem g_folded : Γ "_law_folded" = some df_law_folded := by rfl
theorem g_walked : Γ "_law_walked" = some df_law_walked := by rfl
theorem g_law : Γ "law" = some dlaw := by rfl
theorem g_found : gl "FOUND" = some (.str "found") := by rfl
theorem g_same : gl "SAME" = some (.tup [.str "found", .int 0]) := by rfl
theorem join_zero {m : Mp} {b : Int} (h : m.ok b) : (Mp.fnd 0).join m b = m := by
  cases m with
  | num i => rfl
  | fnd i => simp only [Mp.join, Int.zero_add]; rw [Int.emod_eq_of_lt (a := i) h.1 h.2]
theorem join_assoc (l m n : Mp) (b : Int) : (l.join m b).join n b = l.join (m.join n b) b := by
  cases n with
  | num i => rfl
  | fnd j => cases m with
    | num i => rfl
    | fnd i => cases l with
      | num z => simp only [Mp.join, Int.emod_add_emod, Int.add_emod_emod, Int.add_assoc]
      | fnd z => simp only [Mp.join, Int.emod_add_emod, Int.add_emod_emod, Int.add_assoc]
theorem join_ok {b : Int} (hb : 0 < b) (m n : Mp) (h : n.ok b) : (m.join n b).ok b := by
  have e := fun z : Int => (⟨Int.emod_nonneg z (by omega), Int.emod_lt_of_pos z hb⟩ : 0 ≤ z % b ∧ z % b < b)
  cases n with
  | num i => exact h
  | fnd i => cases m <;> exact e _
theorem join_end {m : Mp} {b : Int} (h : m.ok b) : m.join (.fnd 0) b = m := by
  cases m with
  | num i => simp only [Mp.join, Int.add_zero]; rw [Int.emod_eq_of_lt (a := i) h.1 h.2]
  | fnd i => simp only [Mp.join, Int.add_zero]; rw [Int.emod_eq_of_lt (a := i) h.1 h.2]
abbrev fol (b : Int) (m : Mp) (ms : List Mp) : Mp := ms.foldl (fun m n => m.join n b) m
theorem fol_ok {b : Int} (hb : 0 < b) : ∀ (ms : List Mp) (m : Mp), m.ok b → (∀ x ∈ ms, x.ok b) → (fol b m ms).ok b
  | [], m, h, _ => h
  | n :: r, m, h, k => fol_ok hb r _ (join_ok hb m n (k n List.mem_cons_self)) fun x hx => k x (List.mem_cons_of_mem _ hx)
theorem zero_ok {b : Int} (hb : 0 < b) : (Mp.fnd 0).ok b := ⟨by decide, hb⟩
theorem fol_join {b : Int} (hb : 0 < b) : ∀ (ms : List Mp) (m : Mp), m.ok b → (∀ x ∈ ms, x.ok b) → fol b m ms = m.join (fol b (.fnd 0) ms) b
  | [], m, h, _ => (join_end h).symm
  | n :: r, m, h, k => by
    have hn := k n List.mem_cons_self
    have hr : ∀ x ∈ r, x.ok b := fun x hx => k x (List.mem_cons_of_mem _ hx)
    show fol b (m.join n b) r = m.join (fol b ((Mp.fnd 0).join n b) r) b
    rw [join_zero hn, fol_join hb r _ (join_ok hb m n hn) hr, fol_join hb r n hn hr, join_assoc]
theorem fol_app {b : Int} (l r : List Mp) (m : Mp) : fol b m (l ++ r) = fol b (fol b m l) r := List.foldl_append
theorem app_join (m n : Mp) (x b : Int) : (m.join n b).app x b = n.app (m.app x b) b := by
  cases n with
  | num i => rfl
  | fnd j => cases m with
    | num i => rfl
    | fnd i => simp only [Mp.join, Mp.app, Int.emod_add_emod, Int.add_emod_emod, Int.add_assoc]
theorem app_fol {b x : Int} : ∀ (ms : List Mp) (m : Mp), (fol b m ms).app x b = ms.foldl (fun x m => m.app x b) (m.app x b)
  | [], m => rfl
  | n :: r, m => by
    show (fol b (m.join n b) r).app x b = r.foldl _ (n.app (m.app x b) b)
    rw [app_fol r, app_join]
theorem app_diff {m n : Mp} {b : Int} (hb : 2 ≤ b) (hm : m.ok b) (hn : n.ok b) (h : ∀ x, 0 ≤ x → x < b → m.app x b = n.app x b) : m = n := by
  have h0 := h 0 (by omega) (by omega)
  have h1 := h 1 (by omega) (by omega)
  have low : ∀ i : Int, 0 ≤ i → i < b → (0 + i) % b = i := fun i h1 h2 => by rw [Int.zero_add, Int.emod_eq_of_lt h1 h2]
  have next : ∀ i : Int, 0 ≤ i → i < b → (1 + i) % b ≠ i := fun i h1 h2 => by
    by_cases hi : 1 + i < b
    · rw [Int.emod_eq_of_lt (by omega) hi]; omega
    · have : 1 + i = b := by omega
      rw [this, Int.emod_self]; omega
  cases m with
  | num i => cases n with
    | num j => simp only [Mp.app] at h0; rw [h0]
    | fnd j =>
      simp only [Mp.app] at h0 h1
      rw [low j hn.1 hn.2] at h0
      rw [h0] at h1
      exact absurd h1.symm (next j hn.1 hn.2)
  | fnd i => cases n with
    | num j =>
      simp only [Mp.app] at h0 h1
      rw [low i hm.1 hm.2] at h0
      rw [← h0] at h1
      exact absurd h1 (next i hm.1 hm.2)
    | fnd j =>
      simp only [Mp.app] at h0
      rw [low i hm.1 hm.2, low j hn.1 hn.2] at h0
      rw [h0]
theorem shown_num : ∀ i j : Fin 5, ((Mp.num (i : Nat)).dat.shown == (Mp.num (j : Nat)).dat.shown) = decide (i = j) := by decide +kernel
theorem shown_fnd : ∀ i j : Fin 5, ((Mp.fnd (i : Nat)).dat.shown == (Mp.fnd (j : Nat)).dat.shown) = decide (i = j) := by decide +kernel
theorem shown_nf : ∀ i j : Fin 5, ((Mp.num (i : Nat)).dat.shown == (Mp.fnd (j : Nat)).dat.shown) = false := by decide +kernel
theorem shown_fn : ∀ i j : Fin 5, ((Mp.fnd (i : Nat)).dat.shown == (Mp.num (j : Nat)).dat.shown) = false := by decide +kernel
theorem shown_eq {m n : Mp} {b : Int} (hb : b ≤ 5) (hm : m.ok b) (hn : n.ok b) : (m.dat.shown == n.dat.shown) = true ↔ m = n := by
  have lift : ∀ i : Int, 0 ≤ i → i < b → ∃ f : Fin 5, i = ((f : Nat) : Int) := fun i h1 h2 => ⟨⟨i.toNat, by omega⟩, by simp; omega⟩
  cases m with
  | num i =>
    obtain ⟨f, rfl⟩ := lift i hm.1 hm.2
    cases n with
    | num j =>
      obtain ⟨g, rfl⟩ := lift j hn.1 hn.2
      rw [shown_num, decide_eq_true_eq]
      exact ⟨fun h => by rw [h], fun h => by injection h with h; omega⟩
    | fnd j =>
      obtain ⟨g, rfl⟩ := lift j hn.1 hn.2
      rw [shown_nf]
      exact ⟨fun h => (Bool.false_ne_true h).elim, fun h => by cases h⟩
  | fnd i =>
    obtain ⟨f, rfl⟩ := lift i hm.1 hm.2
    cases n with
    | num j =>
      obtain ⟨g, rfl⟩ := lift j hn.1 hn.2
      rw [shown_fn]
      exact ⟨fun h => (Bool.false_ne_true h).elim, fun h => by cases h⟩
    | fnd j =>
      obtain ⟨g, rfl⟩ := lift j hn.1 hn.2
      rw [shown_fnd, decide_eq_true_eq]
      exact ⟨fun h => by rw [h], fun h => by injection h with h; omega⟩
theorem eq_self_mp (m : Mp) {G : PH} {Q : Bool → Prop} (q : Q true) : pEq G m.pv m.pv Q := by
  cases m with
  | num i => rw [Mp.pv, o_eq_ii]; simpa using q
  | fnd i =>
    have e := Mp.dat_pv (.fnd i) G
    have s := Mp.shaped (.fnd i)
    simp only [Mp.pv, Mp.dat] at e s ⊢
    rw [o_eq_tt, e]
    refine ⟨s, s, ?_⟩
    have : PyData.eqv (.tuple [.str (Str.ofString "found"), .int i]) (.tuple [.str (Str.ofString "found"), .int i]) = true := by simp [PyData.eqv, PyData.eqvAll]
    rw [this]; exact q
theorem composed_g (k : Nat) (ms : List Mp) {b : Int} {G : PH} {Q : VP} {P : Fv.PC} (hb : 0 < b) (hl : ms.length ≤ 1000) (q : Q (fol b (.fnd 0) ms).pv G) : (run Γ gl (k + 3)).fn "composed" (ms.map Mp.pv) [("base", .int b)] G Q P :=
  s_composed g_apply g_joined g_composed g_found g_same k ms hb hl q
theorem s_folded (k : Nat) (ms : List Mp) {b : Int} {G : PH} {a : Addr} {Q : VP} {P : Fv.PC} (h : G a = some (.lst (ms.map Mp.pv))) (hok : ∀ m ∈ ms, m.ok b) (hb : 0 < b) (q : Q (fol b (.fnd 0) ms).pv G) :
    (run Γ gl (k + 4)).fn "_law_folded" [.ref a, .int b] [] G Q P := by
  refine run_call g_folded rfl ?_
  show wSs _ bf_law_folded _ [some (.ref a), some (.int b), none, none] G
  refine ss_step fun N hN => ?_
  (try simp only [Fv.wSs, Fv.wS, Fv.wE, Fv.wT, Fv.wTs, Fv.wA, Fv.wO, Fv.wG, Fv.wGs, Fv.wI, Fv.wVar, Fv.wCst, Fv.wOp, Fv.wUn, Fv.wIte, Fv.wNil, Fv.wCons, Fv.wTup, Fv.wLst, Fv.wCall, Fv.wName, Fv.wGNil, Fv.wGCons, Fv.pBin, Fv.pCmp, Fv.pCmpB, Fv.pBn, Fv.pIsN, Fv.isNon, Fv.endP, List.getElem?_cons_zero, List.getElem?_cons_succ, List.set_cons_zero, List.set_cons_succ, List.map_cons, List.map_nil, List.zip_cons_cons, List.zip_nil_left, Option.map_some, decide_eq_true_eq, if_true, if_false, reduceCtorEq, ↓reduceIte, Bool.not_true, Bool.not_false, Bool.false_eq_true, Fv.pu_same, Fv.pu_pu, L2.ixN, Fv.atI_0, Fv.atI_1, Fv.atI_2, Fv.atI_3, Fv.atI_4, Fv.atI_5, List.length_cons, List.length_nil, Nat.reduceAdd, Int.reduceLT, Int.reduceLE, Int.cast_ofNat_Int, List.length_set, Nat.lt_add_one, true_and, Option.bind_some, Int.toNat_zero, Int.toNat_one, Int.reduceToNat, Nat.zero_add, Int.zero_lt_one, Int.reduceBEq, beq_self_eq_true, List.length_map, ite_true, ite_false, Int.reduceNeg, Fv.atI_last, List.getLast_cons_cons, List.getLast_singleton, Fv.kb_NoneType_tuple, Fv.kb_NoneType_int, Fv.kb_NoneType_bool, Fv.kb_NoneType_str, Fv.kb_NoneType_list, Fv.kb_NoneType_dict, Fv.kb_bool_tuple, Fv.kb_bool_int, Fv.kb_bool_bool, Fv.kb_bool_str, Fv.kb_bool_list, Fv.kb_bool_dict, Fv.kb_int_tuple, Fv.kb_int_int, Fv.kb_int_bool, Fv.kb_int_str, Fv.kb_int_list, Fv.kb_int_dict, Fv.kb_str_tuple, Fv.kb_str_int, Fv.kb_str_bool, Fv.kb_str_str, Fv.kb_str_list, Fv.kb_str_dict, Fv.kb_tuple_tuple, Fv.kb_tuple_int, Fv.kb_tuple_bool, Fv.kb_tuple_str, Fv.kb_tuple_list, Fv.kb_tuple_dict, Fv.kb_list_tuple, Fv.kb_list_int, Fv.kb_list_bool, Fv.kb_list_str, Fv.kb_list_list, Fv.kb_list_dict, Fv.kb_dict_tuple, Fv.kb_dict_int, Fv.kb_dict_bool, Fv.kb_dict_str, Fv.kb_dict_list, Fv.kb_dict_dict, Fv.o_add_ii, Fv.o_add_ss, Fv.o_add_tt, Fv.o_add_rr, Fv.o_sub_ii, Fv.o_mul_ii, Fv.o_mul_rk, Fv.o_mod_ii, Fv.o_div_ii, Fv.o_pow_ii, Fv.o_lt_ii, Fv.o_lt_ss, Fv.o_eq_nn, Fv.o_eq_ni, Fv.o_eq_in, Fv.o_eq_nb, Fv.o_eq_bn, Fv.o_eq_ns, Fv.o_eq_sn, Fv.o_eq_ii, Fv.o_eq_bb, Fv.o_eq_ss, Fv.o_eq_is, Fv.o_eq_si, Fv.o_eq_bs, Fv.o_eq_sb, Fv.o_eq_tt, Fv.o_eq_tr, Fv.o_eq_tn, Fv.o_eq_nt, Fv.o_eq_ti, Fv.o_eq_it, Fv.o_eq_tb, Fv.o_eq_bt, Fv.o_eq_ts, Fv.o_eq_st, Fv.o_eq_rt, Fv.o_eq_rr, Fv.o_eq_rn, Fv.o_eq_nr, Fv.o_eq_ri, Fv.o_eq_ir, Fv.o_eq_rb, Fv.o_eq_br, Fv.o_eq_rs, Fv.o_eq_sr, Fv.o_tru_n, Fv.o_tru_b, Fv.o_tru_i, Fv.o_tru_s, Fv.o_tru_t, Fv.o_tru_w, Fv.o_tru_r, Fv.o_idx_t, Fv.o_idx_w, Fv.o_idx_r, Fv.o_idx_s, Fv.o_idx_d, Fv.o_sl_t, Fv.o_sl_s, Fv.o_sl_r, Fv.o_isi_n, Fv.o_isi_b, Fv.o_isi_i, Fv.o_isi_s, Fv.o_isi_t, Fv.o_isi_w, Fv.o_isi_d, Fv.o_isi_r, Fv.o_len_t, Fv.o_len_w, Fv.o_len_s, Fv.o_len_r, Fv.o_abs, Fv.o_max, Fv.o_min, Fv.o_str, Fv.o_repr, Fv.o_tuple_t, Fv.o_tuple_r, Fv.o_list_t, Fv.o_list_r, Fv.o_set_r, Fv.o_in_t, Fv.o_in_w, Fv.o_in_r, Fv.o_in_s, Fv.o_in_d, Fv.setAll, eq_self, and_true])
  refine composed_g k [] hb (by decide) ?_
  refine hN _ _ (ss_step fun N1 hN1 => ?_)
  (try simp only [Fv.wSs, Fv.wS, Fv.wE, Fv.wT, Fv.wTs, Fv.wA, Fv.wO, Fv.wG, Fv.wGs, Fv.wI, Fv.wVar, Fv.wCst, Fv.wOp, Fv.wUn, Fv.wIte, Fv.wNil, Fv.wCons, Fv.wTup, Fv.wLst, Fv.wCall, Fv.wName, Fv.wGNil, Fv.wGCons, Fv.pBin, Fv.pCmp, Fv.pCmpB, Fv.pBn, Fv.pIsN, Fv.isNon, Fv.endP, List.getElem?_cons_zero, List.getElem?_cons_succ, List.set_cons_zero, List.set_cons_succ, List.map_cons, List.map_nil, List.zip_cons_cons, List.zip_nil_left, Option.map_some, decide_eq_true_eq, if_true, if_false, reduceCtorEq, ↓reduceIte, Bool.not_true, Bool.not_false, Bool.false_eq_true, Fv.pu_same, Fv.pu_pu, L2.ixN, Fv.atI_0, Fv.atI_1, Fv.atI_2, Fv.atI_3, Fv.atI_4, Fv.atI_5, List.length_cons, List.length_nil, Nat.reduceAdd, Int.reduceLT, Int.reduceLE, Int.cast_ofNat_Int, List.length_set, Nat.lt_add_one, true_and, Option.bind_some, Int.toNat_zero, Int.toNat_one, Int.reduceToNat, Nat.zero_add, Int.zero_lt_one, Int.reduceBEq, beq_self_eq_true, List.length_map, ite_true, ite_false, Int.reduceNeg, Fv.atI_last, List.getLast_cons_cons, List.getLast_singleton, Fv.kb_NoneType_tuple, Fv.kb_NoneType_int, Fv.kb_NoneType_bool, Fv.kb_NoneType_str, Fv.kb_NoneType_list, Fv.kb_NoneType_dict, Fv.kb_bool_tuple, Fv.kb_bool_int, Fv.kb_bool_bool, Fv.kb_bool_str, Fv.kb_bool_list, Fv.kb_bool_dict, Fv.kb_int_tuple, Fv.kb_int_int, Fv.kb_int_bool, Fv.kb_int_str, Fv.kb_int_list, Fv.kb_int_dict, Fv.kb_str_tuple, Fv.kb_str_int, Fv.kb_str_bool, Fv.kb_str_str, Fv.kb_str_list, Fv.kb_str_dict, Fv.kb_tuple_tuple, Fv.kb_tuple_int, Fv.kb_tuple_bool, Fv.kb_tuple_str, Fv.kb_tuple_list, Fv.kb_tuple_dict, Fv.kb_list_tuple, Fv.kb_list_int, Fv.kb_list_bool, Fv.kb_list_str, Fv.kb_list_list, Fv.kb_list_dict, Fv.kb_dict_tuple, Fv.kb_dict_int, Fv.kb_dict_bool, Fv.kb_dict_str, Fv.kb_dict_list, Fv.kb_dict_dict, Fv.o_add_ii, Fv.o_add_ss, Fv.o_add_tt, Fv.o_add_rr, Fv.o_sub_ii, Fv.o_mul_ii, Fv.o_mul_rk, Fv.o_mod_ii, Fv.o_div_ii, Fv.o_pow_ii, Fv.o_lt_ii, Fv.o_lt_ss, Fv.o_eq_nn, Fv.o_eq_ni, Fv.o_eq_in, Fv.o_eq_nb, Fv.o_eq_bn, Fv.o_eq_ns, Fv.o_eq_sn, Fv.o_eq_ii, Fv.o_eq_bb, Fv.o_eq_ss, Fv.o_eq_is, Fv.o_eq_si, Fv.o_eq_bs, Fv.o_eq_sb, Fv.o_eq_tt, Fv.o_eq_tr, Fv.o_eq_tn, Fv.o_eq_nt, Fv.o_eq_ti, Fv.o_eq_it, Fv.o_eq_tb, Fv.o_eq_bt, Fv.o_eq_ts, Fv.o_eq_st, Fv.o_eq_rt, Fv.o_eq_rr, Fv.o_eq_rn, Fv.o_eq_nr, Fv.o_eq_ri, Fv.o_eq_ir, Fv.o_eq_rb, Fv.o_eq_br, Fv.o_eq_rs, Fv.o_eq_sr, Fv.o_tru_n, Fv.o_tru_b, Fv.o_tru_i, Fv.o_tru_s, Fv.o_tru_t, Fv.o_tru_w, Fv.o_tru_r, Fv.o_idx_t, Fv.o_idx_w, Fv.o_idx_r, Fv.o_idx_s, Fv.o_idx_d, Fv.o_sl_t, Fv.o_sl_s, Fv.o_sl_r, Fv.o_isi_n, Fv.o_isi_b, Fv.o_isi_i, Fv.o_isi_s, Fv.o_isi_t, Fv.o_isi_w, Fv.o_isi_d, Fv.o_isi_r, Fv.o_len_t, Fv.o_len_w, Fv.o_len_s, Fv.o_len_r, Fv.o_abs, Fv.o_max, Fv.o_min, Fv.o_str, Fv.o_repr, Fv.o_tuple_t, Fv.o_tuple_r, Fv.o_list_t, Fv.o_list_r, Fv.o_set_r, Fv.o_in_t, Fv.o_in_w, Fv.o_in_r, Fv.o_in_s, Fv.o_in_d, Fv.setAll, eq_self, and_true, h])
  refine for_inv (fun xs σ G1 => ∃ (m : Mp) (r : List Mp) (x : Option PV), xs = r.map Mp.pv ∧ σ = [some (.ref a), some (.int b), some m.pv, x] ∧ G1 = G ∧ m.ok b ∧ (∀ x ∈ r, x.ok b) ∧ fol b m r = fol b (.fnd 0) ms)
    ⟨.fnd 0, ms, none, rfl, rfl, rfl, zero_ok hb, hok, rfl⟩ (fun _ _ _ ⟨_, _, _, _, _, e, _⟩ => by subst e; exact kept_one h) ?_ ?_
  · rintro σ G1 ⟨m, r, x, e, rfl, rfl, -, -, he⟩
    cases r with
    | cons _ _ => cases e
    | nil =>
      refine hN1 _ _ (ss_step fun N2 hN2 => ?_)
      (try simp only [Fv.wSs, Fv.wS, Fv.wE, Fv.wT, Fv.wTs, Fv.wA, Fv.wO, Fv.wG, Fv.wGs, Fv.wI, Fv.wVar, Fv.wCst, Fv.wOp, Fv.wUn, Fv.wIte, Fv.wNil, Fv.wCons, Fv.wTup, Fv.wLst, Fv.wCall, Fv.wName, Fv.wGNil, Fv.wGCons, Fv.pBin, Fv.pCmp, Fv.pCmpB, Fv.pBn, Fv.pIsN, Fv.isNon, Fv.endP, List.getElem?_cons_zero, List.getElem?_cons_succ, List.set_cons_zero, List.set_cons_succ, List.map_cons, List.map_nil, List.zip_cons_cons, List.zip_nil_left, Option.map_some, decide_eq_true_eq, if_true, if_false, reduceCtorEq, ↓reduceIte, Bool.not_true, Bool.not_false, Bool.false_eq_true, Fv.pu_same, Fv.pu_pu, L2.ixN, Fv.atI_0, Fv.atI_1, Fv.atI_2, Fv.atI_3, Fv.atI_4, Fv.atI_5, List.length_cons, List.length_nil, Nat.reduceAdd, Int.reduceLT, Int.reduceLE, Int.cast_ofNat_Int, List.length_set, Nat.lt_add_one, true_and, Option.bind_some, Int.toNat_zero, Int.toNat_one, Int.reduceToNat, Nat.zero_add, Int.zero_lt_one, Int.reduceBEq, beq_self_eq_true, List.length_map, ite_true, ite_false, Int.reduceNeg, Fv.atI_last, List.getLast_cons_cons, List.getLast_singleton, Fv.kb_NoneType_tuple, Fv.kb_NoneType_int, Fv.kb_NoneType_bool, Fv.kb_NoneType_str, Fv.kb_NoneType_list, Fv.kb_NoneType_dict, Fv.kb_bool_tuple, Fv.kb_bool_int, Fv.kb_bool_bool, Fv.kb_bool_str, Fv.kb_bool_list, Fv.kb_bool_dict, Fv.kb_int_tuple, Fv.kb_int_int, Fv.kb_int_bool, Fv.kb_int_str, Fv.kb_int_list, Fv.kb_int_dict, Fv.kb_str_tuple, Fv.kb_str_int, Fv.kb_str_bool, Fv.kb_str_str, Fv.kb_str_list, Fv.kb_str_dict, Fv.kb_tuple_tuple, Fv.kb_tuple_int, Fv.kb_tuple_bool, Fv.kb_tuple_str, Fv.kb_tuple_list, Fv.kb_tuple_dict, Fv.kb_list_tuple, Fv.kb_list_int, Fv.kb_list_bool, Fv.kb_list_str, Fv.kb_list_list, Fv.kb_list_dict, Fv.kb_dict_tuple, Fv.kb_dict_int, Fv.kb_dict_bool, Fv.kb_dict_str, Fv.kb_dict_list, Fv.kb_dict_dict, Fv.o_add_ii, Fv.o_add_ss, Fv.o_add_tt, Fv.o_add_rr, Fv.o_sub_ii, Fv.o_mul_ii, Fv.o_mul_rk, Fv.o_mod_ii, Fv.o_div_ii, Fv.o_pow_ii, Fv.o_lt_ii, Fv.o_lt_ss, Fv.o_eq_nn, Fv.o_eq_ni, Fv.o_eq_in, Fv.o_eq_nb, Fv.o_eq_bn, Fv.o_eq_ns, Fv.o_eq_sn, Fv.o_eq_ii, Fv.o_eq_bb, Fv.o_eq_ss, Fv.o_eq_is, Fv.o_eq_si, Fv.o_eq_bs, Fv.o_eq_sb, Fv.o_eq_tt, Fv.o_eq_tr, Fv.o_eq_tn, Fv.o_eq_nt, Fv.o_eq_ti, Fv.o_eq_it, Fv.o_eq_tb, Fv.o_eq_bt, Fv.o_eq_ts, Fv.o_eq_st, Fv.o_eq_rt, Fv.o_eq_rr, Fv.o_eq_rn, Fv.o_eq_nr, Fv.o_eq_ri, Fv.o_eq_ir, Fv.o_eq_rb, Fv.o_eq_br, Fv.o_eq_rs, Fv.o_eq_sr, Fv.o_tru_n, Fv.o_tru_b, Fv.o_tru_i, Fv.o_tru_s, Fv.o_tru_t, Fv.o_tru_w, Fv.o_tru_r, Fv.o_idx_t, Fv.o_idx_w, Fv.o_idx_r, Fv.o_idx_s, Fv.o_idx_d, Fv.o_sl_t, Fv.o_sl_s, Fv.o_sl_r, Fv.o_isi_n, Fv.o_isi_b, Fv.o_isi_i, Fv.o_isi_s, Fv.o_isi_t, Fv.o_isi_w, Fv.o_isi_d, Fv.o_isi_r, Fv.o_len_t, Fv.o_len_w, Fv.o_len_s, Fv.o_len_r, Fv.o_abs, Fv.o_max, Fv.o_min, Fv.o_str, Fv.o_repr, Fv.o_tuple_t, Fv.o_tuple_r, Fv.o_list_t, Fv.o_list_r, Fv.o_set_r, Fv.o_in_t, Fv.o_in_w, Fv.o_in_r, Fv.o_in_s, Fv.o_in_d, Fv.setAll, eq_self, and_true])
      rw [← he] at q
      exact ⟨_, Sub.refl _, q⟩
  · rintro x xs σ G1 R ⟨m, r, y, e, rfl, rfl, hm, hr, he⟩ hR
    cases r with
    | nil => cases e
    | cons n r =>
      cases e
      (try simp only [Fv.wSs, Fv.wS, Fv.wE, Fv.wT, Fv.wTs, Fv.wA, Fv.wO, Fv.wG, Fv.wGs, Fv.wI, Fv.wVar, Fv.wCst, Fv.wOp, Fv.wUn, Fv.wIte, Fv.wNil, Fv.wCons, Fv.wTup, Fv.wLst, Fv.wCall, Fv.wName, Fv.wGNil, Fv.wGCons, Fv.pBin, Fv.pCmp, Fv.pCmpB, Fv.pBn, Fv.pIsN, Fv.isNon, Fv.endP, List.getElem?_cons_zero, List.getElem?_cons_succ, List.set_cons_zero, List.set_cons_succ, List.map_cons, List.map_nil, List.zip_cons_cons, List.zip_nil_left, Option.map_some, decide_eq_true_eq, if_true, if_false, reduceCtorEq, ↓reduceIte, Bool.not_true, Bool.not_false, Bool.false_eq_true, Fv.pu_same, Fv.pu_pu, L2.ixN, Fv.atI_0, Fv.atI_1, Fv.atI_2, Fv.atI_3, Fv.atI_4, Fv.atI_5, List.length_cons, List.length_nil, Nat.reduceAdd, Int.reduceLT, Int.reduceLE, Int.cast_ofNat_Int, List.length_set, Nat.lt_add_one, true_and, Option.bind_some, Int.toNat_zero, Int.toNat_one, Int.reduceToNat, Nat.zero_add, Int.zero_lt_one, Int.reduceBEq, beq_self_eq_true, List.length_map, ite_true, ite_false, Int.reduceNeg, Fv.atI_last, List.getLast_cons_cons, List.getLast_singleton, Fv.kb_NoneType_tuple, Fv.kb_NoneType_int, Fv.kb_NoneType_bool, Fv.kb_NoneType_str, Fv.kb_NoneType_list, Fv.kb_NoneType_dict, Fv.kb_bool_tuple, Fv.kb_bool_int, Fv.kb_bool_bool, Fv.kb_bool_str, Fv.kb_bool_list, Fv.kb_bool_dict, Fv.kb_int_tuple, Fv.kb_int_int, Fv.kb_int_bool, Fv.kb_int_str, Fv.kb_int_list, Fv.kb_int_dict, Fv.kb_str_tuple, Fv.kb_str_int, Fv.kb_str_bool, Fv.kb_str_str, Fv.kb_str_list, Fv.kb_str_dict, Fv.kb_tuple_tuple, Fv.kb_tuple_int, Fv.kb_tuple_bool, Fv.kb_tuple_str, Fv.kb_tuple_list, Fv.kb_tuple_dict, Fv.kb_list_tuple, Fv.kb_list_int, Fv.kb_list_bool, Fv.kb_list_str, Fv.kb_list_list, Fv.kb_list_dict, Fv.kb_dict_tuple, Fv.kb_dict_int, Fv.kb_dict_bool, Fv.kb_dict_str, Fv.kb_dict_list, Fv.kb_dict_dict, Fv.o_add_ii, Fv.o_add_ss, Fv.o_add_tt, Fv.o_add_rr, Fv.o_sub_ii, Fv.o_mul_ii, Fv.o_mul_rk, Fv.o_mod_ii, Fv.o_div_ii, Fv.o_pow_ii, Fv.o_lt_ii, Fv.o_lt_ss, Fv.o_eq_nn, Fv.o_eq_ni, Fv.o_eq_in, Fv.o_eq_nb, Fv.o_eq_bn, Fv.o_eq_ns, Fv.o_eq_sn, Fv.o_eq_ii, Fv.o_eq_bb, Fv.o_eq_ss, Fv.o_eq_is, Fv.o_eq_si, Fv.o_eq_bs, Fv.o_eq_sb, Fv.o_eq_tt, Fv.o_eq_tr, Fv.o_eq_tn, Fv.o_eq_nt, Fv.o_eq_ti, Fv.o_eq_it, Fv.o_eq_tb, Fv.o_eq_bt, Fv.o_eq_ts, Fv.o_eq_st, Fv.o_eq_rt, Fv.o_eq_rr, Fv.o_eq_rn, Fv.o_eq_nr, Fv.o_eq_ri, Fv.o_eq_ir, Fv.o_eq_rb, Fv.o_eq_br, Fv.o_eq_rs, Fv.o_eq_sr, Fv.o_tru_n, Fv.o_tru_b, Fv.o_tru_i, Fv.o_tru_s, Fv.o_tru_t, Fv.o_tru_w, Fv.o_tru_r, Fv.o_idx_t, Fv.o_idx_w, Fv.o_idx_r, Fv.o_idx_s, Fv.o_idx_d, Fv.o_sl_t, Fv.o_sl_s, Fv.o_sl_r, Fv.o_isi_n, Fv.o_isi_b, Fv.o_isi_i, Fv.o_isi_s, Fv.o_isi_t, Fv.o_isi_w, Fv.o_isi_d, Fv.o_isi_r, Fv.o_len_t, Fv.o_len_w, Fv.o_len_s, Fv.o_len_r, Fv.o_abs, Fv.o_max, Fv.o_min, Fv.o_str, Fv.o_repr, Fv.o_tuple_t, Fv.o_tuple_r, Fv.o_list_t, Fv.o_list_r, Fv.o_set_r, Fv.o_in_t, Fv.o_in_w, Fv.o_in_r, Fv.o_in_s, Fv.o_in_d, Fv.setAll, eq_self, and_true])
      refine ss_step fun N2 hN2 => ?_
      (try simp only [Fv.wSs, Fv.wS, Fv.wE, Fv.wT, Fv.wTs, Fv.wA, Fv.wO, Fv.wG, Fv.wGs, Fv.wI, Fv.wVar, Fv.wCst, Fv.wOp, Fv.wUn, Fv.wIte, Fv.wNil, Fv.wCons, Fv.wTup, Fv.wLst, Fv.wCall, Fv.wName, Fv.wGNil, Fv.wGCons, Fv.pBin, Fv.pCmp, Fv.pCmpB, Fv.pBn, Fv.pIsN, Fv.isNon, Fv.endP, List.getElem?_cons_zero, List.getElem?_cons_succ, List.set_cons_zero, List.set_cons_succ, List.map_cons, List.map_nil, List.zip_cons_cons, List.zip_nil_left, Option.map_some, decide_eq_true_eq, if_true, if_false, reduceCtorEq, ↓reduceIte, Bool.not_true, Bool.not_false, Bool.false_eq_true, Fv.pu_same, Fv.pu_pu, L2.ixN, Fv.atI_0, Fv.atI_1, Fv.atI_2, Fv.atI_3, Fv.atI_4, Fv.atI_5, List.length_cons, List.length_nil, Nat.reduceAdd, Int.reduceLT, Int.reduceLE, Int.cast_ofNat_Int, List.length_set, Nat.lt_add_one, true_and, Option.bind_some, Int.toNat_zero, Int.toNat_one, Int.reduceToNat, Nat.zero_add, Int.zero_lt_one, Int.reduceBEq, beq_self_eq_true, List.length_map, ite_true, ite_false, Int.reduceNeg, Fv.atI_last, List.getLast_cons_cons, List.getLast_singleton, Fv.kb_NoneType_tuple, Fv.kb_NoneType_int, Fv.kb_NoneType_bool, Fv.kb_NoneType_str, Fv.kb_NoneType_list, Fv.kb_NoneType_dict, Fv.kb_bool_tuple, Fv.kb_bool_int, Fv.kb_bool_bool, Fv.kb_bool_str, Fv.kb_bool_list, Fv.kb_bool_dict, Fv.kb_int_tuple, Fv.kb_int_int, Fv.kb_int_bool, Fv.kb_int_str, Fv.kb_int_list, Fv.kb_int_dict, Fv.kb_str_tuple, Fv.kb_str_int, Fv.kb_str_bool, Fv.kb_str_str, Fv.kb_str_list, Fv.kb_str_dict, Fv.kb_tuple_tuple, Fv.kb_tuple_int, Fv.kb_tuple_bool, Fv.kb_tuple_str, Fv.kb_tuple_list, Fv.kb_tuple_dict, Fv.kb_list_tuple, Fv.kb_list_int, Fv.kb_list_bool, Fv.kb_list_str, Fv.kb_list_list, Fv.kb_list_dict, Fv.kb_dict_tuple, Fv.kb_dict_int, Fv.kb_dict_bool, Fv.kb_dict_str, Fv.kb_dict_list, Fv.kb_dict_dict, Fv.o_add_ii, Fv.o_add_ss, Fv.o_add_tt, Fv.o_add_rr, Fv.o_sub_ii, Fv.o_mul_ii, Fv.o_mul_rk, Fv.o_mod_ii, Fv.o_div_ii, Fv.o_pow_ii, Fv.o_lt_ii, Fv.o_lt_ss, Fv.o_eq_nn, Fv.o_eq_ni, Fv.o_eq_in, Fv.o_eq_nb, Fv.o_eq_bn, Fv.o_eq_ns, Fv.o_eq_sn, Fv.o_eq_ii, Fv.o_eq_bb, Fv.o_eq_ss, Fv.o_eq_is, Fv.o_eq_si, Fv.o_eq_bs, Fv.o_eq_sb, Fv.o_eq_tt, Fv.o_eq_tr, Fv.o_eq_tn, Fv.o_eq_nt, Fv.o_eq_ti, Fv.o_eq_it, Fv.o_eq_tb, Fv.o_eq_bt, Fv.o_eq_ts, Fv.o_eq_st, Fv.o_eq_rt, Fv.o_eq_rr, Fv.o_eq_rn, Fv.o_eq_nr, Fv.o_eq_ri, Fv.o_eq_ir, Fv.o_eq_rb, Fv.o_eq_br, Fv.o_eq_rs, Fv.o_eq_sr, Fv.o_tru_n, Fv.o_tru_b, Fv.o_tru_i, Fv.o_tru_s, Fv.o_tru_t, Fv.o_tru_w, Fv.o_tru_r, Fv.o_idx_t, Fv.o_idx_w, Fv.o_idx_r, Fv.o_idx_s, Fv.o_idx_d, Fv.o_sl_t, Fv.o_sl_s, Fv.o_sl_r, Fv.o_isi_n, Fv.o_isi_b, Fv.o_isi_i, Fv.o_isi_s, Fv.o_isi_t, Fv.o_isi_w, Fv.o_isi_d, Fv.o_isi_r, Fv.o_len_t, Fv.o_len_w, Fv.o_len_s, Fv.o_len_r, Fv.o_abs, Fv.o_max, Fv.o_min, Fv.o_str, Fv.o_repr, Fv.o_tuple_t, Fv.o_tuple_r, Fv.o_list_t, Fv.o_list_r, Fv.o_set_r, Fv.o_in_t, Fv.o_in_w, Fv.o_in_r, Fv.o_in_s, Fv.o_in_d, Fv.setAll, eq_self, and_true])
      have hn := hr n List.mem_cons_self
      refine composed_g k [m, n] hb (by simp) ?_
      have e1 : fol b (.fnd 0) [m, n] = m.join n b := by
        show ((Mp.fnd 0).join m b).join n b = _
        rw [join_zero hm]
      rw [e1]
      exact hN2 _ _ (ss_nil (hR _ _ _ (Sub.refl _) ⟨_, r, _, rfl, rfl, rfl, join_ok hb m n hn, fun x hx => hr x (List.mem_cons_of_mem _ hx), he⟩))
theorem s_walked (k : Nat) (ms : List Mp) {b x : Int} {G : PH} {a : Addr} {Q : VP} {P : Fv.PC} (h : G a = some (.lst (ms.map Mp.pv))) (hb : 0 < b) (q : Q (.int (ms.foldl (fun x m => m.app x b) x)) G) :
    (run Γ gl (k + 2)).fn "_law_walked" [.ref a, .int x, .int b] [] G Q P := by
  refine run_call g_walked rfl ?_
  show wSs _ bf_law_walked _ [some (.ref a), some (.int x), some (.int b), none] G
  refine ss_step fun N hN => ?_
  (try simp only [Fv.wSs, Fv.wS, Fv.wE, Fv.wT, Fv.wTs, Fv.wA, Fv.wO, Fv.wG, Fv.wGs, Fv.wI, Fv.wVar, Fv.wCst, Fv.wOp, Fv.wUn, Fv.wIte, Fv.wNil, Fv.wCons, Fv.wTup, Fv.wLst, Fv.wCall, Fv.wName, Fv.wGNil, Fv.wGCons, Fv.pBin, Fv.pCmp, Fv.pCmpB, Fv.pBn, Fv.pIsN, Fv.isNon, Fv.endP, List.getElem?_cons_zero, List.getElem?_cons_succ, List.set_cons_zero, List.set_cons_succ, List.map_cons, List.map_nil, List.zip_cons_cons, List.zip_nil_left, Option.map_some, decide_eq_true_eq, if_true, if_false, reduceCtorEq, ↓reduceIte, Bool.not_true, Bool.not_false, Bool.false_eq_true, Fv.pu_same, Fv.pu_pu, L2.ixN, Fv.atI_0, Fv.atI_1, Fv.atI_2, Fv.atI_3, Fv.atI_4, Fv.atI_5, List.length_cons, List.length_nil, Nat.reduceAdd, Int.reduceLT, Int.reduceLE, Int.cast_ofNat_Int, List.length_set, Nat.lt_add_one, true_and, Option.bind_some, Int.toNat_zero, Int.toNat_one, Int.reduceToNat, Nat.zero_add, Int.zero_lt_one, Int.reduceBEq, beq_self_eq_true, List.length_map, ite_true, ite_false, Int.reduceNeg, Fv.atI_last, List.getLast_cons_cons, List.getLast_singleton, Fv.kb_NoneType_tuple, Fv.kb_NoneType_int, Fv.kb_NoneType_bool, Fv.kb_NoneType_str, Fv.kb_NoneType_list, Fv.kb_NoneType_dict, Fv.kb_bool_tuple, Fv.kb_bool_int, Fv.kb_bool_bool, Fv.kb_bool_str, Fv.kb_bool_list, Fv.kb_bool_dict, Fv.kb_int_tuple, Fv.kb_int_int, Fv.kb_int_bool, Fv.kb_int_str, Fv.kb_int_list, Fv.kb_int_dict, Fv.kb_str_tuple, Fv.kb_str_int, Fv.kb_str_bool, Fv.kb_str_str, Fv.kb_str_list, Fv.kb_str_dict, Fv.kb_tuple_tuple, Fv.kb_tuple_int, Fv.kb_tuple_bool, Fv.kb_tuple_str, Fv.kb_tuple_list, Fv.kb_tuple_dict, Fv.kb_list_tuple, Fv.kb_list_int, Fv.kb_list_bool, Fv.kb_list_str, Fv.kb_list_list, Fv.kb_list_dict, Fv.kb_dict_tuple, Fv.kb_dict_int, Fv.kb_dict_bool, Fv.kb_dict_str, Fv.kb_dict_list, Fv.kb_dict_dict, Fv.o_add_ii, Fv.o_add_ss, Fv.o_add_tt, Fv.o_add_rr, Fv.o_sub_ii, Fv.o_mul_ii, Fv.o_mul_rk, Fv.o_mod_ii, Fv.o_div_ii, Fv.o_pow_ii, Fv.o_lt_ii, Fv.o_lt_ss, Fv.o_eq_nn, Fv.o_eq_ni, Fv.o_eq_in, Fv.o_eq_nb, Fv.o_eq_bn, Fv.o_eq_ns, Fv.o_eq_sn, Fv.o_eq_ii, Fv.o_eq_bb, Fv.o_eq_ss, Fv.o_eq_is, Fv.o_eq_si, Fv.o_eq_bs, Fv.o_eq_sb, Fv.o_eq_tt, Fv.o_eq_tr, Fv.o_eq_tn, Fv.o_eq_nt, Fv.o_eq_ti, Fv.o_eq_it, Fv.o_eq_tb, Fv.o_eq_bt, Fv.o_eq_ts, Fv.o_eq_st, Fv.o_eq_rt, Fv.o_eq_rr, Fv.o_eq_rn, Fv.o_eq_nr, Fv.o_eq_ri, Fv.o_eq_ir, Fv.o_eq_rb, Fv.o_eq_br, Fv.o_eq_rs, Fv.o_eq_sr, Fv.o_tru_n, Fv.o_tru_b, Fv.o_tru_i, Fv.o_tru_s, Fv.o_tru_t, Fv.o_tru_w, Fv.o_tru_r, Fv.o_idx_t, Fv.o_idx_w, Fv.o_idx_r, Fv.o_idx_s, Fv.o_idx_d, Fv.o_sl_t, Fv.o_sl_s, Fv.o_sl_r, Fv.o_isi_n, Fv.o_isi_b, Fv.o_isi_i, Fv.o_isi_s, Fv.o_isi_t, Fv.o_isi_w, Fv.o_isi_d, Fv.o_isi_r, Fv.o_len_t, Fv.o_len_w, Fv.o_len_s, Fv.o_len_r, Fv.o_abs, Fv.o_max, Fv.o_min, Fv.o_str, Fv.o_repr, Fv.o_tuple_t, Fv.o_tuple_r, Fv.o_list_t, Fv.o_list_r, Fv.o_set_r, Fv.o_in_t, Fv.o_in_w, Fv.o_in_r, Fv.o_in_s, Fv.o_in_d, Fv.setAll, eq_self, and_true, h])
  refine for_inv (fun xs σ G1 => ∃ (z : Int) (r : List Mp) (y : Option PV), xs = r.map Mp.pv ∧ σ = [some (.ref a), some (.int z), some (.int b), y] ∧ G1 = G ∧ r.foldl (fun x m => m.app x b) z = ms.foldl (fun x m => m.app x b) x)
    ⟨x, ms, none, rfl, rfl, rfl, rfl⟩ (fun _ _ _ ⟨_, _, _, _, _, e, _⟩ => by subst e; exact kept_one h) ?_ ?_
  · rintro σ G1 ⟨z, r, y, e, rfl, rfl, he⟩
    cases r with
    | cons _ _ => cases e
    | nil =>
      refine hN _ _ (ss_step fun N2 hN2 => ?_)
      (try simp only [Fv.wSs, Fv.wS, Fv.wE, Fv.wT, Fv.wTs, Fv.wA, Fv.wO, Fv.wG, Fv.wGs, Fv.wI, Fv.wVar, Fv.wCst, Fv.wOp, Fv.wUn, Fv.wIte, Fv.wNil, Fv.wCons, Fv.wTup, Fv.wLst, Fv.wCall, Fv.wName, Fv.wGNil, Fv.wGCons, Fv.pBin, Fv.pCmp, Fv.pCmpB, Fv.pBn, Fv.pIsN, Fv.isNon, Fv.endP, List.getElem?_cons_zero, List.getElem?_cons_succ, List.set_cons_zero, List.set_cons_succ, List.map_cons, List.map_nil, List.zip_cons_cons, List.zip_nil_left, Option.map_some, decide_eq_true_eq, if_true, if_false, reduceCtorEq, ↓reduceIte, Bool.not_true, Bool.not_false, Bool.false_eq_true, Fv.pu_same, Fv.pu_pu, L2.ixN, Fv.atI_0, Fv.atI_1, Fv.atI_2, Fv.atI_3, Fv.atI_4, Fv.atI_5, List.length_cons, List.length_nil, Nat.reduceAdd, Int.reduceLT, Int.reduceLE, Int.cast_ofNat_Int, List.length_set, Nat.lt_add_one, true_and, Option.bind_some, Int.toNat_zero, Int.toNat_one, Int.reduceToNat, Nat.zero_add, Int.zero_lt_one, Int.reduceBEq, beq_self_eq_true, List.length_map, ite_true, ite_false, Int.reduceNeg, Fv.atI_last, List.getLast_cons_cons, List.getLast_singleton, Fv.kb_NoneType_tuple, Fv.kb_NoneType_int, Fv.kb_NoneType_bool, Fv.kb_NoneType_str, Fv.kb_NoneType_list, Fv.kb_NoneType_dict, Fv.kb_bool_tuple, Fv.kb_bool_int, Fv.kb_bool_bool, Fv.kb_bool_str, Fv.kb_bool_list, Fv.kb_bool_dict, Fv.kb_int_tuple, Fv.kb_int_int, Fv.kb_int_bool, Fv.kb_int_str, Fv.kb_int_list, Fv.kb_int_dict, Fv.kb_str_tuple, Fv.kb_str_int, Fv.kb_str_bool, Fv.kb_str_str, Fv.kb_str_list, Fv.kb_str_dict, Fv.kb_tuple_tuple, Fv.kb_tuple_int, Fv.kb_tuple_bool, Fv.kb_tuple_str, Fv.kb_tuple_list, Fv.kb_tuple_dict, Fv.kb_list_tuple, Fv.kb_list_int, Fv.kb_list_bool, Fv.kb_list_str, Fv.kb_list_list, Fv.kb_list_dict, Fv.kb_dict_tuple, Fv.kb_dict_int, Fv.kb_dict_bool, Fv.kb_dict_str, Fv.kb_dict_list, Fv.kb_dict_dict, Fv.o_add_ii, Fv.o_add_ss, Fv.o_add_tt, Fv.o_add_rr, Fv.o_sub_ii, Fv.o_mul_ii, Fv.o_mul_rk, Fv.o_mod_ii, Fv.o_div_ii, Fv.o_pow_ii, Fv.o_lt_ii, Fv.o_lt_ss, Fv.o_eq_nn, Fv.o_eq_ni, Fv.o_eq_in, Fv.o_eq_nb, Fv.o_eq_bn, Fv.o_eq_ns, Fv.o_eq_sn, Fv.o_eq_ii, Fv.o_eq_bb, Fv.o_eq_ss, Fv.o_eq_is, Fv.o_eq_si, Fv.o_eq_bs, Fv.o_eq_sb, Fv.o_eq_tt, Fv.o_eq_tr, Fv.o_eq_tn, Fv.o_eq_nt, Fv.o_eq_ti, Fv.o_eq_it, Fv.o_eq_tb, Fv.o_eq_bt, Fv.o_eq_ts, Fv.o_eq_st, Fv.o_eq_rt, Fv.o_eq_rr, Fv.o_eq_rn, Fv.o_eq_nr, Fv.o_eq_ri, Fv.o_eq_ir, Fv.o_eq_rb, Fv.o_eq_br, Fv.o_eq_rs, Fv.o_eq_sr, Fv.o_tru_n, Fv.o_tru_b, Fv.o_tru_i, Fv.o_tru_s, Fv.o_tru_t, Fv.o_tru_w, Fv.o_tru_r, Fv.o_idx_t, Fv.o_idx_w, Fv.o_idx_r, Fv.o_idx_s, Fv.o_idx_d, Fv.o_sl_t, Fv.o_sl_s, Fv.o_sl_r, Fv.o_isi_n, Fv.o_isi_b, Fv.o_isi_i, Fv.o_isi_s, Fv.o_isi_t, Fv.o_isi_w, Fv.o_isi_d, Fv.o_isi_r, Fv.o_len_t, Fv.o_len_w, Fv.o_len_s, Fv.o_len_r, Fv.o_abs, Fv.o_max, Fv.o_min, Fv.o_str, Fv.o_repr, Fv.o_tuple_t, Fv.o_tuple_r, Fv.o_list_t, Fv.o_list_r, Fv.o_set_r, Fv.o_in_t, Fv.o_in_w, Fv.o_in_r, Fv.o_in_s, Fv.o_in_d, Fv.setAll, eq_self, and_true])
      rw [← he] at q
      exact ⟨_, Sub.refl _, q⟩
  · rintro x xs σ G1 R ⟨z, r, y, e, rfl, rfl, he⟩ hR
    cases r with
    | nil => cases e
    | cons n r =>
      cases e
      (try simp only [Fv.wSs, Fv.wS, Fv.wE, Fv.wT, Fv.wTs, Fv.wA, Fv.wO, Fv.wG, Fv.wGs, Fv.wI, Fv.wVar, Fv.wCst, Fv.wOp, Fv.wUn, Fv.wIte, Fv.wNil, Fv.wCons, Fv.wTup, Fv.wLst, Fv.wCall, Fv.wName, Fv.wGNil, Fv.wGCons, Fv.pBin, Fv.pCmp, Fv.pCmpB, Fv.pBn, Fv.pIsN, Fv.isNon, Fv.endP, List.getElem?_cons_zero, List.getElem?_cons_succ, List.set_cons_zero, List.set_cons_succ, List.map_cons, List.map_nil, List.zip_cons_cons, List.zip_nil_left, Option.map_some, decide_eq_true_eq, if_true, if_false, reduceCtorEq, ↓reduceIte, Bool.not_true, Bool.not_false, Bool.false_eq_true, Fv.pu_same, Fv.pu_pu, L2.ixN, Fv.atI_0, Fv.atI_1, Fv.atI_2, Fv.atI_3, Fv.atI_4, Fv.atI_5, List.length_cons, List.length_nil, Nat.reduceAdd, Int.reduceLT, Int.reduceLE, Int.cast_ofNat_Int, List.length_set, Nat.lt_add_one, true_and, Option.bind_some, Int.toNat_zero, Int.toNat_one, Int.reduceToNat, Nat.zero_add, Int.zero_lt_one, Int.reduceBEq, beq_self_eq_true, List.length_map, ite_true, ite_false, Int.reduceNeg, Fv.atI_last, List.getLast_cons_cons, List.getLast_singleton, Fv.kb_NoneType_tuple, Fv.kb_NoneType_int, Fv.kb_NoneType_bool, Fv.kb_NoneType_str, Fv.kb_NoneType_list, Fv.kb_NoneType_dict, Fv.kb_bool_tuple, Fv.kb_bool_int, Fv.kb_bool_bool, Fv.kb_bool_str, Fv.kb_bool_list, Fv.kb_bool_dict, Fv.kb_int_tuple, Fv.kb_int_int, Fv.kb_int_bool, Fv.kb_int_str, Fv.kb_int_list, Fv.kb_int_dict, Fv.kb_str_tuple, Fv.kb_str_int, Fv.kb_str_bool, Fv.kb_str_str, Fv.kb_str_list, Fv.kb_str_dict, Fv.kb_tuple_tuple, Fv.kb_tuple_int, Fv.kb_tuple_bool, Fv.kb_tuple_str, Fv.kb_tuple_list, Fv.kb_tuple_dict, Fv.kb_list_tuple, Fv.kb_list_int, Fv.kb_list_bool, Fv.kb_list_str, Fv.kb_list_list, Fv.kb_list_dict, Fv.kb_dict_tuple, Fv.kb_dict_int, Fv.kb_dict_bool, Fv.kb_dict_str, Fv.kb_dict_list, Fv.kb_dict_dict, Fv.o_add_ii, Fv.o_add_ss, Fv.o_add_tt, Fv.o_add_rr, Fv.o_sub_ii, Fv.o_mul_ii, Fv.o_mul_rk, Fv.o_mod_ii, Fv.o_div_ii, Fv.o_pow_ii, Fv.o_lt_ii, Fv.o_lt_ss, Fv.o_eq_nn, Fv.o_eq_ni, Fv.o_eq_in, Fv.o_eq_nb, Fv.o_eq_bn, Fv.o_eq_ns, Fv.o_eq_sn, Fv.o_eq_ii, Fv.o_eq_bb, Fv.o_eq_ss, Fv.o_eq_is, Fv.o_eq_si, Fv.o_eq_bs, Fv.o_eq_sb, Fv.o_eq_tt, Fv.o_eq_tr, Fv.o_eq_tn, Fv.o_eq_nt, Fv.o_eq_ti, Fv.o_eq_it, Fv.o_eq_tb, Fv.o_eq_bt, Fv.o_eq_ts, Fv.o_eq_st, Fv.o_eq_rt, Fv.o_eq_rr, Fv.o_eq_rn, Fv.o_eq_nr, Fv.o_eq_ri, Fv.o_eq_ir, Fv.o_eq_rb, Fv.o_eq_br, Fv.o_eq_rs, Fv.o_eq_sr, Fv.o_tru_n, Fv.o_tru_b, Fv.o_tru_i, Fv.o_tru_s, Fv.o_tru_t, Fv.o_tru_w, Fv.o_tru_r, Fv.o_idx_t, Fv.o_idx_w, Fv.o_idx_r, Fv.o_idx_s, Fv.o_idx_d, Fv.o_sl_t, Fv.o_sl_s, Fv.o_sl_r, Fv.o_isi_n, Fv.o_isi_b, Fv.o_isi_i, Fv.o_isi_s, Fv.o_isi_t, Fv.o_isi_w, Fv.o_isi_d, Fv.o_isi_r, Fv.o_len_t, Fv.o_len_w, Fv.o_len_s, Fv.o_len_r, Fv.o_abs, Fv.o_max, Fv.o_min, Fv.o_str, Fv.o_repr, Fv.o_tuple_t, Fv.o_tuple_r, Fv.o_list_t, Fv.o_list_r, Fv.o_set_r, Fv.o_in_t, Fv.o_in_w, Fv.o_in_r, Fv.o_in_s, Fv.o_in_d, Fv.setAll, eq_self, and_true])
      refine ss_step fun N2 hN2 => ?_
      (try simp only [Fv.wSs, Fv.wS, Fv.wE, Fv.wT, Fv.wTs, Fv.wA, Fv.wO, Fv.wG, Fv.wGs, Fv.wI, Fv.wVar, Fv.wCst, Fv.wOp, Fv.wUn, Fv.wIte, Fv.wNil, Fv.wCons, Fv.wTup, Fv.wLst, Fv.wCall, Fv.wName, Fv.wGNil, Fv.wGCons, Fv.pBin, Fv.pCmp, Fv.pCmpB, Fv.pBn, Fv.pIsN, Fv.isNon, Fv.endP, List.getElem?_cons_zero, List.getElem?_cons_succ, List.set_cons_zero, List.set_cons_succ, List.map_cons, List.map_nil, List.zip_cons_cons, List.zip_nil_left, Option.map_some, decide_eq_true_eq, if_true, if_false, reduceCtorEq, ↓reduceIte, Bool.not_true, Bool.not_false, Bool.false_eq_true, Fv.pu_same, Fv.pu_pu, L2.ixN, Fv.atI_0, Fv.atI_1, Fv.atI_2, Fv.atI_3, Fv.atI_4, Fv.atI_5, List.length_cons, List.length_nil, Nat.reduceAdd, Int.reduceLT, Int.reduceLE, Int.cast_ofNat_Int, List.length_set, Nat.lt_add_one, true_and, Option.bind_some, Int.toNat_zero, Int.toNat_one, Int.reduceToNat, Nat.zero_add, Int.zero_lt_one, Int.reduceBEq, beq_self_eq_true, List.length_map, ite_true, ite_false, Int.reduceNeg, Fv.atI_last, List.getLast_cons_cons, List.getLast_singleton, Fv.kb_NoneType_tuple, Fv.kb_NoneType_int, Fv.kb_NoneType_bool, Fv.kb_NoneType_str, Fv.kb_NoneType_list, Fv.kb_NoneType_dict, Fv.kb_bool_tuple, Fv.kb_bool_int, Fv.kb_bool_bool, Fv.kb_bool_str, Fv.kb_bool_list, Fv.kb_bool_dict, Fv.kb_int_tuple, Fv.kb_int_int, Fv.kb_int_bool, Fv.kb_int_str, Fv.kb_int_list, Fv.kb_int_dict, Fv.kb_str_tuple, Fv.kb_str_int, Fv.kb_str_bool, Fv.kb_str_str, Fv.kb_str_list, Fv.kb_str_dict, Fv.kb_tuple_tuple, Fv.kb_tuple_int, Fv.kb_tuple_bool, Fv.kb_tuple_str, Fv.kb_tuple_list, Fv.kb_tuple_dict, Fv.kb_list_tuple, Fv.kb_list_int, Fv.kb_list_bool, Fv.kb_list_str, Fv.kb_list_list, Fv.kb_list_dict, Fv.kb_dict_tuple, Fv.kb_dict_int, Fv.kb_dict_bool, Fv.kb_dict_str, Fv.kb_dict_list, Fv.kb_dict_dict, Fv.o_add_ii, Fv.o_add_ss, Fv.o_add_tt, Fv.o_add_rr, Fv.o_sub_ii, Fv.o_mul_ii, Fv.o_mul_rk, Fv.o_mod_ii, Fv.o_div_ii, Fv.o_pow_ii, Fv.o_lt_ii, Fv.o_lt_ss, Fv.o_eq_nn, Fv.o_eq_ni, Fv.o_eq_in, Fv.o_eq_nb, Fv.o_eq_bn, Fv.o_eq_ns, Fv.o_eq_sn, Fv.o_eq_ii, Fv.o_eq_bb, Fv.o_eq_ss, Fv.o_eq_is, Fv.o_eq_si, Fv.o_eq_bs, Fv.o_eq_sb, Fv.o_eq_tt, Fv.o_eq_tr, Fv.o_eq_tn, Fv.o_eq_nt, Fv.o_eq_ti, Fv.o_eq_it, Fv.o_eq_tb, Fv.o_eq_bt, Fv.o_eq_ts, Fv.o_eq_st, Fv.o_eq_rt, Fv.o_eq_rr, Fv.o_eq_rn, Fv.o_eq_nr, Fv.o_eq_ri, Fv.o_eq_ir, Fv.o_eq_rb, Fv.o_eq_br, Fv.o_eq_rs, Fv.o_eq_sr, Fv.o_tru_n, Fv.o_tru_b, Fv.o_tru_i, Fv.o_tru_s, Fv.o_tru_t, Fv.o_tru_w, Fv.o_tru_r, Fv.o_idx_t, Fv.o_idx_w, Fv.o_idx_r, Fv.o_idx_s, Fv.o_idx_d, Fv.o_sl_t, Fv.o_sl_s, Fv.o_sl_r, Fv.o_isi_n, Fv.o_isi_b, Fv.o_isi_i, Fv.o_isi_s, Fv.o_isi_t, Fv.o_isi_w, Fv.o_isi_d, Fv.o_isi_r, Fv.o_len_t, Fv.o_len_w, Fv.o_len_s, Fv.o_len_r, Fv.o_abs, Fv.o_max, Fv.o_min, Fv.o_str, Fv.o_repr, Fv.o_tuple_t, Fv.o_tuple_r, Fv.o_list_t, Fv.o_list_r, Fv.o_set_r, Fv.o_in_t, Fv.o_in_w, Fv.o_in_r, Fv.o_in_s, Fv.o_in_d, Fv.setAll, eq_self, and_true])
      refine s_apply g_apply (k) n hb ?_
      exact hN2 _ _ (ss_nil (hR _ _ _ (Sub.refl _) ⟨_, r, _, rfl, rfl, rfl, he⟩))
theorem sl_take {α : Type} {xs : List α} {k : Int} (h : 0 ≤ k) : (xs.drop (HT.sIx xs.length 0 none)).take (HT.sIx xs.length xs.length (some k) - HT.sIx xs.length 0 none) = xs.take k.toNat := by
  unfold HT.sIx
  simp only [if_neg (show ¬ k < 0 by omega), List.drop_zero, Nat.sub_zero]
  rw [← List.take_take, List.take_length] <;> rfl
theorem sl_drop {α : Type} {xs : List α} {k : Int} (h : 0 ≤ k) : (xs.drop (HT.sIx xs.length 0 (some k))).take (HT.sIx xs.length xs.length none - HT.sIx xs.length 0 (some k)) = xs.drop k.toNat := by
  unfold HT.sIx
  simp only [if_neg (show ¬ k < 0 by omega)]
  by_cases hk : k.toNat ≤ xs.length
  · rw [Nat.min_eq_left hk, List.take_of_length_le (by simp)]
  · rw [Nat.min_eq_right (by omega), List.drop_eq_nil_of_le (Nat.le_refl _), List.drop_eq_nil_of_le (by omega)]; simp
theorem range_ints (n : Nat) (lo : Int) : rangeP lo n = ((List.range n).map fun i : Nat => lo + (i : Int)).map PV.int := by
  unfold rangeP; rw [List.map_map]; rfl
theorem range_mem {n : Nat} {lo x : Int} (h : x ∈ (List.range n).map fun i : Nat => lo + (i : Int)) : lo ≤ x ∧ x < lo + n := by
  obtain ⟨i, hi, rfl⟩ := List.mem_map.1 h
  have := List.mem_range.1 hi
  omega
/-- the pieces -/
theorem cuts (k : Nat) {b j : Int} {ms : List Mp} {s : Addr} {D : PD} {G : PH} (hs : G s = some (.lst (ms.map Mp.pv))) (hok : ∀ m ∈ ms, m.ok b) (hl : ms.length ≤ 6) (hb : 0 < b) (hj : 0 ≤ j) (x0 x1 x2 x4 x8 x10 x11 x12 x13 : Option PV)
    (q : ∀ x10 x11 G1, Sub G G1 → D.nx [x0, x1, x2, some (.int b), x4, some (.ref s), some (fol b (.fnd 0) ms).pv, some (Mp.fnd 0).pv, x8, some (.int j), x10, x11, x12, x13] G1) :
    wSs (run Γ gl (k + 5)) blaw_f4 D [x0, x1, x2, some (.int b), x4, some (.ref s), some (fol b (.fnd 0) ms).pv, some (Mp.fnd 0).pv, x8, some (.int j), x10, x11, x12, x13] G := by
  have size : sizeLine = 16777216 := rfl
  have t1 := sl_take (xs := ms.map Mp.pv) hj
  have t2 := sl_drop (xs := ms.map Mp.pv) hj
  rw [List.length_map] at t1 t2
  have ht : ∀ m ∈ ms.take j.toNat, m.ok b := fun m h => hok m (List.mem_of_mem_take h)
  have hd : ∀ m ∈ ms.drop j.toNat, m.ok b := fun m h => hok m (List.mem_of_mem_drop h)
  have zt := fol_ok hb (ms.take j.toNat) _ (zero_ok hb) ht
  have zd := fol_ok hb (ms.drop j.toNat) _ (zero_ok hb) hd
  have both : fol b (.fnd 0) ms = (fol b (.fnd 0) (ms.take j.toNat)).join (fol b (.fnd 0) (ms.drop j.toNat)) b := by
    rw [← fol_join hb _ _ zt hd, ← fol_app, List.take_append_drop]
  refine ss_step fun N hN => ?_
  (try simp only [Fv.wSs, Fv.wS, Fv.wE, Fv.wT, Fv.wTs, Fv.wA, Fv.wO, Fv.wG, Fv.wGs, Fv.wI, Fv.wVar, Fv.wCst, Fv.wOp, Fv.wUn, Fv.wIte, Fv.wNil, Fv.wCons, Fv.wTup, Fv.wLst, Fv.wCall, Fv.wName, Fv.wGNil, Fv.wGCons, Fv.pBin, Fv.pCmp, Fv.pCmpB, Fv.pBn, Fv.pIsN, Fv.isNon, Fv.endP, List.getElem?_cons_zero, List.getElem?_cons_succ, List.set_cons_zero, List.set_cons_succ, List.map_cons, List.map_nil, List.zip_cons_cons, List.zip_nil_left, Option.map_some, decide_eq_true_eq, if_true, if_false, reduceCtorEq, ↓reduceIte, Bool.not_true, Bool.not_false, Bool.false_eq_true, Fv.pu_same, Fv.pu_pu, L2.ixN, Fv.atI_0, Fv.atI_1, Fv.atI_2, Fv.atI_3, Fv.atI_4, Fv.atI_5, List.length_cons, List.length_nil, Nat.reduceAdd, Int.reduceLT, Int.reduceLE, Int.cast_ofNat_Int, List.length_set, Nat.lt_add_one, true_and, Option.bind_some, Int.toNat_zero, Int.toNat_one, Int.reduceToNat, Nat.zero_add, Int.zero_lt_one, Int.reduceBEq, beq_self_eq_true, List.length_map, ite_true, ite_false, Int.reduceNeg, Fv.atI_last, List.getLast_cons_cons, List.getLast_singleton, Fv.kb_NoneType_tuple, Fv.kb_NoneType_int, Fv.kb_NoneType_bool, Fv.kb_NoneType_str, Fv.kb_NoneType_list, Fv.kb_NoneType_dict, Fv.kb_bool_tuple, Fv.kb_bool_int, Fv.kb_bool_bool, Fv.kb_bool_str, Fv.kb_bool_list, Fv.kb_bool_dict, Fv.kb_int_tuple, Fv.kb_int_int, Fv.kb_int_bool, Fv.kb_int_str, Fv.kb_int_list, Fv.kb_int_dict, Fv.kb_str_tuple, Fv.kb_str_int, Fv.kb_str_bool, Fv.kb_str_str, Fv.kb_str_list, Fv.kb_str_dict, Fv.kb_tuple_tuple, Fv.kb_tuple_int, Fv.kb_tuple_bool, Fv.kb_tuple_str, Fv.kb_tuple_list, Fv.kb_tuple_dict, Fv.kb_list_tuple, Fv.kb_list_int, Fv.kb_list_bool, Fv.kb_list_str, Fv.kb_list_list, Fv.kb_list_dict, Fv.kb_dict_tuple, Fv.kb_dict_int, Fv.kb_dict_bool, Fv.kb_dict_str, Fv.kb_dict_list, Fv.kb_dict_dict, Fv.o_add_ii, Fv.o_add_ss, Fv.o_add_tt, Fv.o_add_rr, Fv.o_sub_ii, Fv.o_mul_ii, Fv.o_mul_rk, Fv.o_mod_ii, Fv.o_div_ii, Fv.o_pow_ii, Fv.o_lt_ii, Fv.o_lt_ss, Fv.o_eq_nn, Fv.o_eq_ni, Fv.o_eq_in, Fv.o_eq_nb, Fv.o_eq_bn, Fv.o_eq_ns, Fv.o_eq_sn, Fv.o_eq_ii, Fv.o_eq_bb, Fv.o_eq_ss, Fv.o_eq_is, Fv.o_eq_si, Fv.o_eq_bs, Fv.o_eq_sb, Fv.o_eq_tt, Fv.o_eq_tr, Fv.o_eq_tn, Fv.o_eq_nt, Fv.o_eq_ti, Fv.o_eq_it, Fv.o_eq_tb, Fv.o_eq_bt, Fv.o_eq_ts, Fv.o_eq_st, Fv.o_eq_rt, Fv.o_eq_rr, Fv.o_eq_rn, Fv.o_eq_nr, Fv.o_eq_ri, Fv.o_eq_ir, Fv.o_eq_rb, Fv.o_eq_br, Fv.o_eq_rs, Fv.o_eq_sr, Fv.o_tru_n, Fv.o_tru_b, Fv.o_tru_i, Fv.o_tru_s, Fv.o_tru_t, Fv.o_tru_w, Fv.o_tru_r, Fv.o_idx_t, Fv.o_idx_w, Fv.o_idx_r, Fv.o_idx_s, Fv.o_idx_d, Fv.o_sl_t, Fv.o_sl_s, Fv.o_sl_r, Fv.o_isi_n, Fv.o_isi_b, Fv.o_isi_i, Fv.o_isi_s, Fv.o_isi_t, Fv.o_isi_w, Fv.o_isi_d, Fv.o_isi_r, Fv.o_len_t, Fv.o_len_w, Fv.o_len_s, Fv.o_len_r, Fv.o_abs, Fv.o_max, Fv.o_min, Fv.o_str, Fv.o_repr, Fv.o_tuple_t, Fv.o_tuple_r, Fv.o_list_t, Fv.o_list_r, Fv.o_set_r, Fv.o_in_t, Fv.o_in_w, Fv.o_in_r, Fv.o_in_s, Fv.o_in_d, Fv.setAll, eq_self, and_true, hs, t1, t2])
  intro p1 hp1
  have b1 : Fv.Sub G (pu G p1 (.lst ((ms.map Mp.pv).take j.toNat))) := Sub.new hp1
  refine s_folded (k + 1) (ms.take j.toNat) (by rw [pu_same, List.map_take]) ht hb ?_
  generalize pu G p1 _ = G1 at b1 ⊢
  (try simp only [Fv.wSs, Fv.wS, Fv.wE, Fv.wT, Fv.wTs, Fv.wA, Fv.wO, Fv.wG, Fv.wGs, Fv.wI, Fv.wVar, Fv.wCst, Fv.wOp, Fv.wUn, Fv.wIte, Fv.wNil, Fv.wCons, Fv.wTup, Fv.wLst, Fv.wCall, Fv.wName, Fv.wGNil, Fv.wGCons, Fv.pBin, Fv.pCmp, Fv.pCmpB, Fv.pBn, Fv.pIsN, Fv.isNon, Fv.endP, List.getElem?_cons_zero, List.getElem?_cons_succ, List.set_cons_zero, List.set_cons_succ, List.map_cons, List.map_nil, List.zip_cons_cons, List.zip_nil_left, Option.map_some, decide_eq_true_eq, if_true, if_false, reduceCtorEq, ↓reduceIte, Bool.not_true, Bool.not_false, Bool.false_eq_true, Fv.pu_same, Fv.pu_pu, L2.ixN, Fv.atI_0, Fv.atI_1, Fv.atI_2, Fv.atI_3, Fv.atI_4, Fv.atI_5, List.length_cons, List.length_nil, Nat.reduceAdd, Int.reduceLT, Int.reduceLE, Int.cast_ofNat_Int, List.length_set, Nat.lt_add_one, true_and, Option.bind_some, Int.toNat_zero, Int.toNat_one, Int.reduceToNat, Nat.zero_add, Int.zero_lt_one, Int.reduceBEq, beq_self_eq_true, List.length_map, ite_true, ite_false, Int.reduceNeg, Fv.atI_last, List.getLast_cons_cons, List.getLast_singleton, Fv.kb_NoneType_tuple, Fv.kb_NoneType_int, Fv.kb_NoneType_bool, Fv.kb_NoneType_str, Fv.kb_NoneType_list, Fv.kb_NoneType_dict, Fv.kb_bool_tuple, Fv.kb_bool_int, Fv.kb_bool_bool, Fv.kb_bool_str, Fv.kb_bool_list, Fv.kb_bool_dict, Fv.kb_int_tuple, Fv.kb_int_int, Fv.kb_int_bool, Fv.kb_int_str, Fv.kb_int_list, Fv.kb_int_dict, Fv.kb_str_tuple, Fv.kb_str_int, Fv.kb_str_bool, Fv.kb_str_str, Fv.kb_str_list, Fv.kb_str_dict, Fv.kb_tuple_tuple, Fv.kb_tuple_int, Fv.kb_tuple_bool, Fv.kb_tuple_str, Fv.kb_tuple_list, Fv.kb_tuple_dict, Fv.kb_list_tuple, Fv.kb_list_int, Fv.kb_list_bool, Fv.kb_list_str, Fv.kb_list_list, Fv.kb_list_dict, Fv.kb_dict_tuple, Fv.kb_dict_int, Fv.kb_dict_bool, Fv.kb_dict_str, Fv.kb_dict_list, Fv.kb_dict_dict, Fv.o_add_ii, Fv.o_add_ss, Fv.o_add_tt, Fv.o_add_rr, Fv.o_sub_ii, Fv.o_mul_ii, Fv.o_mul_rk, Fv.o_mod_ii, Fv.o_div_ii, Fv.o_pow_ii, Fv.o_lt_ii, Fv.o_lt_ss, Fv.o_eq_nn, Fv.o_eq_ni, Fv.o_eq_in, Fv.o_eq_nb, Fv.o_eq_bn, Fv.o_eq_ns, Fv.o_eq_sn, Fv.o_eq_ii, Fv.o_eq_bb, Fv.o_eq_ss, Fv.o_eq_is, Fv.o_eq_si, Fv.o_eq_bs, Fv.o_eq_sb, Fv.o_eq_tt, Fv.o_eq_tr, Fv.o_eq_tn, Fv.o_eq_nt, Fv.o_eq_ti, Fv.o_eq_it, Fv.o_eq_tb, Fv.o_eq_bt, Fv.o_eq_ts, Fv.o_eq_st, Fv.o_eq_rt, Fv.o_eq_rr, Fv.o_eq_rn, Fv.o_eq_nr, Fv.o_eq_ri, Fv.o_eq_ir, Fv.o_eq_rb, Fv.o_eq_br, Fv.o_eq_rs, Fv.o_eq_sr, Fv.o_tru_n, Fv.o_tru_b, Fv.o_tru_i, Fv.o_tru_s, Fv.o_tru_t, Fv.o_tru_w, Fv.o_tru_r, Fv.o_idx_t, Fv.o_idx_w, Fv.o_idx_r, Fv.o_idx_s, Fv.o_idx_d, Fv.o_sl_t, Fv.o_sl_s, Fv.o_sl_r, Fv.o_isi_n, Fv.o_isi_b, Fv.o_isi_i, Fv.o_isi_s, Fv.o_isi_t, Fv.o_isi_w, Fv.o_isi_d, Fv.o_isi_r, Fv.o_len_t, Fv.o_len_w, Fv.o_len_s, Fv.o_len_r, Fv.o_abs, Fv.o_max, Fv.o_min, Fv.o_str, Fv.o_repr, Fv.o_tuple_t, Fv.o_tuple_r, Fv.o_list_t, Fv.o_list_r, Fv.o_set_r, Fv.o_in_t, Fv.o_in_w, Fv.o_in_r, Fv.o_in_s, Fv.o_in_d, Fv.setAll, eq_self, and_true, b1 _ _ hs, t1, t2])
  intro p2 hp2
  have b2 := b1.trans (Sub.new (o := .lst ((ms.map Mp.pv).drop j.toNat)) hp2)
  refine s_folded (k + 1) (ms.drop j.toNat) (by rw [pu_same, List.map_drop]) hd hb ?_
  generalize pu G1 p2 _ = G2 at b2 ⊢
  (try simp only [Fv.wSs, Fv.wS, Fv.wE, Fv.wT, Fv.wTs, Fv.wA, Fv.wO, Fv.wG, Fv.wGs, Fv.wI, Fv.wVar, Fv.wCst, Fv.wOp, Fv.wUn, Fv.wIte, Fv.wNil, Fv.wCons, Fv.wTup, Fv.wLst, Fv.wCall, Fv.wName, Fv.wGNil, Fv.wGCons, Fv.pBin, Fv.pCmp, Fv.pCmpB, Fv.pBn, Fv.pIsN, Fv.isNon, Fv.endP, List.getElem?_cons_zero, List.getElem?_cons_succ, List.set_cons_zero, List.set_cons_succ, List.map_cons, List.map_nil, List.zip_cons_cons, List.zip_nil_left, Option.map_some, decide_eq_true_eq, if_true, if_false, reduceCtorEq, ↓reduceIte, Bool.not_true, Bool.not_false, Bool.false_eq_true, Fv.pu_same, Fv.pu_pu, L2.ixN, Fv.atI_0, Fv.atI_1, Fv.atI_2, Fv.atI_3, Fv.atI_4, Fv.atI_5, List.length_cons, List.length_nil, Nat.reduceAdd, Int.reduceLT, Int.reduceLE, Int.cast_ofNat_Int, List.length_set, Nat.lt_add_one, true_and, Option.bind_some, Int.toNat_zero, Int.toNat_one, Int.reduceToNat, Nat.zero_add, Int.zero_lt_one, Int.reduceBEq, beq_self_eq_true, List.length_map, ite_true, ite_false, Int.reduceNeg, Fv.atI_last, List.getLast_cons_cons, List.getLast_singleton, Fv.kb_NoneType_tuple, Fv.kb_NoneType_int, Fv.kb_NoneType_bool, Fv.kb_NoneType_str, Fv.kb_NoneType_list, Fv.kb_NoneType_dict, Fv.kb_bool_tuple, Fv.kb_bool_int, Fv.kb_bool_bool, Fv.kb_bool_str, Fv.kb_bool_list, Fv.kb_bool_dict, Fv.kb_int_tuple, Fv.kb_int_int, Fv.kb_int_bool, Fv.kb_int_str, Fv.kb_int_list, Fv.kb_int_dict, Fv.kb_str_tuple, Fv.kb_str_int, Fv.kb_str_bool, Fv.kb_str_str, Fv.kb_str_list, Fv.kb_str_dict, Fv.kb_tuple_tuple, Fv.kb_tuple_int, Fv.kb_tuple_bool, Fv.kb_tuple_str, Fv.kb_tuple_list, Fv.kb_tuple_dict, Fv.kb_list_tuple, Fv.kb_list_int, Fv.kb_list_bool, Fv.kb_list_str, Fv.kb_list_list, Fv.kb_list_dict, Fv.kb_dict_tuple, Fv.kb_dict_int, Fv.kb_dict_bool, Fv.kb_dict_str, Fv.kb_dict_list, Fv.kb_dict_dict, Fv.o_add_ii, Fv.o_add_ss, Fv.o_add_tt, Fv.o_add_rr, Fv.o_sub_ii, Fv.o_mul_ii, Fv.o_mul_rk, Fv.o_mod_ii, Fv.o_div_ii, Fv.o_pow_ii, Fv.o_lt_ii, Fv.o_lt_ss, Fv.o_eq_nn, Fv.o_eq_ni, Fv.o_eq_in, Fv.o_eq_nb, Fv.o_eq_bn, Fv.o_eq_ns, Fv.o_eq_sn, Fv.o_eq_ii, Fv.o_eq_bb, Fv.o_eq_ss, Fv.o_eq_is, Fv.o_eq_si, Fv.o_eq_bs, Fv.o_eq_sb, Fv.o_eq_tt, Fv.o_eq_tr, Fv.o_eq_tn, Fv.o_eq_nt, Fv.o_eq_ti, Fv.o_eq_it, Fv.o_eq_tb, Fv.o_eq_bt, Fv.o_eq_ts, Fv.o_eq_st, Fv.o_eq_rt, Fv.o_eq_rr, Fv.o_eq_rn, Fv.o_eq_nr, Fv.o_eq_ri, Fv.o_eq_ir, Fv.o_eq_rb, Fv.o_eq_br, Fv.o_eq_rs, Fv.o_eq_sr, Fv.o_tru_n, Fv.o_tru_b, Fv.o_tru_i, Fv.o_tru_s, Fv.o_tru_t, Fv.o_tru_w, Fv.o_tru_r, Fv.o_idx_t, Fv.o_idx_w, Fv.o_idx_r, Fv.o_idx_s, Fv.o_idx_d, Fv.o_sl_t, Fv.o_sl_s, Fv.o_sl_r, Fv.o_isi_n, Fv.o_isi_b, Fv.o_isi_i, Fv.o_isi_s, Fv.o_isi_t, Fv.o_isi_w, Fv.o_isi_d, Fv.o_isi_r, Fv.o_len_t, Fv.o_len_w, Fv.o_len_s, Fv.o_len_r, Fv.o_abs, Fv.o_max, Fv.o_min, Fv.o_str, Fv.o_repr, Fv.o_tuple_t, Fv.o_tuple_r, Fv.o_list_t, Fv.o_list_r, Fv.o_set_r, Fv.o_in_t, Fv.o_in_w, Fv.o_in_r, Fv.o_in_s, Fv.o_in_d, Fv.setAll, eq_self, and_true])
  refine composed_g (k + 2) [_, _] hb (by simp) ?_
  have e1 : fol b (.fnd 0) [fol b (.fnd 0) (ms.take j.toNat), fol b (.fnd 0) (ms.drop j.toNat)] = fol b (.fnd 0) ms := by
    rw [both]
    show ((Mp.fnd 0).join _ b).join _ b = _
    rw [join_zero zt]
  rw [e1]
  clear e1
  refine hN _ _ (ss_step fun N1 hN1 => ?_)
  have hs2 := b2 _ _ hs
  (try simp only [Fv.wSs, Fv.wS, Fv.wE, Fv.wT, Fv.wTs, Fv.wA, Fv.wO, Fv.wG, Fv.wGs, Fv.wI, Fv.wVar, Fv.wCst, Fv.wOp, Fv.wUn, Fv.wIte, Fv.wNil, Fv.wCons, Fv.wTup, Fv.wLst, Fv.wCall, Fv.wName, Fv.wGNil, Fv.wGCons, Fv.pBin, Fv.pCmp, Fv.pCmpB, Fv.pBn, Fv.pIsN, Fv.isNon, Fv.endP, List.getElem?_cons_zero, List.getElem?_cons_succ, List.set_cons_zero, List.set_cons_succ, List.map_cons, List.map_nil, List.zip_cons_cons, List.zip_nil_left, Option.map_some, decide_eq_true_eq, if_true, if_false, reduceCtorEq, ↓reduceIte, Bool.not_true, Bool.not_false, Bool.false_eq_true, Fv.pu_same, Fv.pu_pu, L2.ixN, Fv.atI_0, Fv.atI_1, Fv.atI_2, Fv.atI_3, Fv.atI_4, Fv.atI_5, List.length_cons, List.length_nil, Nat.reduceAdd, Int.reduceLT, Int.reduceLE, Int.cast_ofNat_Int, List.length_set, Nat.lt_add_one, true_and, Option.bind_some, Int.toNat_zero, Int.toNat_one, Int.reduceToNat, Nat.zero_add, Int.zero_lt_one, Int.reduceBEq, beq_self_eq_true, List.length_map, ite_true, ite_false, Int.reduceNeg, Fv.atI_last, List.getLast_cons_cons, List.getLast_singleton, Fv.kb_NoneType_tuple, Fv.kb_NoneType_int, Fv.kb_NoneType_bool, Fv.kb_NoneType_str, Fv.kb_NoneType_list, Fv.kb_NoneType_dict, Fv.kb_bool_tuple, Fv.kb_bool_int, Fv.kb_bool_bool, Fv.kb_bool_str, Fv.kb_bool_list, Fv.kb_bool_dict, Fv.kb_int_tuple, Fv.kb_int_int, Fv.kb_int_bool, Fv.kb_int_str, Fv.kb_int_list, Fv.kb_int_dict, Fv.kb_str_tuple, Fv.kb_str_int, Fv.kb_str_bool, Fv.kb_str_str, Fv.kb_str_list, Fv.kb_str_dict, Fv.kb_tuple_tuple, Fv.kb_tuple_int, Fv.kb_tuple_bool, Fv.kb_tuple_str, Fv.kb_tuple_list, Fv.kb_tuple_dict, Fv.kb_list_tuple, Fv.kb_list_int, Fv.kb_list_bool, Fv.kb_list_str, Fv.kb_list_list, Fv.kb_list_dict, Fv.kb_dict_tuple, Fv.kb_dict_int, Fv.kb_dict_bool, Fv.kb_dict_str, Fv.kb_dict_list, Fv.kb_dict_dict, Fv.o_add_ii, Fv.o_add_ss, Fv.o_add_tt, Fv.o_add_rr, Fv.o_sub_ii, Fv.o_mul_ii, Fv.o_mul_rk, Fv.o_mod_ii, Fv.o_div_ii, Fv.o_pow_ii, Fv.o_lt_ii, Fv.o_lt_ss, Fv.o_eq_nn, Fv.o_eq_ni, Fv.o_eq_in, Fv.o_eq_nb, Fv.o_eq_bn, Fv.o_eq_ns, Fv.o_eq_sn, Fv.o_eq_ii, Fv.o_eq_bb, Fv.o_eq_ss, Fv.o_eq_is, Fv.o_eq_si, Fv.o_eq_bs, Fv.o_eq_sb, Fv.o_eq_tt, Fv.o_eq_tr, Fv.o_eq_tn, Fv.o_eq_nt, Fv.o_eq_ti, Fv.o_eq_it, Fv.o_eq_tb, Fv.o_eq_bt, Fv.o_eq_ts, Fv.o_eq_st, Fv.o_eq_rt, Fv.o_eq_rr, Fv.o_eq_rn, Fv.o_eq_nr, Fv.o_eq_ri, Fv.o_eq_ir, Fv.o_eq_rb, Fv.o_eq_br, Fv.o_eq_rs, Fv.o_eq_sr, Fv.o_tru_n, Fv.o_tru_b, Fv.o_tru_i, Fv.o_tru_s, Fv.o_tru_t, Fv.o_tru_w, Fv.o_tru_r, Fv.o_idx_t, Fv.o_idx_w, Fv.o_idx_r, Fv.o_idx_s, Fv.o_idx_d, Fv.o_sl_t, Fv.o_sl_s, Fv.o_sl_r, Fv.o_isi_n, Fv.o_isi_b, Fv.o_isi_i, Fv.o_isi_s, Fv.o_isi_t, Fv.o_isi_w, Fv.o_isi_d, Fv.o_isi_r, Fv.o_len_t, Fv.o_len_w, Fv.o_len_s, Fv.o_len_r, Fv.o_abs, Fv.o_max, Fv.o_min, Fv.o_str, Fv.o_repr, Fv.o_tuple_t, Fv.o_tuple_r, Fv.o_list_t, Fv.o_list_r, Fv.o_set_r, Fv.o_in_t, Fv.o_in_w, Fv.o_in_r, Fv.o_in_s, Fv.o_in_d, Fv.setAll, eq_self, and_true, hs2, t1, t2])
  intro p3 hp3
  have g3 : pu G2 p3 (.lst ((ms.map Mp.pv).take j.toNat)) p3 = some (.lst ((ms.map Mp.pv).take j.toNat)) := pu_same
  have b3 := b2.trans (Sub.new (o := .lst ((ms.map Mp.pv).take j.toNat)) hp3)
  generalize pu G2 p3 _ = G3 at b3 g3 ⊢
  refine ⟨by decide, fun p4 hp4 => ?_⟩
  have g4 : pu G3 p4 (.lst [(Mp.fnd 0).pv]) p4 = some (.lst [(Mp.fnd 0).pv]) := pu_same
  have c4 := Sub.new (o := .lst [(Mp.fnd 0).pv]) hp4
  have b4 := b3.trans c4
  have g34 := c4 _ _ g3
  generalize pu G3 p4 _ = G4 at b4 g4 g34 ⊢
  (try simp only [Fv.wSs, Fv.wS, Fv.wE, Fv.wT, Fv.wTs, Fv.wA, Fv.wO, Fv.wG, Fv.wGs, Fv.wI, Fv.wVar, Fv.wCst, Fv.wOp, Fv.wUn, Fv.wIte, Fv.wNil, Fv.wCons, Fv.wTup, Fv.wLst, Fv.wCall, Fv.wName, Fv.wGNil, Fv.wGCons, Fv.pBin, Fv.pCmp, Fv.pCmpB, Fv.pBn, Fv.pIsN, Fv.isNon, Fv.endP, List.getElem?_cons_zero, List.getElem?_cons_succ, List.set_cons_zero, List.set_cons_succ, List.map_cons, List.map_nil, List.zip_cons_cons, List.zip_nil_left, Option.map_some, decide_eq_true_eq, if_true, if_false, reduceCtorEq, ↓reduceIte, Bool.not_true, Bool.not_false, Bool.false_eq_true, Fv.pu_same, Fv.pu_pu, L2.ixN, Fv.atI_0, Fv.atI_1, Fv.atI_2, Fv.atI_3, Fv.atI_4, Fv.atI_5, List.length_cons, List.length_nil, Nat.reduceAdd, Int.reduceLT, Int.reduceLE, Int.cast_ofNat_Int, List.length_set, Nat.lt_add_one, true_and, Option.bind_some, Int.toNat_zero, Int.toNat_one, Int.reduceToNat, Nat.zero_add, Int.zero_lt_one, Int.reduceBEq, beq_self_eq_true, List.length_map, ite_true, ite_false, Int.reduceNeg, Fv.atI_last, List.getLast_cons_cons, List.getLast_singleton, Fv.kb_NoneType_tuple, Fv.kb_NoneType_int, Fv.kb_NoneType_bool, Fv.kb_NoneType_str, Fv.kb_NoneType_list, Fv.kb_NoneType_dict, Fv.kb_bool_tuple, Fv.kb_bool_int, Fv.kb_bool_bool, Fv.kb_bool_str, Fv.kb_bool_list, Fv.kb_bool_dict, Fv.kb_int_tuple, Fv.kb_int_int, Fv.kb_int_bool, Fv.kb_int_str, Fv.kb_int_list, Fv.kb_int_dict, Fv.kb_str_tuple, Fv.kb_str_int, Fv.kb_str_bool, Fv.kb_str_str, Fv.kb_str_list, Fv.kb_str_dict, Fv.kb_tuple_tuple, Fv.kb_tuple_int, Fv.kb_tuple_bool, Fv.kb_tuple_str, Fv.kb_tuple_list, Fv.kb_tuple_dict, Fv.kb_list_tuple, Fv.kb_list_int, Fv.kb_list_bool, Fv.kb_list_str, Fv.kb_list_list, Fv.kb_list_dict, Fv.kb_dict_tuple, Fv.kb_dict_int, Fv.kb_dict_bool, Fv.kb_dict_str, Fv.kb_dict_list, Fv.kb_dict_dict, Fv.o_add_ii, Fv.o_add_ss, Fv.o_add_tt, Fv.o_add_rr, Fv.o_sub_ii, Fv.o_mul_ii, Fv.o_mul_rk, Fv.o_mod_ii, Fv.o_div_ii, Fv.o_pow_ii, Fv.o_lt_ii, Fv.o_lt_ss, Fv.o_eq_nn, Fv.o_eq_ni, Fv.o_eq_in, Fv.o_eq_nb, Fv.o_eq_bn, Fv.o_eq_ns, Fv.o_eq_sn, Fv.o_eq_ii, Fv.o_eq_bb, Fv.o_eq_ss, Fv.o_eq_is, Fv.o_eq_si, Fv.o_eq_bs, Fv.o_eq_sb, Fv.o_eq_tt, Fv.o_eq_tr, Fv.o_eq_tn, Fv.o_eq_nt, Fv.o_eq_ti, Fv.o_eq_it, Fv.o_eq_tb, Fv.o_eq_bt, Fv.o_eq_ts, Fv.o_eq_st, Fv.o_eq_rt, Fv.o_eq_rr, Fv.o_eq_rn, Fv.o_eq_nr, Fv.o_eq_ri, Fv.o_eq_ir, Fv.o_eq_rb, Fv.o_eq_br, Fv.o_eq_rs, Fv.o_eq_sr, Fv.o_tru_n, Fv.o_tru_b, Fv.o_tru_i, Fv.o_tru_s, Fv.o_tru_t, Fv.o_tru_w, Fv.o_tru_r, Fv.o_idx_t, Fv.o_idx_w, Fv.o_idx_r, Fv.o_idx_s, Fv.o_idx_d, Fv.o_sl_t, Fv.o_sl_s, Fv.o_sl_r, Fv.o_isi_n, Fv.o_isi_b, Fv.o_isi_i, Fv.o_isi_s, Fv.o_isi_t, Fv.o_isi_w, Fv.o_isi_d, Fv.o_isi_r, Fv.o_len_t, Fv.o_len_w, Fv.o_len_s, Fv.o_len_r, Fv.o_abs, Fv.o_max, Fv.o_min, Fv.o_str, Fv.o_repr, Fv.o_tuple_t, Fv.o_tuple_r, Fv.o_list_t, Fv.o_list_r, Fv.o_set_r, Fv.o_in_t, Fv.o_in_w, Fv.o_in_r, Fv.o_in_s, Fv.o_in_d, Fv.setAll, eq_self, and_true, g4, g34])
  refine ⟨by simp; omega, fun p5 hp5 => ?_⟩
  have c5 := Sub.new (o := .lst ((ms.map Mp.pv).take j.toNat ++ [(Mp.fnd 0).pv])) hp5
  have g5 : pu G4 p5 (.lst ((ms.map Mp.pv).take j.toNat ++ [(Mp.fnd 0).pv])) p5 = some (.lst ((ms.map Mp.pv).take j.toNat ++ [(Mp.fnd 0).pv])) := pu_same
  have b5 := b4.trans c5
  generalize pu G4 p5 _ = G5 at b5 g5 ⊢
  (try simp only [Fv.wSs, Fv.wS, Fv.wE, Fv.wT, Fv.wTs, Fv.wA, Fv.wO, Fv.wG, Fv.wGs, Fv.wI, Fv.wVar, Fv.wCst, Fv.wOp, Fv.wUn, Fv.wIte, Fv.wNil, Fv.wCons, Fv.wTup, Fv.wLst, Fv.wCall, Fv.wName, Fv.wGNil, Fv.wGCons, Fv.pBin, Fv.pCmp, Fv.pCmpB, Fv.pBn, Fv.pIsN, Fv.isNon, Fv.endP, List.getElem?_cons_zero, List.getElem?_cons_succ, List.set_cons_zero, List.set_cons_succ, List.map_cons, List.map_nil, List.zip_cons_cons, List.zip_nil_left, Option.map_some, decide_eq_true_eq, if_true, if_false, reduceCtorEq, ↓reduceIte, Bool.not_true, Bool.not_false, Bool.false_eq_true, Fv.pu_same, Fv.pu_pu, L2.ixN, Fv.atI_0, Fv.atI_1, Fv.atI_2, Fv.atI_3, Fv.atI_4, Fv.atI_5, List.length_cons, List.length_nil, Nat.reduceAdd, Int.reduceLT, Int.reduceLE, Int.cast_ofNat_Int, List.length_set, Nat.lt_add_one, true_and, Option.bind_some, Int.toNat_zero, Int.toNat_one, Int.reduceToNat, Nat.zero_add, Int.zero_lt_one, Int.reduceBEq, beq_self_eq_true, List.length_map, ite_true, ite_false, Int.reduceNeg, Fv.atI_last, List.getLast_cons_cons, List.getLast_singleton, Fv.kb_NoneType_tuple, Fv.kb_NoneType_int, Fv.kb_NoneType_bool, Fv.kb_NoneType_str, Fv.kb_NoneType_list, Fv.kb_NoneType_dict, Fv.kb_bool_tuple, Fv.kb_bool_int, Fv.kb_bool_bool, Fv.kb_bool_str, Fv.kb_bool_list, Fv.kb_bool_dict, Fv.kb_int_tuple, Fv.kb_int_int, Fv.kb_int_bool, Fv.kb_int_str, Fv.kb_int_list, Fv.kb_int_dict, Fv.kb_str_tuple, Fv.kb_str_int, Fv.kb_str_bool, Fv.kb_str_str, Fv.kb_str_list, Fv.kb_str_dict, Fv.kb_tuple_tuple, Fv.kb_tuple_int, Fv.kb_tuple_bool, Fv.kb_tuple_str, Fv.kb_tuple_list, Fv.kb_tuple_dict, Fv.kb_list_tuple, Fv.kb_list_int, Fv.kb_list_bool, Fv.kb_list_str, Fv.kb_list_list, Fv.kb_list_dict, Fv.kb_dict_tuple, Fv.kb_dict_int, Fv.kb_dict_bool, Fv.kb_dict_str, Fv.kb_dict_list, Fv.kb_dict_dict, Fv.o_add_ii, Fv.o_add_ss, Fv.o_add_tt, Fv.o_add_rr, Fv.o_sub_ii, Fv.o_mul_ii, Fv.o_mul_rk, Fv.o_mod_ii, Fv.o_div_ii, Fv.o_pow_ii, Fv.o_lt_ii, Fv.o_lt_ss, Fv.o_eq_nn, Fv.o_eq_ni, Fv.o_eq_in, Fv.o_eq_nb, Fv.o_eq_bn, Fv.o_eq_ns, Fv.o_eq_sn, Fv.o_eq_ii, Fv.o_eq_bb, Fv.o_eq_ss, Fv.o_eq_is, Fv.o_eq_si, Fv.o_eq_bs, Fv.o_eq_sb, Fv.o_eq_tt, Fv.o_eq_tr, Fv.o_eq_tn, Fv.o_eq_nt, Fv.o_eq_ti, Fv.o_eq_it, Fv.o_eq_tb, Fv.o_eq_bt, Fv.o_eq_ts, Fv.o_eq_st, Fv.o_eq_rt, Fv.o_eq_rr, Fv.o_eq_rn, Fv.o_eq_nr, Fv.o_eq_ri, Fv.o_eq_ir, Fv.o_eq_rb, Fv.o_eq_br, Fv.o_eq_rs, Fv.o_eq_sr, Fv.o_tru_n, Fv.o_tru_b, Fv.o_tru_i, Fv.o_tru_s, Fv.o_tru_t, Fv.o_tru_w, Fv.o_tru_r, Fv.o_idx_t, Fv.o_idx_w, Fv.o_idx_r, Fv.o_idx_s, Fv.o_idx_d, Fv.o_sl_t, Fv.o_sl_s, Fv.o_sl_r, Fv.o_isi_n, Fv.o_isi_b, Fv.o_isi_i, Fv.o_isi_s, Fv.o_isi_t, Fv.o_isi_w, Fv.o_isi_d, Fv.o_isi_r, Fv.o_len_t, Fv.o_len_w, Fv.o_len_s, Fv.o_len_r, Fv.o_abs, Fv.o_max, Fv.o_min, Fv.o_str, Fv.o_repr, Fv.o_tuple_t, Fv.o_tuple_r, Fv.o_list_t, Fv.o_list_r, Fv.o_set_r, Fv.o_in_t, Fv.o_in_w, Fv.o_in_r, Fv.o_in_s, Fv.o_in_d, Fv.setAll, eq_self, and_true, b5 _ _ hs, t1, t2])
  intro p6 hp6
  have c6 := Sub.new (o := .lst ((ms.map Mp.pv).drop j.toNat)) hp6
  have g6 : pu G5 p6 (.lst ((ms.map Mp.pv).drop j.toNat)) p6 = some (.lst ((ms.map Mp.pv).drop j.toNat)) := pu_same
  have g56 := c6 _ _ g5
  have b6 := b5.trans c6
  generalize pu G5 p6 _ = G6 at b6 g6 g56 ⊢
  (try simp only [Fv.wSs, Fv.wS, Fv.wE, Fv.wT, Fv.wTs, Fv.wA, Fv.wO, Fv.wG, Fv.wGs, Fv.wI, Fv.wVar, Fv.wCst, Fv.wOp, Fv.wUn, Fv.wIte, Fv.wNil, Fv.wCons, Fv.wTup, Fv.wLst, Fv.wCall, Fv.wName, Fv.wGNil, Fv.wGCons, Fv.pBin, Fv.pCmp, Fv.pCmpB, Fv.pBn, Fv.pIsN, Fv.isNon, Fv.endP, List.getElem?_cons_zero, List.getElem?_cons_succ, List.set_cons_zero, List.set_cons_succ, List.map_cons, List.map_nil, List.zip_cons_cons, List.zip_nil_left, Option.map_some, decide_eq_true_eq, if_true, if_false, reduceCtorEq, ↓reduceIte, Bool.not_true, Bool.not_false, Bool.false_eq_true, Fv.pu_same, Fv.pu_pu, L2.ixN, Fv.atI_0, Fv.atI_1, Fv.atI_2, Fv.atI_3, Fv.atI_4, Fv.atI_5, List.length_cons, List.length_nil, Nat.reduceAdd, Int.reduceLT, Int.reduceLE, Int.cast_ofNat_Int, List.length_set, Nat.lt_add_one, true_and, Option.bind_some, Int.toNat_zero, Int.toNat_one, Int.reduceToNat, Nat.zero_add, Int.zero_lt_one, Int.reduceBEq, beq_self_eq_true, List.length_map, ite_true, ite_false, Int.reduceNeg, Fv.atI_last, List.getLast_cons_cons, List.getLast_singleton, Fv.kb_NoneType_tuple, Fv.kb_NoneType_int, Fv.kb_NoneType_bool, Fv.kb_NoneType_str, Fv.kb_NoneType_list, Fv.kb_NoneType_dict, Fv.kb_bool_tuple, Fv.kb_bool_int, Fv.kb_bool_bool, Fv.kb_bool_str, Fv.kb_bool_list, Fv.kb_bool_dict, Fv.kb_int_tuple, Fv.kb_int_int, Fv.kb_int_bool, Fv.kb_int_str, Fv.kb_int_list, Fv.kb_int_dict, Fv.kb_str_tuple, Fv.kb_str_int, Fv.kb_str_bool, Fv.kb_str_str, Fv.kb_str_list, Fv.kb_str_dict, Fv.kb_tuple_tuple, Fv.kb_tuple_int, Fv.kb_tuple_bool, Fv.kb_tuple_str, Fv.kb_tuple_list, Fv.kb_tuple_dict, Fv.kb_list_tuple, Fv.kb_list_int, Fv.kb_list_bool, Fv.kb_list_str, Fv.kb_list_list, Fv.kb_list_dict, Fv.kb_dict_tuple, Fv.kb_dict_int, Fv.kb_dict_bool, Fv.kb_dict_str, Fv.kb_dict_list, Fv.kb_dict_dict, Fv.o_add_ii, Fv.o_add_ss, Fv.o_add_tt, Fv.o_add_rr, Fv.o_sub_ii, Fv.o_mul_ii, Fv.o_mul_rk, Fv.o_mod_ii, Fv.o_div_ii, Fv.o_pow_ii, Fv.o_lt_ii, Fv.o_lt_ss, Fv.o_eq_nn, Fv.o_eq_ni, Fv.o_eq_in, Fv.o_eq_nb, Fv.o_eq_bn, Fv.o_eq_ns, Fv.o_eq_sn, Fv.o_eq_ii, Fv.o_eq_bb, Fv.o_eq_ss, Fv.o_eq_is, Fv.o_eq_si, Fv.o_eq_bs, Fv.o_eq_sb, Fv.o_eq_tt, Fv.o_eq_tr, Fv.o_eq_tn, Fv.o_eq_nt, Fv.o_eq_ti, Fv.o_eq_it, Fv.o_eq_tb, Fv.o_eq_bt, Fv.o_eq_ts, Fv.o_eq_st, Fv.o_eq_rt, Fv.o_eq_rr, Fv.o_eq_rn, Fv.o_eq_nr, Fv.o_eq_ri, Fv.o_eq_ir, Fv.o_eq_rb, Fv.o_eq_br, Fv.o_eq_rs, Fv.o_eq_sr, Fv.o_tru_n, Fv.o_tru_b, Fv.o_tru_i, Fv.o_tru_s, Fv.o_tru_t, Fv.o_tru_w, Fv.o_tru_r, Fv.o_idx_t, Fv.o_idx_w, Fv.o_idx_r, Fv.o_idx_s, Fv.o_idx_d, Fv.o_sl_t, Fv.o_sl_s, Fv.o_sl_r, Fv.o_isi_n, Fv.o_isi_b, Fv.o_isi_i, Fv.o_isi_s, Fv.o_isi_t, Fv.o_isi_w, Fv.o_isi_d, Fv.o_isi_r, Fv.o_len_t, Fv.o_len_w, Fv.o_len_s, Fv.o_len_r, Fv.o_abs, Fv.o_max, Fv.o_min, Fv.o_str, Fv.o_repr, Fv.o_tuple_t, Fv.o_tuple_r, Fv.o_list_t, Fv.o_list_r, Fv.o_set_r, Fv.o_in_t, Fv.o_in_w, Fv.o_in_r, Fv.o_in_s, Fv.o_in_d, Fv.setAll, eq_self, and_true, g6, g56])
  refine ⟨by simp; omega, fun p7 hp7 => ?_⟩
  have b7 := b6.trans (Sub.new (o := .lst ((ms.map Mp.pv).take j.toNat ++ [(Mp.fnd 0).pv] ++ (ms.map Mp.pv).drop j.toNat)) hp7)
  refine s_folded (k + 1) (ms.take j.toNat ++ [.fnd 0] ++ ms.drop j.toNat) (by rw [pu_same]; simp [List.map_take, List.map_drop]) ?_ hb ?_
  · intro m hm
    rcases List.mem_append.1 hm with hm | hm
    · rcases List.mem_append.1 hm with hm | hm
      · exact ht m hm
      · obtain rfl := List.mem_singleton.1 hm
        exact zero_ok hb
    · exact hd m hm
  generalize pu G6 p7 _ = G7 at b7 ⊢
  have e2 : fol b (.fnd 0) (ms.take j.toNat ++ [.fnd 0] ++ ms.drop j.toNat) = fol b (.fnd 0) ms := by
    rw [fol_app, fol_app]
    show fol b ((fol b (.fnd 0) (ms.take j.toNat)).join (.fnd 0) b) _ = _
    rw [join_end zt, ← fol_app, List.take_append_drop]
  rw [e2]
  clear e2 both
  refine hN1 _ _ (ss_step fun N2 hN2 => ?_)
  (try simp only [Fv.wSs, Fv.wS, Fv.wE, Fv.wT, Fv.wTs, Fv.wA, Fv.wO, Fv.wG, Fv.wGs, Fv.wI, Fv.wVar, Fv.wCst, Fv.wOp, Fv.wUn, Fv.wIte, Fv.wNil, Fv.wCons, Fv.wTup, Fv.wLst, Fv.wCall, Fv.wName, Fv.wGNil, Fv.wGCons, Fv.pBin, Fv.pCmp, Fv.pCmpB, Fv.pBn, Fv.pIsN, Fv.isNon, Fv.endP, List.getElem?_cons_zero, List.getElem?_cons_succ, List.set_cons_zero, List.set_cons_succ, List.map_cons, List.map_nil, List.zip_cons_cons, List.zip_nil_left, Option.map_some, decide_eq_true_eq, if_true, if_false, reduceCtorEq, ↓reduceIte, Bool.not_true, Bool.not_false, Bool.false_eq_true, Fv.pu_same, Fv.pu_pu, L2.ixN, Fv.atI_0, Fv.atI_1, Fv.atI_2, Fv.atI_3, Fv.atI_4, Fv.atI_5, List.length_cons, List.length_nil, Nat.reduceAdd, Int.reduceLT, Int.reduceLE, Int.cast_ofNat_Int, List.length_set, Nat.lt_add_one, true_and, Option.bind_some, Int.toNat_zero, Int.toNat_one, Int.reduceToNat, Nat.zero_add, Int.zero_lt_one, Int.reduceBEq, beq_self_eq_true, List.length_map, ite_true, ite_false, Int.reduceNeg, Fv.atI_last, List.getLast_cons_cons, List.getLast_singleton, Fv.kb_NoneType_tuple, Fv.kb_NoneType_int, Fv.kb_NoneType_bool, Fv.kb_NoneType_str, Fv.kb_NoneType_list, Fv.kb_NoneType_dict, Fv.kb_bool_tuple, Fv.kb_bool_int, Fv.kb_bool_bool, Fv.kb_bool_str, Fv.kb_bool_list, Fv.kb_bool_dict, Fv.kb_int_tuple, Fv.kb_int_int, Fv.kb_int_bool, Fv.kb_int_str, Fv.kb_int_list, Fv.kb_int_dict, Fv.kb_str_tuple, Fv.kb_str_int, Fv.kb_str_bool, Fv.kb_str_str, Fv.kb_str_list, Fv.kb_str_dict, Fv.kb_tuple_tuple, Fv.kb_tuple_int, Fv.kb_tuple_bool, Fv.kb_tuple_str, Fv.kb_tuple_list, Fv.kb_tuple_dict, Fv.kb_list_tuple, Fv.kb_list_int, Fv.kb_list_bool, Fv.kb_list_str, Fv.kb_list_list, Fv.kb_list_dict, Fv.kb_dict_tuple, Fv.kb_dict_int, Fv.kb_dict_bool, Fv.kb_dict_str, Fv.kb_dict_list, Fv.kb_dict_dict, Fv.o_add_ii, Fv.o_add_ss, Fv.o_add_tt, Fv.o_add_rr, Fv.o_sub_ii, Fv.o_mul_ii, Fv.o_mul_rk, Fv.o_mod_ii, Fv.o_div_ii, Fv.o_pow_ii, Fv.o_lt_ii, Fv.o_lt_ss, Fv.o_eq_nn, Fv.o_eq_ni, Fv.o_eq_in, Fv.o_eq_nb, Fv.o_eq_bn, Fv.o_eq_ns, Fv.o_eq_sn, Fv.o_eq_ii, Fv.o_eq_bb, Fv.o_eq_ss, Fv.o_eq_is, Fv.o_eq_si, Fv.o_eq_bs, Fv.o_eq_sb, Fv.o_eq_tt, Fv.o_eq_tr, Fv.o_eq_tn, Fv.o_eq_nt, Fv.o_eq_ti, Fv.o_eq_it, Fv.o_eq_tb, Fv.o_eq_bt, Fv.o_eq_ts, Fv.o_eq_st, Fv.o_eq_rt, Fv.o_eq_rr, Fv.o_eq_rn, Fv.o_eq_nr, Fv.o_eq_ri, Fv.o_eq_ir, Fv.o_eq_rb, Fv.o_eq_br, Fv.o_eq_rs, Fv.o_eq_sr, Fv.o_tru_n, Fv.o_tru_b, Fv.o_tru_i, Fv.o_tru_s, Fv.o_tru_t, Fv.o_tru_w, Fv.o_tru_r, Fv.o_idx_t, Fv.o_idx_w, Fv.o_idx_r, Fv.o_idx_s, Fv.o_idx_d, Fv.o_sl_t, Fv.o_sl_s, Fv.o_sl_r, Fv.o_isi_n, Fv.o_isi_b, Fv.o_isi_i, Fv.o_isi_s, Fv.o_isi_t, Fv.o_isi_w, Fv.o_isi_d, Fv.o_isi_r, Fv.o_len_t, Fv.o_len_w, Fv.o_len_s, Fv.o_len_r, Fv.o_abs, Fv.o_max, Fv.o_min, Fv.o_str, Fv.o_repr, Fv.o_tuple_t, Fv.o_tuple_r, Fv.o_list_t, Fv.o_list_r, Fv.o_set_r, Fv.o_in_t, Fv.o_in_w, Fv.o_in_r, Fv.o_in_s, Fv.o_in_d, Fv.setAll, eq_self, and_true])
  refine eq_self_mp _ ?_
  (try simp only [Fv.wSs, Fv.wS, Fv.wE, Fv.wT, Fv.wTs, Fv.wA, Fv.wO, Fv.wG, Fv.wGs, Fv.wI, Fv.wVar, Fv.wCst, Fv.wOp, Fv.wUn, Fv.wIte, Fv.wNil, Fv.wCons, Fv.wTup, Fv.wLst, Fv.wCall, Fv.wName, Fv.wGNil, Fv.wGCons, Fv.pBin, Fv.pCmp, Fv.pCmpB, Fv.pBn, Fv.pIsN, Fv.isNon, Fv.endP, List.getElem?_cons_zero, List.getElem?_cons_succ, List.set_cons_zero, List.set_cons_succ, List.map_cons, List.map_nil, List.zip_cons_cons, List.zip_nil_left, Option.map_some, decide_eq_true_eq, if_true, if_false, reduceCtorEq, ↓reduceIte, Bool.not_true, Bool.not_false, Bool.false_eq_true, Fv.pu_same, Fv.pu_pu, L2.ixN, Fv.atI_0, Fv.atI_1, Fv.atI_2, Fv.atI_3, Fv.atI_4, Fv.atI_5, List.length_cons, List.length_nil, Nat.reduceAdd, Int.reduceLT, Int.reduceLE, Int.cast_ofNat_Int, List.length_set, Nat.lt_add_one, true_and, Option.bind_some, Int.toNat_zero, Int.toNat_one, Int.reduceToNat, Nat.zero_add, Int.zero_lt_one, Int.reduceBEq, beq_self_eq_true, List.length_map, ite_true, ite_false, Int.reduceNeg, Fv.atI_last, List.getLast_cons_cons, List.getLast_singleton, Fv.kb_NoneType_tuple, Fv.kb_NoneType_int, Fv.kb_NoneType_bool, Fv.kb_NoneType_str, Fv.kb_NoneType_list, Fv.kb_NoneType_dict, Fv.kb_bool_tuple, Fv.kb_bool_int, Fv.kb_bool_bool, Fv.kb_bool_str, Fv.kb_bool_list, Fv.kb_bool_dict, Fv.kb_int_tuple, Fv.kb_int_int, Fv.kb_int_bool, Fv.kb_int_str, Fv.kb_int_list, Fv.kb_int_dict, Fv.kb_str_tuple, Fv.kb_str_int, Fv.kb_str_bool, Fv.kb_str_str, Fv.kb_str_list, Fv.kb_str_dict, Fv.kb_tuple_tuple, Fv.kb_tuple_int, Fv.kb_tuple_bool, Fv.kb_tuple_str, Fv.kb_tuple_list, Fv.kb_tuple_dict, Fv.kb_list_tuple, Fv.kb_list_int, Fv.kb_list_bool, Fv.kb_list_str, Fv.kb_list_list, Fv.kb_list_dict, Fv.kb_dict_tuple, Fv.kb_dict_int, Fv.kb_dict_bool, Fv.kb_dict_str, Fv.kb_dict_list, Fv.kb_dict_dict, Fv.o_add_ii, Fv.o_add_ss, Fv.o_add_tt, Fv.o_add_rr, Fv.o_sub_ii, Fv.o_mul_ii, Fv.o_mul_rk, Fv.o_mod_ii, Fv.o_div_ii, Fv.o_pow_ii, Fv.o_lt_ii, Fv.o_lt_ss, Fv.o_eq_nn, Fv.o_eq_ni, Fv.o_eq_in, Fv.o_eq_nb, Fv.o_eq_bn, Fv.o_eq_ns, Fv.o_eq_sn, Fv.o_eq_ii, Fv.o_eq_bb, Fv.o_eq_ss, Fv.o_eq_is, Fv.o_eq_si, Fv.o_eq_bs, Fv.o_eq_sb, Fv.o_eq_tt, Fv.o_eq_tr, Fv.o_eq_tn, Fv.o_eq_nt, Fv.o_eq_ti, Fv.o_eq_it, Fv.o_eq_tb, Fv.o_eq_bt, Fv.o_eq_ts, Fv.o_eq_st, Fv.o_eq_rt, Fv.o_eq_rr, Fv.o_eq_rn, Fv.o_eq_nr, Fv.o_eq_ri, Fv.o_eq_ir, Fv.o_eq_rb, Fv.o_eq_br, Fv.o_eq_rs, Fv.o_eq_sr, Fv.o_tru_n, Fv.o_tru_b, Fv.o_tru_i, Fv.o_tru_s, Fv.o_tru_t, Fv.o_tru_w, Fv.o_tru_r, Fv.o_idx_t, Fv.o_idx_w, Fv.o_idx_r, Fv.o_idx_s, Fv.o_idx_d, Fv.o_sl_t, Fv.o_sl_s, Fv.o_sl_r, Fv.o_isi_n, Fv.o_isi_b, Fv.o_isi_i, Fv.o_isi_s, Fv.o_isi_t, Fv.o_isi_w, Fv.o_isi_d, Fv.o_isi_r, Fv.o_len_t, Fv.o_len_w, Fv.o_len_s, Fv.o_len_r, Fv.o_abs, Fv.o_max, Fv.o_min, Fv.o_str, Fv.o_repr, Fv.o_tuple_t, Fv.o_tuple_r, Fv.o_list_t, Fv.o_list_r, Fv.o_set_r, Fv.o_in_t, Fv.o_in_w, Fv.o_in_r, Fv.o_in_s, Fv.o_in_d, Fv.setAll, eq_self, and_true])
  refine eq_self_mp _ ?_
  (try simp only [Fv.wSs, Fv.wS, Fv.wE, Fv.wT, Fv.wTs, Fv.wA, Fv.wO, Fv.wG, Fv.wGs, Fv.wI, Fv.wVar, Fv.wCst, Fv.wOp, Fv.wUn, Fv.wIte, Fv.wNil, Fv.wCons, Fv.wTup, Fv.wLst, Fv.wCall, Fv.wName, Fv.wGNil, Fv.wGCons, Fv.pBin, Fv.pCmp, Fv.pCmpB, Fv.pBn, Fv.pIsN, Fv.isNon, Fv.endP, List.getElem?_cons_zero, List.getElem?_cons_succ, List.set_cons_zero, List.set_cons_succ, List.map_cons, List.map_nil, List.zip_cons_cons, List.zip_nil_left, Option.map_some, decide_eq_true_eq, if_true, if_false, reduceCtorEq, ↓reduceIte, Bool.not_true, Bool.not_false, Bool.false_eq_true, Fv.pu_same, Fv.pu_pu, L2.ixN, Fv.atI_0, Fv.atI_1, Fv.atI_2, Fv.atI_3, Fv.atI_4, Fv.atI_5, List.length_cons, List.length_nil, Nat.reduceAdd, Int.reduceLT, Int.reduceLE, Int.cast_ofNat_Int, List.length_set, Nat.lt_add_one, true_and, Option.bind_some, Int.toNat_zero, Int.toNat_one, Int.reduceToNat, Nat.zero_add, Int.zero_lt_one, Int.reduceBEq, beq_self_eq_true, List.length_map, ite_true, ite_false, Int.reduceNeg, Fv.atI_last, List.getLast_cons_cons, List.getLast_singleton, Fv.kb_NoneType_tuple, Fv.kb_NoneType_int, Fv.kb_NoneType_bool, Fv.kb_NoneType_str, Fv.kb_NoneType_list, Fv.kb_NoneType_dict, Fv.kb_bool_tuple, Fv.kb_bool_int, Fv.kb_bool_bool, Fv.kb_bool_str, Fv.kb_bool_list, Fv.kb_bool_dict, Fv.kb_int_tuple, Fv.kb_int_int, Fv.kb_int_bool, Fv.kb_int_str, Fv.kb_int_list, Fv.kb_int_dict, Fv.kb_str_tuple, Fv.kb_str_int, Fv.kb_str_bool, Fv.kb_str_str, Fv.kb_str_list, Fv.kb_str_dict, Fv.kb_tuple_tuple, Fv.kb_tuple_int, Fv.kb_tuple_bool, Fv.kb_tuple_str, Fv.kb_tuple_list, Fv.kb_tuple_dict, Fv.kb_list_tuple, Fv.kb_list_int, Fv.kb_list_bool, Fv.kb_list_str, Fv.kb_list_list, Fv.kb_list_dict, Fv.kb_dict_tuple, Fv.kb_dict_int, Fv.kb_dict_bool, Fv.kb_dict_str, Fv.kb_dict_list, Fv.kb_dict_dict, Fv.o_add_ii, Fv.o_add_ss, Fv.o_add_tt, Fv.o_add_rr, Fv.o_sub_ii, Fv.o_mul_ii, Fv.o_mul_rk, Fv.o_mod_ii, Fv.o_div_ii, Fv.o_pow_ii, Fv.o_lt_ii, Fv.o_lt_ss, Fv.o_eq_nn, Fv.o_eq_ni, Fv.o_eq_in, Fv.o_eq_nb, Fv.o_eq_bn, Fv.o_eq_ns, Fv.o_eq_sn, Fv.o_eq_ii, Fv.o_eq_bb, Fv.o_eq_ss, Fv.o_eq_is, Fv.o_eq_si, Fv.o_eq_bs, Fv.o_eq_sb, Fv.o_eq_tt, Fv.o_eq_tr, Fv.o_eq_tn, Fv.o_eq_nt, Fv.o_eq_ti, Fv.o_eq_it, Fv.o_eq_tb, Fv.o_eq_bt, Fv.o_eq_ts, Fv.o_eq_st, Fv.o_eq_rt, Fv.o_eq_rr, Fv.o_eq_rn, Fv.o_eq_nr, Fv.o_eq_ri, Fv.o_eq_ir, Fv.o_eq_rb, Fv.o_eq_br, Fv.o_eq_rs, Fv.o_eq_sr, Fv.o_tru_n, Fv.o_tru_b, Fv.o_tru_i, Fv.o_tru_s, Fv.o_tru_t, Fv.o_tru_w, Fv.o_tru_r, Fv.o_idx_t, Fv.o_idx_w, Fv.o_idx_r, Fv.o_idx_s, Fv.o_idx_d, Fv.o_sl_t, Fv.o_sl_s, Fv.o_sl_r, Fv.o_isi_n, Fv.o_isi_b, Fv.o_isi_i, Fv.o_isi_s, Fv.o_isi_t, Fv.o_isi_w, Fv.o_isi_d, Fv.o_isi_r, Fv.o_len_t, Fv.o_len_w, Fv.o_len_s, Fv.o_len_r, Fv.o_abs, Fv.o_max, Fv.o_min, Fv.o_str, Fv.o_repr, Fv.o_tuple_t, Fv.o_tuple_r, Fv.o_list_t, Fv.o_list_r, Fv.o_set_r, Fv.o_in_t, Fv.o_in_w, Fv.o_in_r, Fv.o_in_s, Fv.o_in_d, Fv.setAll, eq_self, and_true])
  refine hN2 _ _ (ss_step fun N3 hN3 => ?_)
  (try simp only [Fv.wSs, Fv.wS, Fv.wE, Fv.wT, Fv.wTs, Fv.wA, Fv.wO, Fv.wG, Fv.wGs, Fv.wI, Fv.wVar, Fv.wCst, Fv.wOp, Fv.wUn, Fv.wIte, Fv.wNil, Fv.wCons, Fv.wTup, Fv.wLst, Fv.wCall, Fv.wName, Fv.wGNil, Fv.wGCons, Fv.pBin, Fv.pCmp, Fv.pCmpB, Fv.pBn, Fv.pIsN, Fv.isNon, Fv.endP, List.getElem?_cons_zero, List.getElem?_cons_succ, List.set_cons_zero, List.set_cons_succ, List.map_cons, List.map_nil, List.zip_cons_cons, List.zip_nil_left, Option.map_some, decide_eq_true_eq, if_true, if_false, reduceCtorEq, ↓reduceIte, Bool.not_true, Bool.not_false, Bool.false_eq_true, Fv.pu_same, Fv.pu_pu, L2.ixN, Fv.atI_0, Fv.atI_1, Fv.atI_2, Fv.atI_3, Fv.atI_4, Fv.atI_5, List.length_cons, List.length_nil, Nat.reduceAdd, Int.reduceLT, Int.reduceLE, Int.cast_ofNat_Int, List.length_set, Nat.lt_add_one, true_and, Option.bind_some, Int.toNat_zero, Int.toNat_one, Int.reduceToNat, Nat.zero_add, Int.zero_lt_one, Int.reduceBEq, beq_self_eq_true, List.length_map, ite_true, ite_false, Int.reduceNeg, Fv.atI_last, List.getLast_cons_cons, List.getLast_singleton, Fv.kb_NoneType_tuple, Fv.kb_NoneType_int, Fv.kb_NoneType_bool, Fv.kb_NoneType_str, Fv.kb_NoneType_list, Fv.kb_NoneType_dict, Fv.kb_bool_tuple, Fv.kb_bool_int, Fv.kb_bool_bool, Fv.kb_bool_str, Fv.kb_bool_list, Fv.kb_bool_dict, Fv.kb_int_tuple, Fv.kb_int_int, Fv.kb_int_bool, Fv.kb_int_str, Fv.kb_int_list, Fv.kb_int_dict, Fv.kb_str_tuple, Fv.kb_str_int, Fv.kb_str_bool, Fv.kb_str_str, Fv.kb_str_list, Fv.kb_str_dict, Fv.kb_tuple_tuple, Fv.kb_tuple_int, Fv.kb_tuple_bool, Fv.kb_tuple_str, Fv.kb_tuple_list, Fv.kb_tuple_dict, Fv.kb_list_tuple, Fv.kb_list_int, Fv.kb_list_bool, Fv.kb_list_str, Fv.kb_list_list, Fv.kb_list_dict, Fv.kb_dict_tuple, Fv.kb_dict_int, Fv.kb_dict_bool, Fv.kb_dict_str, Fv.kb_dict_list, Fv.kb_dict_dict, Fv.o_add_ii, Fv.o_add_ss, Fv.o_add_tt, Fv.o_add_rr, Fv.o_sub_ii, Fv.o_mul_ii, Fv.o_mul_rk, Fv.o_mod_ii, Fv.o_div_ii, Fv.o_pow_ii, Fv.o_lt_ii, Fv.o_lt_ss, Fv.o_eq_nn, Fv.o_eq_ni, Fv.o_eq_in, Fv.o_eq_nb, Fv.o_eq_bn, Fv.o_eq_ns, Fv.o_eq_sn, Fv.o_eq_ii, Fv.o_eq_bb, Fv.o_eq_ss, Fv.o_eq_is, Fv.o_eq_si, Fv.o_eq_bs, Fv.o_eq_sb, Fv.o_eq_tt, Fv.o_eq_tr, Fv.o_eq_tn, Fv.o_eq_nt, Fv.o_eq_ti, Fv.o_eq_it, Fv.o_eq_tb, Fv.o_eq_bt, Fv.o_eq_ts, Fv.o_eq_st, Fv.o_eq_rt, Fv.o_eq_rr, Fv.o_eq_rn, Fv.o_eq_nr, Fv.o_eq_ri, Fv.o_eq_ir, Fv.o_eq_rb, Fv.o_eq_br, Fv.o_eq_rs, Fv.o_eq_sr, Fv.o_tru_n, Fv.o_tru_b, Fv.o_tru_i, Fv.o_tru_s, Fv.o_tru_t, Fv.o_tru_w, Fv.o_tru_r, Fv.o_idx_t, Fv.o_idx_w, Fv.o_idx_r, Fv.o_idx_s, Fv.o_idx_d, Fv.o_sl_t, Fv.o_sl_s, Fv.o_sl_r, Fv.o_isi_n, Fv.o_isi_b, Fv.o_isi_i, Fv.o_isi_s, Fv.o_isi_t, Fv.o_isi_w, Fv.o_isi_d, Fv.o_isi_r, Fv.o_len_t, Fv.o_len_w, Fv.o_len_s, Fv.o_len_r, Fv.o_abs, Fv.o_max, Fv.o_min, Fv.o_str, Fv.o_repr, Fv.o_tuple_t, Fv.o_tuple_r, Fv.o_list_t, Fv.o_list_r, Fv.o_set_r, Fv.o_in_t, Fv.o_in_w, Fv.o_in_r, Fv.o_in_s, Fv.o_in_d, Fv.setAll, eq_self, and_true])
  refine composed_g (k + 2) [_, .num 1] hb (by simp) ?_
  show pEq G7 (.int 1) (.int 1) _
  (try simp only [Fv.wSs, Fv.wS, Fv.wE, Fv.wT, Fv.wTs, Fv.wA, Fv.wO, Fv.wG, Fv.wGs, Fv.wI, Fv.wVar, Fv.wCst, Fv.wOp, Fv.wUn, Fv.wIte, Fv.wNil, Fv.wCons, Fv.wTup, Fv.wLst, Fv.wCall, Fv.wName, Fv.wGNil, Fv.wGCons, Fv.pBin, Fv.pCmp, Fv.pCmpB, Fv.pBn, Fv.pIsN, Fv.isNon, Fv.endP, List.getElem?_cons_zero, List.getElem?_cons_succ, List.set_cons_zero, List.set_cons_succ, List.map_cons, List.map_nil, List.zip_cons_cons, List.zip_nil_left, Option.map_some, decide_eq_true_eq, if_true, if_false, reduceCtorEq, ↓reduceIte, Bool.not_true, Bool.not_false, Bool.false_eq_true, Fv.pu_same, Fv.pu_pu, L2.ixN, Fv.atI_0, Fv.atI_1, Fv.atI_2, Fv.atI_3, Fv.atI_4, Fv.atI_5, List.length_cons, List.length_nil, Nat.reduceAdd, Int.reduceLT, Int.reduceLE, Int.cast_ofNat_Int, List.length_set, Nat.lt_add_one, true_and, Option.bind_some, Int.toNat_zero, Int.toNat_one, Int.reduceToNat, Nat.zero_add, Int.zero_lt_one, Int.reduceBEq, beq_self_eq_true, List.length_map, ite_true, ite_false, Int.reduceNeg, Fv.atI_last, List.getLast_cons_cons, List.getLast_singleton, Fv.kb_NoneType_tuple, Fv.kb_NoneType_int, Fv.kb_NoneType_bool, Fv.kb_NoneType_str, Fv.kb_NoneType_list, Fv.kb_NoneType_dict, Fv.kb_bool_tuple, Fv.kb_bool_int, Fv.kb_bool_bool, Fv.kb_bool_str, Fv.kb_bool_list, Fv.kb_bool_dict, Fv.kb_int_tuple, Fv.kb_int_int, Fv.kb_int_bool, Fv.kb_int_str, Fv.kb_int_list, Fv.kb_int_dict, Fv.kb_str_tuple, Fv.kb_str_int, Fv.kb_str_bool, Fv.kb_str_str, Fv.kb_str_list, Fv.kb_str_dict, Fv.kb_tuple_tuple, Fv.kb_tuple_int, Fv.kb_tuple_bool, Fv.kb_tuple_str, Fv.kb_tuple_list, Fv.kb_tuple_dict, Fv.kb_list_tuple, Fv.kb_list_int, Fv.kb_list_bool, Fv.kb_list_str, Fv.kb_list_list, Fv.kb_list_dict, Fv.kb_dict_tuple, Fv.kb_dict_int, Fv.kb_dict_bool, Fv.kb_dict_str, Fv.kb_dict_list, Fv.kb_dict_dict, Fv.o_add_ii, Fv.o_add_ss, Fv.o_add_tt, Fv.o_add_rr, Fv.o_sub_ii, Fv.o_mul_ii, Fv.o_mul_rk, Fv.o_mod_ii, Fv.o_div_ii, Fv.o_pow_ii, Fv.o_lt_ii, Fv.o_lt_ss, Fv.o_eq_nn, Fv.o_eq_ni, Fv.o_eq_in, Fv.o_eq_nb, Fv.o_eq_bn, Fv.o_eq_ns, Fv.o_eq_sn, Fv.o_eq_ii, Fv.o_eq_bb, Fv.o_eq_ss, Fv.o_eq_is, Fv.o_eq_si, Fv.o_eq_bs, Fv.o_eq_sb, Fv.o_eq_tt, Fv.o_eq_tr, Fv.o_eq_tn, Fv.o_eq_nt, Fv.o_eq_ti, Fv.o_eq_it, Fv.o_eq_tb, Fv.o_eq_bt, Fv.o_eq_ts, Fv.o_eq_st, Fv.o_eq_rt, Fv.o_eq_rr, Fv.o_eq_rn, Fv.o_eq_nr, Fv.o_eq_ri, Fv.o_eq_ir, Fv.o_eq_rb, Fv.o_eq_br, Fv.o_eq_rs, Fv.o_eq_sr, Fv.o_tru_n, Fv.o_tru_b, Fv.o_tru_i, Fv.o_tru_s, Fv.o_tru_t, Fv.o_tru_w, Fv.o_tru_r, Fv.o_idx_t, Fv.o_idx_w, Fv.o_idx_r, Fv.o_idx_s, Fv.o_idx_d, Fv.o_sl_t, Fv.o_sl_s, Fv.o_sl_r, Fv.o_isi_n, Fv.o_isi_b, Fv.o_isi_i, Fv.o_isi_s, Fv.o_isi_t, Fv.o_isi_w, Fv.o_isi_d, Fv.o_isi_r, Fv.o_len_t, Fv.o_len_w, Fv.o_len_s, Fv.o_len_r, Fv.o_abs, Fv.o_max, Fv.o_min, Fv.o_str, Fv.o_repr, Fv.o_tuple_t, Fv.o_tuple_r, Fv.o_list_t, Fv.o_list_r, Fv.o_set_r, Fv.o_in_t, Fv.o_in_w, Fv.o_in_r, Fv.o_in_s, Fv.o_in_d, Fv.setAll, eq_self, and_true])
  exact hN3 _ _ (ss_nil (q _ _ _ b7))
theorem repr_ok {m : Mp} {b : Int} (h : m.ok b) (hb : b < 2 ^ 62) (G : PH) : SeqAt.shaped (datH G 60 m.pv) = true ∧ (datH G 60 m.pv).showable = true ∧ (datH G 60 m.pv).shown.length ≤ sizeLine := by
  simp only [Mp.dat_pv]
  exact ⟨Mp.shaped m, Mp.showable h hb, Mp.short h hb⟩
theorem allB_map : ∀ bs : List Bool, allB (bs.map PV.bl) = some bs
  | [] => rfl
  | b :: bs => by simp [allB, allB_map bs]
/-- each number -/
theorem numbers (k : Nat) {b : Int} {ms : List Mp} {s : Addr} {D : PD} {G : PH} (hs : G s = some (.lst (ms.map Mp.pv))) (hok : ∀ m ∈ ms, m.ok b) (hb : 2 ≤ b) (hb2 : b ≤ 5) (x0 x1 x2 x4 x7 x8 x9 x10 x11 x12 x13 : Option PV)
    (q : ∀ x8, wSs (run Γ gl (k + 5)) blaw_f2_3 D [x0, x1, x2, some (.int b), x4, some (.ref s), some (fol b (.fnd 0) ms).pv, x7, x8, x9, x10, x11, x12, x13] G) :
    wSs (run Γ gl (k + 5)) blaw_f2_2 D [x0, x1, x2, some (.int b), x4, some (.ref s), some (fol b (.fnd 0) ms).pv, x7, x8, x9, x10, x11, x12, x13] G := by
  refine ss_step fun N hN => ?_
  (try simp only [Fv.wSs, Fv.wS, Fv.wE, Fv.wT, Fv.wTs, Fv.wA, Fv.wO, Fv.wG, Fv.wGs, Fv.wI, Fv.wVar, Fv.wCst, Fv.wOp, Fv.wUn, Fv.wIte, Fv.wNil, Fv.wCons, Fv.wTup, Fv.wLst, Fv.wCall, Fv.wName, Fv.wGNil, Fv.wGCons, Fv.pBin, Fv.pCmp, Fv.pCmpB, Fv.pBn, Fv.pIsN, Fv.isNon, Fv.endP, List.getElem?_cons_zero, List.getElem?_cons_succ, List.set_cons_zero, List.set_cons_succ, List.map_cons, List.map_nil, List.zip_cons_cons, List.zip_nil_left, Option.map_some, decide_eq_true_eq, if_true, if_false, reduceCtorEq, ↓reduceIte, Bool.not_true, Bool.not_false, Bool.false_eq_true, Fv.pu_same, Fv.pu_pu, L2.ixN, Fv.atI_0, Fv.atI_1, Fv.atI_2, Fv.atI_3, Fv.atI_4, Fv.atI_5, List.length_cons, List.length_nil, Nat.reduceAdd, Int.reduceLT, Int.reduceLE, Int.cast_ofNat_Int, List.length_set, Nat.lt_add_one, true_and, Option.bind_some, Int.toNat_zero, Int.toNat_one, Int.reduceToNat, Nat.zero_add, Int.zero_lt_one, Int.reduceBEq, beq_self_eq_true, List.length_map, ite_true, ite_false, Int.reduceNeg, Fv.atI_last, List.getLast_cons_cons, List.getLast_singleton, Fv.kb_NoneType_tuple, Fv.kb_NoneType_int, Fv.kb_NoneType_bool, Fv.kb_NoneType_str, Fv.kb_NoneType_list, Fv.kb_NoneType_dict, Fv.kb_bool_tuple, Fv.kb_bool_int, Fv.kb_bool_bool, Fv.kb_bool_str, Fv.kb_bool_list, Fv.kb_bool_dict, Fv.kb_int_tuple, Fv.kb_int_int, Fv.kb_int_bool, Fv.kb_int_str, Fv.kb_int_list, Fv.kb_int_dict, Fv.kb_str_tuple, Fv.kb_str_int, Fv.kb_str_bool, Fv.kb_str_str, Fv.kb_str_list, Fv.kb_str_dict, Fv.kb_tuple_tuple, Fv.kb_tuple_int, Fv.kb_tuple_bool, Fv.kb_tuple_str, Fv.kb_tuple_list, Fv.kb_tuple_dict, Fv.kb_list_tuple, Fv.kb_list_int, Fv.kb_list_bool, Fv.kb_list_str, Fv.kb_list_list, Fv.kb_list_dict, Fv.kb_dict_tuple, Fv.kb_dict_int, Fv.kb_dict_bool, Fv.kb_dict_str, Fv.kb_dict_list, Fv.kb_dict_dict, Fv.o_add_ii, Fv.o_add_ss, Fv.o_add_tt, Fv.o_add_rr, Fv.o_sub_ii, Fv.o_mul_ii, Fv.o_mul_rk, Fv.o_mod_ii, Fv.o_div_ii, Fv.o_pow_ii, Fv.o_lt_ii, Fv.o_lt_ss, Fv.o_eq_nn, Fv.o_eq_ni, Fv.o_eq_in, Fv.o_eq_nb, Fv.o_eq_bn, Fv.o_eq_ns, Fv.o_eq_sn, Fv.o_eq_ii, Fv.o_eq_bb, Fv.o_eq_ss, Fv.o_eq_is, Fv.o_eq_si, Fv.o_eq_bs, Fv.o_eq_sb, Fv.o_eq_tt, Fv.o_eq_tr, Fv.o_eq_tn, Fv.o_eq_nt, Fv.o_eq_ti, Fv.o_eq_it, Fv.o_eq_tb, Fv.o_eq_bt, Fv.o_eq_ts, Fv.o_eq_st, Fv.o_eq_rt, Fv.o_eq_rr, Fv.o_eq_rn, Fv.o_eq_nr, Fv.o_eq_ri, Fv.o_eq_ir, Fv.o_eq_rb, Fv.o_eq_br, Fv.o_eq_rs, Fv.o_eq_sr, Fv.o_tru_n, Fv.o_tru_b, Fv.o_tru_i, Fv.o_tru_s, Fv.o_tru_t, Fv.o_tru_w, Fv.o_tru_r, Fv.o_idx_t, Fv.o_idx_w, Fv.o_idx_r, Fv.o_idx_s, Fv.o_idx_d, Fv.o_sl_t, Fv.o_sl_s, Fv.o_sl_r, Fv.o_isi_n, Fv.o_isi_b, Fv.o_isi_i, Fv.o_isi_s, Fv.o_isi_t, Fv.o_isi_w, Fv.o_isi_d, Fv.o_isi_r, Fv.o_len_t, Fv.o_len_w, Fv.o_len_s, Fv.o_len_r, Fv.o_abs, Fv.o_max, Fv.o_min, Fv.o_str, Fv.o_repr, Fv.o_tuple_t, Fv.o_tuple_r, Fv.o_list_t, Fv.o_list_r, Fv.o_set_r, Fv.o_in_t, Fv.o_in_w, Fv.o_in_r, Fv.o_in_s, Fv.o_in_d, Fv.setAll, eq_self, and_true])
  refine ⟨by omega, by omega, ?_⟩
  rw [range_ints]
  refine for_inv (fun xs σ G1 => ∃ (r : List Int) (x8 : Option PV), xs = r.map PV.int ∧ (∀ i ∈ r, 0 ≤ i ∧ i < b) ∧ G1 = G ∧ σ = [x0, x1, x2, some (.int b), x4, some (.ref s), some (fol b (.fnd 0) ms).pv, x7, x8, x9, x10, x11, x12, x13])
    ⟨_, _, rfl, fun i hi => by have := range_mem hi; omega, rfl, rfl⟩ (fun _ _ _ _ => kept_nil) ?_ ?_
  · rintro σ G1 ⟨r, x8, -, -, rfl, rfl⟩
    exact hN _ _ (q _)
  · rintro x xs σ G1 R ⟨r, x8, e, hr, rfl, rfl⟩ hR
    cases r with
    | nil => cases e
    | cons i r =>
      cases e
      have hi := hr i List.mem_cons_self
      (try simp only [Fv.wSs, Fv.wS, Fv.wE, Fv.wT, Fv.wTs, Fv.wA, Fv.wO, Fv.wG, Fv.wGs, Fv.wI, Fv.wVar, Fv.wCst, Fv.wOp, Fv.wUn, Fv.wIte, Fv.wNil, Fv.wCons, Fv.wTup, Fv.wLst, Fv.wCall, Fv.wName, Fv.wGNil, Fv.wGCons, Fv.pBin, Fv.pCmp, Fv.pCmpB, Fv.pBn, Fv.pIsN, Fv.isNon, Fv.endP, List.getElem?_cons_zero, List.getElem?_cons_succ, List.set_cons_zero, List.set_cons_succ, List.map_cons, List.map_nil, List.zip_cons_cons, List.zip_nil_left, Option.map_some, decide_eq_true_eq, if_true, if_false, reduceCtorEq, ↓reduceIte, Bool.not_true, Bool.not_false, Bool.false_eq_true, Fv.pu_same, Fv.pu_pu, L2.ixN, Fv.atI_0, Fv.atI_1, Fv.atI_2, Fv.atI_3, Fv.atI_4, Fv.atI_5, List.length_cons, List.length_nil, Nat.reduceAdd, Int.reduceLT, Int.reduceLE, Int.cast_ofNat_Int, List.length_set, Nat.lt_add_one, true_and, Option.bind_some, Int.toNat_zero, Int.toNat_one, Int.reduceToNat, Nat.zero_add, Int.zero_lt_one, Int.reduceBEq, beq_self_eq_true, List.length_map, ite_true, ite_false, Int.reduceNeg, Fv.atI_last, List.getLast_cons_cons, List.getLast_singleton, Fv.kb_NoneType_tuple, Fv.kb_NoneType_int, Fv.kb_NoneType_bool, Fv.kb_NoneType_str, Fv.kb_NoneType_list, Fv.kb_NoneType_dict, Fv.kb_bool_tuple, Fv.kb_bool_int, Fv.kb_bool_bool, Fv.kb_bool_str, Fv.kb_bool_list, Fv.kb_bool_dict, Fv.kb_int_tuple, Fv.kb_int_int, Fv.kb_int_bool, Fv.kb_int_str, Fv.kb_int_list, Fv.kb_int_dict, Fv.kb_str_tuple, Fv.kb_str_int, Fv.kb_str_bool, Fv.kb_str_str, Fv.kb_str_list, Fv.kb_str_dict, Fv.kb_tuple_tuple, Fv.kb_tuple_int, Fv.kb_tuple_bool, Fv.kb_tuple_str, Fv.kb_tuple_list, Fv.kb_tuple_dict, Fv.kb_list_tuple, Fv.kb_list_int, Fv.kb_list_bool, Fv.kb_list_str, Fv.kb_list_list, Fv.kb_list_dict, Fv.kb_dict_tuple, Fv.kb_dict_int, Fv.kb_dict_bool, Fv.kb_dict_str, Fv.kb_dict_list, Fv.kb_dict_dict, Fv.o_add_ii, Fv.o_add_ss, Fv.o_add_tt, Fv.o_add_rr, Fv.o_sub_ii, Fv.o_mul_ii, Fv.o_mul_rk, Fv.o_mod_ii, Fv.o_div_ii, Fv.o_pow_ii, Fv.o_lt_ii, Fv.o_lt_ss, Fv.o_eq_nn, Fv.o_eq_ni, Fv.o_eq_in, Fv.o_eq_nb, Fv.o_eq_bn, Fv.o_eq_ns, Fv.o_eq_sn, Fv.o_eq_ii, Fv.o_eq_bb, Fv.o_eq_ss, Fv.o_eq_is, Fv.o_eq_si, Fv.o_eq_bs, Fv.o_eq_sb, Fv.o_eq_tt, Fv.o_eq_tr, Fv.o_eq_tn, Fv.o_eq_nt, Fv.o_eq_ti, Fv.o_eq_it, Fv.o_eq_tb, Fv.o_eq_bt, Fv.o_eq_ts, Fv.o_eq_st, Fv.o_eq_rt, Fv.o_eq_rr, Fv.o_eq_rn, Fv.o_eq_nr, Fv.o_eq_ri, Fv.o_eq_ir, Fv.o_eq_rb, Fv.o_eq_br, Fv.o_eq_rs, Fv.o_eq_sr, Fv.o_tru_n, Fv.o_tru_b, Fv.o_tru_i, Fv.o_tru_s, Fv.o_tru_t, Fv.o_tru_w, Fv.o_tru_r, Fv.o_idx_t, Fv.o_idx_w, Fv.o_idx_r, Fv.o_idx_s, Fv.o_idx_d, Fv.o_sl_t, Fv.o_sl_s, Fv.o_sl_r, Fv.o_isi_n, Fv.o_isi_b, Fv.o_isi_i, Fv.o_isi_s, Fv.o_isi_t, Fv.o_isi_w, Fv.o_isi_d, Fv.o_isi_r, Fv.o_len_t, Fv.o_len_w, Fv.o_len_s, Fv.o_len_r, Fv.o_abs, Fv.o_max, Fv.o_min, Fv.o_str, Fv.o_repr, Fv.o_tuple_t, Fv.o_tuple_r, Fv.o_list_t, Fv.o_list_r, Fv.o_set_r, Fv.o_in_t, Fv.o_in_w, Fv.o_in_r, Fv.o_in_s, Fv.o_in_d, Fv.setAll, eq_self, and_true])
      refine ss_step fun N1 hN1 => ?_
      (try simp only [Fv.wSs, Fv.wS, Fv.wE, Fv.wT, Fv.wTs, Fv.wA, Fv.wO, Fv.wG, Fv.wGs, Fv.wI, Fv.wVar, Fv.wCst, Fv.wOp, Fv.wUn, Fv.wIte, Fv.wNil, Fv.wCons, Fv.wTup, Fv.wLst, Fv.wCall, Fv.wName, Fv.wGNil, Fv.wGCons, Fv.pBin, Fv.pCmp, Fv.pCmpB, Fv.pBn, Fv.pIsN, Fv.isNon, Fv.endP, List.getElem?_cons_zero, List.getElem?_cons_succ, List.set_cons_zero, List.set_cons_succ, List.map_cons, List.map_nil, List.zip_cons_cons, List.zip_nil_left, Option.map_some, decide_eq_true_eq, if_true, if_false, reduceCtorEq, ↓reduceIte, Bool.not_true, Bool.not_false, Bool.false_eq_true, Fv.pu_same, Fv.pu_pu, L2.ixN, Fv.atI_0, Fv.atI_1, Fv.atI_2, Fv.atI_3, Fv.atI_4, Fv.atI_5, List.length_cons, List.length_nil, Nat.reduceAdd, Int.reduceLT, Int.reduceLE, Int.cast_ofNat_Int, List.length_set, Nat.lt_add_one, true_and, Option.bind_some, Int.toNat_zero, Int.toNat_one, Int.reduceToNat, Nat.zero_add, Int.zero_lt_one, Int.reduceBEq, beq_self_eq_true, List.length_map, ite_true, ite_false, Int.reduceNeg, Fv.atI_last, List.getLast_cons_cons, List.getLast_singleton, Fv.kb_NoneType_tuple, Fv.kb_NoneType_int, Fv.kb_NoneType_bool, Fv.kb_NoneType_str, Fv.kb_NoneType_list, Fv.kb_NoneType_dict, Fv.kb_bool_tuple, Fv.kb_bool_int, Fv.kb_bool_bool, Fv.kb_bool_str, Fv.kb_bool_list, Fv.kb_bool_dict, Fv.kb_int_tuple, Fv.kb_int_int, Fv.kb_int_bool, Fv.kb_int_str, Fv.kb_int_list, Fv.kb_int_dict, Fv.kb_str_tuple, Fv.kb_str_int, Fv.kb_str_bool, Fv.kb_str_str, Fv.kb_str_list, Fv.kb_str_dict, Fv.kb_tuple_tuple, Fv.kb_tuple_int, Fv.kb_tuple_bool, Fv.kb_tuple_str, Fv.kb_tuple_list, Fv.kb_tuple_dict, Fv.kb_list_tuple, Fv.kb_list_int, Fv.kb_list_bool, Fv.kb_list_str, Fv.kb_list_list, Fv.kb_list_dict, Fv.kb_dict_tuple, Fv.kb_dict_int, Fv.kb_dict_bool, Fv.kb_dict_str, Fv.kb_dict_list, Fv.kb_dict_dict, Fv.o_add_ii, Fv.o_add_ss, Fv.o_add_tt, Fv.o_add_rr, Fv.o_sub_ii, Fv.o_mul_ii, Fv.o_mul_rk, Fv.o_mod_ii, Fv.o_div_ii, Fv.o_pow_ii, Fv.o_lt_ii, Fv.o_lt_ss, Fv.o_eq_nn, Fv.o_eq_ni, Fv.o_eq_in, Fv.o_eq_nb, Fv.o_eq_bn, Fv.o_eq_ns, Fv.o_eq_sn, Fv.o_eq_ii, Fv.o_eq_bb, Fv.o_eq_ss, Fv.o_eq_is, Fv.o_eq_si, Fv.o_eq_bs, Fv.o_eq_sb, Fv.o_eq_tt, Fv.o_eq_tr, Fv.o_eq_tn, Fv.o_eq_nt, Fv.o_eq_ti, Fv.o_eq_it, Fv.o_eq_tb, Fv.o_eq_bt, Fv.o_eq_ts, Fv.o_eq_st, Fv.o_eq_rt, Fv.o_eq_rr, Fv.o_eq_rn, Fv.o_eq_nr, Fv.o_eq_ri, Fv.o_eq_ir, Fv.o_eq_rb, Fv.o_eq_br, Fv.o_eq_rs, Fv.o_eq_sr, Fv.o_tru_n, Fv.o_tru_b, Fv.o_tru_i, Fv.o_tru_s, Fv.o_tru_t, Fv.o_tru_w, Fv.o_tru_r, Fv.o_idx_t, Fv.o_idx_w, Fv.o_idx_r, Fv.o_idx_s, Fv.o_idx_d, Fv.o_sl_t, Fv.o_sl_s, Fv.o_sl_r, Fv.o_isi_n, Fv.o_isi_b, Fv.o_isi_i, Fv.o_isi_s, Fv.o_isi_t, Fv.o_isi_w, Fv.o_isi_d, Fv.o_isi_r, Fv.o_len_t, Fv.o_len_w, Fv.o_len_s, Fv.o_len_r, Fv.o_abs, Fv.o_max, Fv.o_min, Fv.o_str, Fv.o_repr, Fv.o_tuple_t, Fv.o_tuple_r, Fv.o_list_t, Fv.o_list_r, Fv.o_set_r, Fv.o_in_t, Fv.o_in_w, Fv.o_in_r, Fv.o_in_s, Fv.o_in_d, Fv.setAll, eq_self, and_true])
      refine s_apply g_apply (k + 4) (fol b (.fnd 0) ms) (by omega) ?_
      refine s_walked (k + 3) ms hs (by omega) ?_
      have e0 : (Mp.fnd 0).app i b = i := by simp only [Mp.app, Int.add_zero]; rw [Int.emod_eq_of_lt hi.1 hi.2]
      have e1 := app_fol (b := b) (x := i) ms (.fnd 0)
      rw [e0] at e1
      rw [e1]
      (try simp only [Fv.wSs, Fv.wS, Fv.wE, Fv.wT, Fv.wTs, Fv.wA, Fv.wO, Fv.wG, Fv.wGs, Fv.wI, Fv.wVar, Fv.wCst, Fv.wOp, Fv.wUn, Fv.wIte, Fv.wNil, Fv.wCons, Fv.wTup, Fv.wLst, Fv.wCall, Fv.wName, Fv.wGNil, Fv.wGCons, Fv.pBin, Fv.pCmp, Fv.pCmpB, Fv.pBn, Fv.pIsN, Fv.isNon, Fv.endP, List.getElem?_cons_zero, List.getElem?_cons_succ, List.set_cons_zero, List.set_cons_succ, List.map_cons, List.map_nil, List.zip_cons_cons, List.zip_nil_left, Option.map_some, decide_eq_true_eq, if_true, if_false, reduceCtorEq, ↓reduceIte, Bool.not_true, Bool.not_false, Bool.false_eq_true, Fv.pu_same, Fv.pu_pu, L2.ixN, Fv.atI_0, Fv.atI_1, Fv.atI_2, Fv.atI_3, Fv.atI_4, Fv.atI_5, List.length_cons, List.length_nil, Nat.reduceAdd, Int.reduceLT, Int.reduceLE, Int.cast_ofNat_Int, List.length_set, Nat.lt_add_one, true_and, Option.bind_some, Int.toNat_zero, Int.toNat_one, Int.reduceToNat, Nat.zero_add, Int.zero_lt_one, Int.reduceBEq, beq_self_eq_true, List.length_map, ite_true, ite_false, Int.reduceNeg, Fv.atI_last, List.getLast_cons_cons, List.getLast_singleton, Fv.kb_NoneType_tuple, Fv.kb_NoneType_int, Fv.kb_NoneType_bool, Fv.kb_NoneType_str, Fv.kb_NoneType_list, Fv.kb_NoneType_dict, Fv.kb_bool_tuple, Fv.kb_bool_int, Fv.kb_bool_bool, Fv.kb_bool_str, Fv.kb_bool_list, Fv.kb_bool_dict, Fv.kb_int_tuple, Fv.kb_int_int, Fv.kb_int_bool, Fv.kb_int_str, Fv.kb_int_list, Fv.kb_int_dict, Fv.kb_str_tuple, Fv.kb_str_int, Fv.kb_str_bool, Fv.kb_str_str, Fv.kb_str_list, Fv.kb_str_dict, Fv.kb_tuple_tuple, Fv.kb_tuple_int, Fv.kb_tuple_bool, Fv.kb_tuple_str, Fv.kb_tuple_list, Fv.kb_tuple_dict, Fv.kb_list_tuple, Fv.kb_list_int, Fv.kb_list_bool, Fv.kb_list_str, Fv.kb_list_list, Fv.kb_list_dict, Fv.kb_dict_tuple, Fv.kb_dict_int, Fv.kb_dict_bool, Fv.kb_dict_str, Fv.kb_dict_list, Fv.kb_dict_dict, Fv.o_add_ii, Fv.o_add_ss, Fv.o_add_tt, Fv.o_add_rr, Fv.o_sub_ii, Fv.o_mul_ii, Fv.o_mul_rk, Fv.o_mod_ii, Fv.o_div_ii, Fv.o_pow_ii, Fv.o_lt_ii, Fv.o_lt_ss, Fv.o_eq_nn, Fv.o_eq_ni, Fv.o_eq_in, Fv.o_eq_nb, Fv.o_eq_bn, Fv.o_eq_ns, Fv.o_eq_sn, Fv.o_eq_ii, Fv.o_eq_bb, Fv.o_eq_ss, Fv.o_eq_is, Fv.o_eq_si, Fv.o_eq_bs, Fv.o_eq_sb, Fv.o_eq_tt, Fv.o_eq_tr, Fv.o_eq_tn, Fv.o_eq_nt, Fv.o_eq_ti, Fv.o_eq_it, Fv.o_eq_tb, Fv.o_eq_bt, Fv.o_eq_ts, Fv.o_eq_st, Fv.o_eq_rt, Fv.o_eq_rr, Fv.o_eq_rn, Fv.o_eq_nr, Fv.o_eq_ri, Fv.o_eq_ir, Fv.o_eq_rb, Fv.o_eq_br, Fv.o_eq_rs, Fv.o_eq_sr, Fv.o_tru_n, Fv.o_tru_b, Fv.o_tru_i, Fv.o_tru_s, Fv.o_tru_t, Fv.o_tru_w, Fv.o_tru_r, Fv.o_idx_t, Fv.o_idx_w, Fv.o_idx_r, Fv.o_idx_s, Fv.o_idx_d, Fv.o_sl_t, Fv.o_sl_s, Fv.o_sl_r, Fv.o_isi_n, Fv.o_isi_b, Fv.o_isi_i, Fv.o_isi_s, Fv.o_isi_t, Fv.o_isi_w, Fv.o_isi_d, Fv.o_isi_r, Fv.o_len_t, Fv.o_len_w, Fv.o_len_s, Fv.o_len_r, Fv.o_abs, Fv.o_max, Fv.o_min, Fv.o_str, Fv.o_repr, Fv.o_tuple_t, Fv.o_tuple_r, Fv.o_list_t, Fv.o_list_r, Fv.o_set_r, Fv.o_in_t, Fv.o_in_w, Fv.o_in_r, Fv.o_in_s, Fv.o_in_d, Fv.setAll, eq_self, and_true])
      exact hN1 _ _ (ss_nil (hR _ _ _ (Sub.refl _) ⟨r, _, rfl, fun i hi => hr i (List.mem_cons_of_mem _ hi), rfl, rfl⟩))
/-- all pieces -/
theorem pieces (k : Nat) {b : Int} {ms : List Mp} {s : Addr} {D : PD} {G : PH} (hs : G s = some (.lst (ms.map Mp.pv))) (hok : ∀ m ∈ ms, m.ok b) (hl : ms.length ≤ 6) (hb : 2 ≤ b) (hb2 : b ≤ 5) (x0 x1 x2 x4 x8 x9 x10 x11 x12 x13 : Option PV)
    (q : ∀ x9 x10 x11, wSs (run Γ gl (k + 5)) blaw_f2_4 D [x0, x1, x2, some (.int b), x4, some (.ref s), some (fol b (.fnd 0) ms).pv, some (Mp.fnd 0).pv, x8, x9, x10, x11, x12, x13] G) :
    wSs (run Γ gl (k + 5)) blaw_f2_3 D [x0, x1, x2, some (.int b), x4, some (.ref s), some (fol b (.fnd 0) ms).pv, some (Mp.fnd 0).pv, x8, x9, x10, x11, x12, x13] G := by
  refine ss_step fun N hN => ?_
  (try simp only [Fv.wSs, Fv.wS, Fv.wE, Fv.wT, Fv.wTs, Fv.wA, Fv.wO, Fv.wG, Fv.wGs, Fv.wI, Fv.wVar, Fv.wCst, Fv.wOp, Fv.wUn, Fv.wIte, Fv.wNil, Fv.wCons, Fv.wTup, Fv.wLst, Fv.wCall, Fv.wName, Fv.wGNil, Fv.wGCons, Fv.pBin, Fv.pCmp, Fv.pCmpB, Fv.pBn, Fv.pIsN, Fv.isNon, Fv.endP, List.getElem?_cons_zero, List.getElem?_cons_succ, List.set_cons_zero, List.set_cons_succ, List.map_cons, List.map_nil, List.zip_cons_cons, List.zip_nil_left, Option.map_some, decide_eq_true_eq, if_true, if_false, reduceCtorEq, ↓reduceIte, Bool.not_true, Bool.not_false, Bool.false_eq_true, Fv.pu_same, Fv.pu_pu, L2.ixN, Fv.atI_0, Fv.atI_1, Fv.atI_2, Fv.atI_3, Fv.atI_4, Fv.atI_5, List.length_cons, List.length_nil, Nat.reduceAdd, Int.reduceLT, Int.reduceLE, Int.cast_ofNat_Int, List.length_set, Nat.lt_add_one, true_and, Option.bind_some, Int.toNat_zero, Int.toNat_one, Int.reduceToNat, Nat.zero_add, Int.zero_lt_one, Int.reduceBEq, beq_self_eq_true, List.length_map, ite_true, ite_false, Int.reduceNeg, Fv.atI_last, List.getLast_cons_cons, List.getLast_singleton, Fv.kb_NoneType_tuple, Fv.kb_NoneType_int, Fv.kb_NoneType_bool, Fv.kb_NoneType_str, Fv.kb_NoneType_list, Fv.kb_NoneType_dict, Fv.kb_bool_tuple, Fv.kb_bool_int, Fv.kb_bool_bool, Fv.kb_bool_str, Fv.kb_bool_list, Fv.kb_bool_dict, Fv.kb_int_tuple, Fv.kb_int_int, Fv.kb_int_bool, Fv.kb_int_str, Fv.kb_int_list, Fv.kb_int_dict, Fv.kb_str_tuple, Fv.kb_str_int, Fv.kb_str_bool, Fv.kb_str_str, Fv.kb_str_list, Fv.kb_str_dict, Fv.kb_tuple_tuple, Fv.kb_tuple_int, Fv.kb_tuple_bool, Fv.kb_tuple_str, Fv.kb_tuple_list, Fv.kb_tuple_dict, Fv.kb_list_tuple, Fv.kb_list_int, Fv.kb_list_bool, Fv.kb_list_str, Fv.kb_list_list, Fv.kb_list_dict, Fv.kb_dict_tuple, Fv.kb_dict_int, Fv.kb_dict_bool, Fv.kb_dict_str, Fv.kb_dict_list, Fv.kb_dict_dict, Fv.o_add_ii, Fv.o_add_ss, Fv.o_add_tt, Fv.o_add_rr, Fv.o_sub_ii, Fv.o_mul_ii, Fv.o_mul_rk, Fv.o_mod_ii, Fv.o_div_ii, Fv.o_pow_ii, Fv.o_lt_ii, Fv.o_lt_ss, Fv.o_eq_nn, Fv.o_eq_ni, Fv.o_eq_in, Fv.o_eq_nb, Fv.o_eq_bn, Fv.o_eq_ns, Fv.o_eq_sn, Fv.o_eq_ii, Fv.o_eq_bb, Fv.o_eq_ss, Fv.o_eq_is, Fv.o_eq_si, Fv.o_eq_bs, Fv.o_eq_sb, Fv.o_eq_tt, Fv.o_eq_tr, Fv.o_eq_tn, Fv.o_eq_nt, Fv.o_eq_ti, Fv.o_eq_it, Fv.o_eq_tb, Fv.o_eq_bt, Fv.o_eq_ts, Fv.o_eq_st, Fv.o_eq_rt, Fv.o_eq_rr, Fv.o_eq_rn, Fv.o_eq_nr, Fv.o_eq_ri, Fv.o_eq_ir, Fv.o_eq_rb, Fv.o_eq_br, Fv.o_eq_rs, Fv.o_eq_sr, Fv.o_tru_n, Fv.o_tru_b, Fv.o_tru_i, Fv.o_tru_s, Fv.o_tru_t, Fv.o_tru_w, Fv.o_tru_r, Fv.o_idx_t, Fv.o_idx_w, Fv.o_idx_r, Fv.o_idx_s, Fv.o_idx_d, Fv.o_sl_t, Fv.o_sl_s, Fv.o_sl_r, Fv.o_isi_n, Fv.o_isi_b, Fv.o_isi_i, Fv.o_isi_s, Fv.o_isi_t, Fv.o_isi_w, Fv.o_isi_d, Fv.o_isi_r, Fv.o_len_t, Fv.o_len_w, Fv.o_len_s, Fv.o_len_r, Fv.o_abs, Fv.o_max, Fv.o_min, Fv.o_str, Fv.o_repr, Fv.o_tuple_t, Fv.o_tuple_r, Fv.o_list_t, Fv.o_list_r, Fv.o_set_r, Fv.o_in_t, Fv.o_in_w, Fv.o_in_r, Fv.o_in_s, Fv.o_in_d, Fv.setAll, eq_self, and_true, hs])
  refine ⟨by omega, by omega, ?_⟩
  rw [range_ints]
  refine for_inv (fun xs σ G1 => ∃ (r : List Int) (x9 x10 x11 : Option PV), xs = r.map PV.int ∧ (∀ i ∈ r, 0 ≤ i) ∧ G1 = G ∧ σ = [x0, x1, x2, some (.int b), x4, some (.ref s), some (fol b (.fnd 0) ms).pv, some (Mp.fnd 0).pv, x8, x9, x10, x11, x12, x13])
    ⟨_, _, _, _, rfl, fun i hi => by have := range_mem hi; omega, rfl, rfl⟩ (fun _ _ _ _ => kept_nil) ?_ ?_
  · rintro σ G1 ⟨r, x9, x10, x11, -, -, rfl, rfl⟩
    exact hN _ _ (q _ _ _)
  · rintro x xs σ G1 R ⟨r, x9, x10, x11, e, hr, rfl, rfl⟩ hR
    cases r with
    | nil => cases e
    | cons i r =>
      cases e
      have hi := hr i List.mem_cons_self
      (try simp only [Fv.wSs, Fv.wS, Fv.wE, Fv.wT, Fv.wTs, Fv.wA, Fv.wO, Fv.wG, Fv.wGs, Fv.wI, Fv.wVar, Fv.wCst, Fv.wOp, Fv.wUn, Fv.wIte, Fv.wNil, Fv.wCons, Fv.wTup, Fv.wLst, Fv.wCall, Fv.wName, Fv.wGNil, Fv.wGCons, Fv.pBin, Fv.pCmp, Fv.pCmpB, Fv.pBn, Fv.pIsN, Fv.isNon, Fv.endP, List.getElem?_cons_zero, List.getElem?_cons_succ, List.set_cons_zero, List.set_cons_succ, List.map_cons, List.map_nil, List.zip_cons_cons, List.zip_nil_left, Option.map_some, decide_eq_true_eq, if_true, if_false, reduceCtorEq, ↓reduceIte, Bool.not_true, Bool.not_false, Bool.false_eq_true, Fv.pu_same, Fv.pu_pu, L2.ixN, Fv.atI_0, Fv.atI_1, Fv.atI_2, Fv.atI_3, Fv.atI_4, Fv.atI_5, List.length_cons, List.length_nil, Nat.reduceAdd, Int.reduceLT, Int.reduceLE, Int.cast_ofNat_Int, List.length_set, Nat.lt_add_one, true_and, Option.bind_some, Int.toNat_zero, Int.toNat_one, Int.reduceToNat, Nat.zero_add, Int.zero_lt_one, Int.reduceBEq, beq_self_eq_true, List.length_map, ite_true, ite_false, Int.reduceNeg, Fv.atI_last, List.getLast_cons_cons, List.getLast_singleton, Fv.kb_NoneType_tuple, Fv.kb_NoneType_int, Fv.kb_NoneType_bool, Fv.kb_NoneType_str, Fv.kb_NoneType_list, Fv.kb_NoneType_dict, Fv.kb_bool_tuple, Fv.kb_bool_int, Fv.kb_bool_bool, Fv.kb_bool_str, Fv.kb_bool_list, Fv.kb_bool_dict, Fv.kb_int_tuple, Fv.kb_int_int, Fv.kb_int_bool, Fv.kb_int_str, Fv.kb_int_list, Fv.kb_int_dict, Fv.kb_str_tuple, Fv.kb_str_int, Fv.kb_str_bool, Fv.kb_str_str, Fv.kb_str_list, Fv.kb_str_dict, Fv.kb_tuple_tuple, Fv.kb_tuple_int, Fv.kb_tuple_bool, Fv.kb_tuple_str, Fv.kb_tuple_list, Fv.kb_tuple_dict, Fv.kb_list_tuple, Fv.kb_list_int, Fv.kb_list_bool, Fv.kb_list_str, Fv.kb_list_list, Fv.kb_list_dict, Fv.kb_dict_tuple, Fv.kb_dict_int, Fv.kb_dict_bool, Fv.kb_dict_str, Fv.kb_dict_list, Fv.kb_dict_dict, Fv.o_add_ii, Fv.o_add_ss, Fv.o_add_tt, Fv.o_add_rr, Fv.o_sub_ii, Fv.o_mul_ii, Fv.o_mul_rk, Fv.o_mod_ii, Fv.o_div_ii, Fv.o_pow_ii, Fv.o_lt_ii, Fv.o_lt_ss, Fv.o_eq_nn, Fv.o_eq_ni, Fv.o_eq_in, Fv.o_eq_nb, Fv.o_eq_bn, Fv.o_eq_ns, Fv.o_eq_sn, Fv.o_eq_ii, Fv.o_eq_bb, Fv.o_eq_ss, Fv.o_eq_is, Fv.o_eq_si, Fv.o_eq_bs, Fv.o_eq_sb, Fv.o_eq_tt, Fv.o_eq_tr, Fv.o_eq_tn, Fv.o_eq_nt, Fv.o_eq_ti, Fv.o_eq_it, Fv.o_eq_tb, Fv.o_eq_bt, Fv.o_eq_ts, Fv.o_eq_st, Fv.o_eq_rt, Fv.o_eq_rr, Fv.o_eq_rn, Fv.o_eq_nr, Fv.o_eq_ri, Fv.o_eq_ir, Fv.o_eq_rb, Fv.o_eq_br, Fv.o_eq_rs, Fv.o_eq_sr, Fv.o_tru_n, Fv.o_tru_b, Fv.o_tru_i, Fv.o_tru_s, Fv.o_tru_t, Fv.o_tru_w, Fv.o_tru_r, Fv.o_idx_t, Fv.o_idx_w, Fv.o_idx_r, Fv.o_idx_s, Fv.o_idx_d, Fv.o_sl_t, Fv.o_sl_s, Fv.o_sl_r, Fv.o_isi_n, Fv.o_isi_b, Fv.o_isi_i, Fv.o_isi_s, Fv.o_isi_t, Fv.o_isi_w, Fv.o_isi_d, Fv.o_isi_r, Fv.o_len_t, Fv.o_len_w, Fv.o_len_s, Fv.o_len_r, Fv.o_abs, Fv.o_max, Fv.o_min, Fv.o_str, Fv.o_repr, Fv.o_tuple_t, Fv.o_tuple_r, Fv.o_list_t, Fv.o_list_r, Fv.o_set_r, Fv.o_in_t, Fv.o_in_w, Fv.o_in_r, Fv.o_in_s, Fv.o_in_d, Fv.setAll, eq_self, and_true])
      refine cuts k hs hok hl (by omega) hi _ _ _ _ _ _ _ _ _ fun x10 x11 G2 sb => ?_
      exact hR _ _ _ sb ⟨r, _, _, _, rfl, fun i hi => hr i (List.mem_cons_of_mem _ hi), rfl, rfl⟩
/-- two maps that do the same are the same -/
theorem others (k : Nat) {b c : Int} {m : Mp} {a : Addr} {o : PO} {D : PD} {G : PH} (h : G a = some o) (bg : BagO o c) (hc : c < 1000) (hm : m.ok b) (hb : 2 ≤ b) (hb2 : b ≤ 5) (x0 x1 x4 x5 x7 x8 x9 x10 x11 x12 x13 : Option PV)
    (q : ∀ x12 x13 G1 o1, G1 a = some o1 → BagO o1 (c + 2) → D.nx [x0, x1, some (.ref a), some (.int b), x4, x5, some m.pv, x7, x8, x9, x10, x11, x12, x13] G1) :
    wSs (run Γ gl (k + 5)) blaw_f2_4 D [x0, x1, some (.ref a), some (.int b), x4, x5, some m.pv, x7, x8, x9, x10, x11, x12, x13] G := by
  refine ss_step fun N hN => ?_
  (try simp only [Fv.wSs, Fv.wS, Fv.wE, Fv.wT, Fv.wTs, Fv.wA, Fv.wO, Fv.wG, Fv.wGs, Fv.wI, Fv.wVar, Fv.wCst, Fv.wOp, Fv.wUn, Fv.wIte, Fv.wNil, Fv.wCons, Fv.wTup, Fv.wLst, Fv.wCall, Fv.wName, Fv.wGNil, Fv.wGCons, Fv.pBin, Fv.pCmp, Fv.pCmpB, Fv.pBn, Fv.pIsN, Fv.isNon, Fv.endP, List.getElem?_cons_zero, List.getElem?_cons_succ, List.set_cons_zero, List.set_cons_succ, List.map_cons, List.map_nil, List.zip_cons_cons, List.zip_nil_left, Option.map_some, decide_eq_true_eq, if_true, if_false, reduceCtorEq, ↓reduceIte, Bool.not_true, Bool.not_false, Bool.false_eq_true, Fv.pu_same, Fv.pu_pu, L2.ixN, Fv.atI_0, Fv.atI_1, Fv.atI_2, Fv.atI_3, Fv.atI_4, Fv.atI_5, List.length_cons, List.length_nil, Nat.reduceAdd, Int.reduceLT, Int.reduceLE, Int.cast_ofNat_Int, List.length_set, Nat.lt_add_one, true_and, Option.bind_some, Int.toNat_zero, Int.toNat_one, Int.reduceToNat, Nat.zero_add, Int.zero_lt_one, Int.reduceBEq, beq_self_eq_true, List.length_map, ite_true, ite_false, Int.reduceNeg, Fv.atI_last, List.getLast_cons_cons, List.getLast_singleton, Fv.kb_NoneType_tuple, Fv.kb_NoneType_int, Fv.kb_NoneType_bool, Fv.kb_NoneType_str, Fv.kb_NoneType_list, Fv.kb_NoneType_dict, Fv.kb_bool_tuple, Fv.kb_bool_int, Fv.kb_bool_bool, Fv.kb_bool_str, Fv.kb_bool_list, Fv.kb_bool_dict, Fv.kb_int_tuple, Fv.kb_int_int, Fv.kb_int_bool, Fv.kb_int_str, Fv.kb_int_list, Fv.kb_int_dict, Fv.kb_str_tuple, Fv.kb_str_int, Fv.kb_str_bool, Fv.kb_str_str, Fv.kb_str_list, Fv.kb_str_dict, Fv.kb_tuple_tuple, Fv.kb_tuple_int, Fv.kb_tuple_bool, Fv.kb_tuple_str, Fv.kb_tuple_list, Fv.kb_tuple_dict, Fv.kb_list_tuple, Fv.kb_list_int, Fv.kb_list_bool, Fv.kb_list_str, Fv.kb_list_list, Fv.kb_list_dict, Fv.kb_dict_tuple, Fv.kb_dict_int, Fv.kb_dict_bool, Fv.kb_dict_str, Fv.kb_dict_list, Fv.kb_dict_dict, Fv.o_add_ii, Fv.o_add_ss, Fv.o_add_tt, Fv.o_add_rr, Fv.o_sub_ii, Fv.o_mul_ii, Fv.o_mul_rk, Fv.o_mod_ii, Fv.o_div_ii, Fv.o_pow_ii, Fv.o_lt_ii, Fv.o_lt_ss, Fv.o_eq_nn, Fv.o_eq_ni, Fv.o_eq_in, Fv.o_eq_nb, Fv.o_eq_bn, Fv.o_eq_ns, Fv.o_eq_sn, Fv.o_eq_ii, Fv.o_eq_bb, Fv.o_eq_ss, Fv.o_eq_is, Fv.o_eq_si, Fv.o_eq_bs, Fv.o_eq_sb, Fv.o_eq_tt, Fv.o_eq_tr, Fv.o_eq_tn, Fv.o_eq_nt, Fv.o_eq_ti, Fv.o_eq_it, Fv.o_eq_tb, Fv.o_eq_bt, Fv.o_eq_ts, Fv.o_eq_st, Fv.o_eq_rt, Fv.o_eq_rr, Fv.o_eq_rn, Fv.o_eq_nr, Fv.o_eq_ri, Fv.o_eq_ir, Fv.o_eq_rb, Fv.o_eq_br, Fv.o_eq_rs, Fv.o_eq_sr, Fv.o_tru_n, Fv.o_tru_b, Fv.o_tru_i, Fv.o_tru_s, Fv.o_tru_t, Fv.o_tru_w, Fv.o_tru_r, Fv.o_idx_t, Fv.o_idx_w, Fv.o_idx_r, Fv.o_idx_s, Fv.o_idx_d, Fv.o_sl_t, Fv.o_sl_s, Fv.o_sl_r, Fv.o_isi_n, Fv.o_isi_b, Fv.o_isi_i, Fv.o_isi_s, Fv.o_isi_t, Fv.o_isi_w, Fv.o_isi_d, Fv.o_isi_r, Fv.o_len_t, Fv.o_len_w, Fv.o_len_s, Fv.o_len_r, Fv.o_abs, Fv.o_max, Fv.o_min, Fv.o_str, Fv.o_repr, Fv.o_tuple_t, Fv.o_tuple_r, Fv.o_list_t, Fv.o_list_r, Fv.o_set_r, Fv.o_in_t, Fv.o_in_w, Fv.o_in_r, Fv.o_in_s, Fv.o_in_d, Fv.setAll, eq_self, and_true])
  refine s_map g_take g_map (k + 3) h bg (by omega) (by omega) (by omega) fun n o2 hn bg2 => ?_
  have h2 : pu G a o2 a = some o2 := pu_same
  generalize pu G a o2 = G2 at h2 ⊢
  refine hN _ _ (ss_step fun N1 hN1 => ?_)
  (try simp only [Fv.wSs, Fv.wS, Fv.wE, Fv.wT, Fv.wTs, Fv.wA, Fv.wO, Fv.wG, Fv.wGs, Fv.wI, Fv.wVar, Fv.wCst, Fv.wOp, Fv.wUn, Fv.wIte, Fv.wNil, Fv.wCons, Fv.wTup, Fv.wLst, Fv.wCall, Fv.wName, Fv.wGNil, Fv.wGCons, Fv.pBin, Fv.pCmp, Fv.pCmpB, Fv.pBn, Fv.pIsN, Fv.isNon, Fv.endP, List.getElem?_cons_zero, List.getElem?_cons_succ, List.set_cons_zero, List.set_cons_succ, List.map_cons, List.map_nil, List.zip_cons_cons, List.zip_nil_left, Option.map_some, decide_eq_true_eq, if_true, if_false, reduceCtorEq, ↓reduceIte, Bool.not_true, Bool.not_false, Bool.false_eq_true, Fv.pu_same, Fv.pu_pu, L2.ixN, Fv.atI_0, Fv.atI_1, Fv.atI_2, Fv.atI_3, Fv.atI_4, Fv.atI_5, List.length_cons, List.length_nil, Nat.reduceAdd, Int.reduceLT, Int.reduceLE, Int.cast_ofNat_Int, List.length_set, Nat.lt_add_one, true_and, Option.bind_some, Int.toNat_zero, Int.toNat_one, Int.reduceToNat, Nat.zero_add, Int.zero_lt_one, Int.reduceBEq, beq_self_eq_true, List.length_map, ite_true, ite_false, Int.reduceNeg, Fv.atI_last, List.getLast_cons_cons, List.getLast_singleton, Fv.kb_NoneType_tuple, Fv.kb_NoneType_int, Fv.kb_NoneType_bool, Fv.kb_NoneType_str, Fv.kb_NoneType_list, Fv.kb_NoneType_dict, Fv.kb_bool_tuple, Fv.kb_bool_int, Fv.kb_bool_bool, Fv.kb_bool_str, Fv.kb_bool_list, Fv.kb_bool_dict, Fv.kb_int_tuple, Fv.kb_int_int, Fv.kb_int_bool, Fv.kb_int_str, Fv.kb_int_list, Fv.kb_int_dict, Fv.kb_str_tuple, Fv.kb_str_int, Fv.kb_str_bool, Fv.kb_str_str, Fv.kb_str_list, Fv.kb_str_dict, Fv.kb_tuple_tuple, Fv.kb_tuple_int, Fv.kb_tuple_bool, Fv.kb_tuple_str, Fv.kb_tuple_list, Fv.kb_tuple_dict, Fv.kb_list_tuple, Fv.kb_list_int, Fv.kb_list_bool, Fv.kb_list_str, Fv.kb_list_list, Fv.kb_list_dict, Fv.kb_dict_tuple, Fv.kb_dict_int, Fv.kb_dict_bool, Fv.kb_dict_str, Fv.kb_dict_list, Fv.kb_dict_dict, Fv.o_add_ii, Fv.o_add_ss, Fv.o_add_tt, Fv.o_add_rr, Fv.o_sub_ii, Fv.o_mul_ii, Fv.o_mul_rk, Fv.o_mod_ii, Fv.o_div_ii, Fv.o_pow_ii, Fv.o_lt_ii, Fv.o_lt_ss, Fv.o_eq_nn, Fv.o_eq_ni, Fv.o_eq_in, Fv.o_eq_nb, Fv.o_eq_bn, Fv.o_eq_ns, Fv.o_eq_sn, Fv.o_eq_ii, Fv.o_eq_bb, Fv.o_eq_ss, Fv.o_eq_is, Fv.o_eq_si, Fv.o_eq_bs, Fv.o_eq_sb, Fv.o_eq_tt, Fv.o_eq_tr, Fv.o_eq_tn, Fv.o_eq_nt, Fv.o_eq_ti, Fv.o_eq_it, Fv.o_eq_tb, Fv.o_eq_bt, Fv.o_eq_ts, Fv.o_eq_st, Fv.o_eq_rt, Fv.o_eq_rr, Fv.o_eq_rn, Fv.o_eq_nr, Fv.o_eq_ri, Fv.o_eq_ir, Fv.o_eq_rb, Fv.o_eq_br, Fv.o_eq_rs, Fv.o_eq_sr, Fv.o_tru_n, Fv.o_tru_b, Fv.o_tru_i, Fv.o_tru_s, Fv.o_tru_t, Fv.o_tru_w, Fv.o_tru_r, Fv.o_idx_t, Fv.o_idx_w, Fv.o_idx_r, Fv.o_idx_s, Fv.o_idx_d, Fv.o_sl_t, Fv.o_sl_s, Fv.o_sl_r, Fv.o_isi_n, Fv.o_isi_b, Fv.o_isi_i, Fv.o_isi_s, Fv.o_isi_t, Fv.o_isi_w, Fv.o_isi_d, Fv.o_isi_r, Fv.o_len_t, Fv.o_len_w, Fv.o_len_s, Fv.o_len_r, Fv.o_abs, Fv.o_max, Fv.o_min, Fv.o_str, Fv.o_repr, Fv.o_tuple_t, Fv.o_tuple_r, Fv.o_list_t, Fv.o_list_r, Fv.o_set_r, Fv.o_in_t, Fv.o_in_w, Fv.o_in_r, Fv.o_in_s, Fv.o_in_d, Fv.setAll, eq_self, and_true, wipeP])
  refine ⟨by omega, by omega, ?_⟩
  rw [range_ints]
  refine lc_inv (fun xs acc G1 => ∃ (r d : List Int), xs = r.map PV.int ∧ acc = (d.map fun x => n.app x b == m.app x b).map PV.bl ∧ d ++ r = (List.range b.toNat).map (fun i : Nat => 0 + (i : Int)) ∧ G1 = G2)
    ⟨_, [], rfl, rfl, rfl, rfl⟩ (fun _ _ _ _ => kept_nil) ?_ ?_
  · rintro acc G1 ⟨r, d, e, rfl, hd, rfl⟩ p hp
    cases r with
    | cons _ _ => cases e
    | nil =>
      rw [List.append_nil] at hd
      have hpa := ne_of_free h2 hp
      have h3 : pu G1 p (.lst ((d.map fun x => n.app x b == m.app x b).map PV.bl)) a = some o2 := by rw [pu_ne hpa, h2]
      have h4 : pu G1 p (.lst ((d.map fun x => n.app x b == m.app x b).map PV.bl)) p = some (.lst ((d.map fun x => n.app x b == m.app x b).map PV.bl)) := pu_same
      generalize pu G1 p _ = G3 at h3 h4 ⊢
      refine hN1 _ _ (ss_step fun N2 hN2 => ?_)
      obtain ⟨e1, e2, e3⟩ := repr_ok hn (by omega) G3
      obtain ⟨f1, f2, f3⟩ := repr_ok hm (by omega) G3
      have key : ((d.map fun x => n.app x b == m.app x b).all id) = (n.dat.shown == m.dat.shown) := by
        rw [Bool.eq_iff_iff, shown_eq hb2 hn hm, List.all_map, List.all_eq_true]
        constructor
        · intro hall
          refine app_diff hb hn hm fun x hx hx2 => ?_
          have : x ∈ d := by
            rw [hd]
            exact List.mem_map.2 ⟨x.toNat, List.mem_range.2 (by omega), by omega⟩
          have := hall x this
          simpa using this
        · rintro rfl x -
          simp
      simp only [Mp.dat_pv] at e2 e3 f2 f3
      (try simp only [Fv.wSs, Fv.wS, Fv.wE, Fv.wT, Fv.wTs, Fv.wA, Fv.wO, Fv.wG, Fv.wGs, Fv.wI, Fv.wVar, Fv.wCst, Fv.wOp, Fv.wUn, Fv.wIte, Fv.wNil, Fv.wCons, Fv.wTup, Fv.wLst, Fv.wCall, Fv.wName, Fv.wGNil, Fv.wGCons, Fv.pBin, Fv.pCmp, Fv.pCmpB, Fv.pBn, Fv.pIsN, Fv.isNon, Fv.endP, List.getElem?_cons_zero, List.getElem?_cons_succ, List.set_cons_zero, List.set_cons_succ, List.map_cons, List.map_nil, List.zip_cons_cons, List.zip_nil_left, Option.map_some, decide_eq_true_eq, if_true, if_false, reduceCtorEq, ↓reduceIte, Bool.not_true, Bool.not_false, Bool.false_eq_true, Fv.pu_same, Fv.pu_pu, L2.ixN, Fv.atI_0, Fv.atI_1, Fv.atI_2, Fv.atI_3, Fv.atI_4, Fv.atI_5, List.length_cons, List.length_nil, Nat.reduceAdd, Int.reduceLT, Int.reduceLE, Int.cast_ofNat_Int, List.length_set, Nat.lt_add_one, true_and, Option.bind_some, Int.toNat_zero, Int.toNat_one, Int.reduceToNat, Nat.zero_add, Int.zero_lt_one, Int.reduceBEq, beq_self_eq_true, List.length_map, ite_true, ite_false, Int.reduceNeg, Fv.atI_last, List.getLast_cons_cons, List.getLast_singleton, Fv.kb_NoneType_tuple, Fv.kb_NoneType_int, Fv.kb_NoneType_bool, Fv.kb_NoneType_str, Fv.kb_NoneType_list, Fv.kb_NoneType_dict, Fv.kb_bool_tuple, Fv.kb_bool_int, Fv.kb_bool_bool, Fv.kb_bool_str, Fv.kb_bool_list, Fv.kb_bool_dict, Fv.kb_int_tuple, Fv.kb_int_int, Fv.kb_int_bool, Fv.kb_int_str, Fv.kb_int_list, Fv.kb_int_dict, Fv.kb_str_tuple, Fv.kb_str_int, Fv.kb_str_bool, Fv.kb_str_str, Fv.kb_str_list, Fv.kb_str_dict, Fv.kb_tuple_tuple, Fv.kb_tuple_int, Fv.kb_tuple_bool, Fv.kb_tuple_str, Fv.kb_tuple_list, Fv.kb_tuple_dict, Fv.kb_list_tuple, Fv.kb_list_int, Fv.kb_list_bool, Fv.kb_list_str, Fv.kb_list_list, Fv.kb_list_dict, Fv.kb_dict_tuple, Fv.kb_dict_int, Fv.kb_dict_bool, Fv.kb_dict_str, Fv.kb_dict_list, Fv.kb_dict_dict, Fv.o_add_ii, Fv.o_add_ss, Fv.o_add_tt, Fv.o_add_rr, Fv.o_sub_ii, Fv.o_mul_ii, Fv.o_mul_rk, Fv.o_mod_ii, Fv.o_div_ii, Fv.o_pow_ii, Fv.o_lt_ii, Fv.o_lt_ss, Fv.o_eq_nn, Fv.o_eq_ni, Fv.o_eq_in, Fv.o_eq_nb, Fv.o_eq_bn, Fv.o_eq_ns, Fv.o_eq_sn, Fv.o_eq_ii, Fv.o_eq_bb, Fv.o_eq_ss, Fv.o_eq_is, Fv.o_eq_si, Fv.o_eq_bs, Fv.o_eq_sb, Fv.o_eq_tt, Fv.o_eq_tr, Fv.o_eq_tn, Fv.o_eq_nt, Fv.o_eq_ti, Fv.o_eq_it, Fv.o_eq_tb, Fv.o_eq_bt, Fv.o_eq_ts, Fv.o_eq_st, Fv.o_eq_rt, Fv.o_eq_rr, Fv.o_eq_rn, Fv.o_eq_nr, Fv.o_eq_ri, Fv.o_eq_ir, Fv.o_eq_rb, Fv.o_eq_br, Fv.o_eq_rs, Fv.o_eq_sr, Fv.o_tru_n, Fv.o_tru_b, Fv.o_tru_i, Fv.o_tru_s, Fv.o_tru_t, Fv.o_tru_w, Fv.o_tru_r, Fv.o_idx_t, Fv.o_idx_w, Fv.o_idx_r, Fv.o_idx_s, Fv.o_idx_d, Fv.o_sl_t, Fv.o_sl_s, Fv.o_sl_r, Fv.o_isi_n, Fv.o_isi_b, Fv.o_isi_i, Fv.o_isi_s, Fv.o_isi_t, Fv.o_isi_w, Fv.o_isi_d, Fv.o_isi_r, Fv.o_len_t, Fv.o_len_w, Fv.o_len_s, Fv.o_len_r, Fv.o_abs, Fv.o_max, Fv.o_min, Fv.o_str, Fv.o_repr, Fv.o_tuple_t, Fv.o_tuple_r, Fv.o_list_t, Fv.o_list_r, Fv.o_set_r, Fv.o_in_t, Fv.o_in_w, Fv.o_in_r, Fv.o_in_s, Fv.o_in_d, Fv.setAll, eq_self, and_true, bAll, h4, allB_map, e1, e2, e3, f1, f2, f3, Mp.dat_pv])
      rw [key]
      (try simp only [Fv.wSs, Fv.wS, Fv.wE, Fv.wT, Fv.wTs, Fv.wA, Fv.wO, Fv.wG, Fv.wGs, Fv.wI, Fv.wVar, Fv.wCst, Fv.wOp, Fv.wUn, Fv.wIte, Fv.wNil, Fv.wCons, Fv.wTup, Fv.wLst, Fv.wCall, Fv.wName, Fv.wGNil, Fv.wGCons, Fv.pBin, Fv.pCmp, Fv.pCmpB, Fv.pBn, Fv.pIsN, Fv.isNon, Fv.endP, List.getElem?_cons_zero, List.getElem?_cons_succ, List.set_cons_zero, List.set_cons_succ, List.map_cons, List.map_nil, List.zip_cons_cons, List.zip_nil_left, Option.map_some, decide_eq_true_eq, if_true, if_false, reduceCtorEq, ↓reduceIte, Bool.not_true, Bool.not_false, Bool.false_eq_true, Fv.pu_same, Fv.pu_pu, L2.ixN, Fv.atI_0, Fv.atI_1, Fv.atI_2, Fv.atI_3, Fv.atI_4, Fv.atI_5, List.length_cons, List.length_nil, Nat.reduceAdd, Int.reduceLT, Int.reduceLE, Int.cast_ofNat_Int, List.length_set, Nat.lt_add_one, true_and, Option.bind_some, Int.toNat_zero, Int.toNat_one, Int.reduceToNat, Nat.zero_add, Int.zero_lt_one, Int.reduceBEq, beq_self_eq_true, List.length_map, ite_true, ite_false, Int.reduceNeg, Fv.atI_last, List.getLast_cons_cons, List.getLast_singleton, Fv.kb_NoneType_tuple, Fv.kb_NoneType_int, Fv.kb_NoneType_bool, Fv.kb_NoneType_str, Fv.kb_NoneType_list, Fv.kb_NoneType_dict, Fv.kb_bool_tuple, Fv.kb_bool_int, Fv.kb_bool_bool, Fv.kb_bool_str, Fv.kb_bool_list, Fv.kb_bool_dict, Fv.kb_int_tuple, Fv.kb_int_int, Fv.kb_int_bool, Fv.kb_int_str, Fv.kb_int_list, Fv.kb_int_dict, Fv.kb_str_tuple, Fv.kb_str_int, Fv.kb_str_bool, Fv.kb_str_str, Fv.kb_str_list, Fv.kb_str_dict, Fv.kb_tuple_tuple, Fv.kb_tuple_int, Fv.kb_tuple_bool, Fv.kb_tuple_str, Fv.kb_tuple_list, Fv.kb_tuple_dict, Fv.kb_list_tuple, Fv.kb_list_int, Fv.kb_list_bool, Fv.kb_list_str, Fv.kb_list_list, Fv.kb_list_dict, Fv.kb_dict_tuple, Fv.kb_dict_int, Fv.kb_dict_bool, Fv.kb_dict_str, Fv.kb_dict_list, Fv.kb_dict_dict, Fv.o_add_ii, Fv.o_add_ss, Fv.o_add_tt, Fv.o_add_rr, Fv.o_sub_ii, Fv.o_mul_ii, Fv.o_mul_rk, Fv.o_mod_ii, Fv.o_div_ii, Fv.o_pow_ii, Fv.o_lt_ii, Fv.o_lt_ss, Fv.o_eq_nn, Fv.o_eq_ni, Fv.o_eq_in, Fv.o_eq_nb, Fv.o_eq_bn, Fv.o_eq_ns, Fv.o_eq_sn, Fv.o_eq_ii, Fv.o_eq_bb, Fv.o_eq_ss, Fv.o_eq_is, Fv.o_eq_si, Fv.o_eq_bs, Fv.o_eq_sb, Fv.o_eq_tt, Fv.o_eq_tr, Fv.o_eq_tn, Fv.o_eq_nt, Fv.o_eq_ti, Fv.o_eq_it, Fv.o_eq_tb, Fv.o_eq_bt, Fv.o_eq_ts, Fv.o_eq_st, Fv.o_eq_rt, Fv.o_eq_rr, Fv.o_eq_rn, Fv.o_eq_nr, Fv.o_eq_ri, Fv.o_eq_ir, Fv.o_eq_rb, Fv.o_eq_br, Fv.o_eq_rs, Fv.o_eq_sr, Fv.o_tru_n, Fv.o_tru_b, Fv.o_tru_i, Fv.o_tru_s, Fv.o_tru_t, Fv.o_tru_w, Fv.o_tru_r, Fv.o_idx_t, Fv.o_idx_w, Fv.o_idx_r, Fv.o_idx_s, Fv.o_idx_d, Fv.o_sl_t, Fv.o_sl_s, Fv.o_sl_r, Fv.o_isi_n, Fv.o_isi_b, Fv.o_isi_i, Fv.o_isi_s, Fv.o_isi_t, Fv.o_isi_w, Fv.o_isi_d, Fv.o_isi_r, Fv.o_len_t, Fv.o_len_w, Fv.o_len_s, Fv.o_len_r, Fv.o_abs, Fv.o_max, Fv.o_min, Fv.o_str, Fv.o_repr, Fv.o_tuple_t, Fv.o_tuple_r, Fv.o_list_t, Fv.o_list_r, Fv.o_set_r, Fv.o_in_t, Fv.o_in_w, Fv.o_in_r, Fv.o_in_s, Fv.o_in_d, Fv.setAll, eq_self, and_true])
      exact ⟨Mp.shaped _, Mp.shaped _, hN2 _ _ (ss_nil (q _ _ _ _ h3 bg2))⟩
  · rintro x xs acc G1 R ⟨r, d, e, rfl, hd, rfl⟩ hR
    cases r with
    | nil => cases e
    | cons i r =>
      cases e
      have hlen : d.length ≤ 5 := by
        have := congrArg List.length hd
        simp at this
        omega
      (try simp only [Fv.wSs, Fv.wS, Fv.wE, Fv.wT, Fv.wTs, Fv.wA, Fv.wO, Fv.wG, Fv.wGs, Fv.wI, Fv.wVar, Fv.wCst, Fv.wOp, Fv.wUn, Fv.wIte, Fv.wNil, Fv.wCons, Fv.wTup, Fv.wLst, Fv.wCall, Fv.wName, Fv.wGNil, Fv.wGCons, Fv.pBin, Fv.pCmp, Fv.pCmpB, Fv.pBn, Fv.pIsN, Fv.isNon, Fv.endP, List.getElem?_cons_zero, List.getElem?_cons_succ, List.set_cons_zero, List.set_cons_succ, List.map_cons, List.map_nil, List.zip_cons_cons, List.zip_nil_left, Option.map_some, decide_eq_true_eq, if_true, if_false, reduceCtorEq, ↓reduceIte, Bool.not_true, Bool.not_false, Bool.false_eq_true, Fv.pu_same, Fv.pu_pu, L2.ixN, Fv.atI_0, Fv.atI_1, Fv.atI_2, Fv.atI_3, Fv.atI_4, Fv.atI_5, List.length_cons, List.length_nil, Nat.reduceAdd, Int.reduceLT, Int.reduceLE, Int.cast_ofNat_Int, List.length_set, Nat.lt_add_one, true_and, Option.bind_some, Int.toNat_zero, Int.toNat_one, Int.reduceToNat, Nat.zero_add, Int.zero_lt_one, Int.reduceBEq, beq_self_eq_true, List.length_map, ite_true, ite_false, Int.reduceNeg, Fv.atI_last, List.getLast_cons_cons, List.getLast_singleton, Fv.kb_NoneType_tuple, Fv.kb_NoneType_int, Fv.kb_NoneType_bool, Fv.kb_NoneType_str, Fv.kb_NoneType_list, Fv.kb_NoneType_dict, Fv.kb_bool_tuple, Fv.kb_bool_int, Fv.kb_bool_bool, Fv.kb_bool_str, Fv.kb_bool_list, Fv.kb_bool_dict, Fv.kb_int_tuple, Fv.kb_int_int, Fv.kb_int_bool, Fv.kb_int_str, Fv.kb_int_list, Fv.kb_int_dict, Fv.kb_str_tuple, Fv.kb_str_int, Fv.kb_str_bool, Fv.kb_str_str, Fv.kb_str_list, Fv.kb_str_dict, Fv.kb_tuple_tuple, Fv.kb_tuple_int, Fv.kb_tuple_bool, Fv.kb_tuple_str, Fv.kb_tuple_list, Fv.kb_tuple_dict, Fv.kb_list_tuple, Fv.kb_list_int, Fv.kb_list_bool, Fv.kb_list_str, Fv.kb_list_list, Fv.kb_list_dict, Fv.kb_dict_tuple, Fv.kb_dict_int, Fv.kb_dict_bool, Fv.kb_dict_str, Fv.kb_dict_list, Fv.kb_dict_dict, Fv.o_add_ii, Fv.o_add_ss, Fv.o_add_tt, Fv.o_add_rr, Fv.o_sub_ii, Fv.o_mul_ii, Fv.o_mul_rk, Fv.o_mod_ii, Fv.o_div_ii, Fv.o_pow_ii, Fv.o_lt_ii, Fv.o_lt_ss, Fv.o_eq_nn, Fv.o_eq_ni, Fv.o_eq_in, Fv.o_eq_nb, Fv.o_eq_bn, Fv.o_eq_ns, Fv.o_eq_sn, Fv.o_eq_ii, Fv.o_eq_bb, Fv.o_eq_ss, Fv.o_eq_is, Fv.o_eq_si, Fv.o_eq_bs, Fv.o_eq_sb, Fv.o_eq_tt, Fv.o_eq_tr, Fv.o_eq_tn, Fv.o_eq_nt, Fv.o_eq_ti, Fv.o_eq_it, Fv.o_eq_tb, Fv.o_eq_bt, Fv.o_eq_ts, Fv.o_eq_st, Fv.o_eq_rt, Fv.o_eq_rr, Fv.o_eq_rn, Fv.o_eq_nr, Fv.o_eq_ri, Fv.o_eq_ir, Fv.o_eq_rb, Fv.o_eq_br, Fv.o_eq_rs, Fv.o_eq_sr, Fv.o_tru_n, Fv.o_tru_b, Fv.o_tru_i, Fv.o_tru_s, Fv.o_tru_t, Fv.o_tru_w, Fv.o_tru_r, Fv.o_idx_t, Fv.o_idx_w, Fv.o_idx_r, Fv.o_idx_s, Fv.o_idx_d, Fv.o_sl_t, Fv.o_sl_s, Fv.o_sl_r, Fv.o_isi_n, Fv.o_isi_b, Fv.o_isi_i, Fv.o_isi_s, Fv.o_isi_t, Fv.o_isi_w, Fv.o_isi_d, Fv.o_isi_r, Fv.o_len_t, Fv.o_len_w, Fv.o_len_s, Fv.o_len_r, Fv.o_abs, Fv.o_max, Fv.o_min, Fv.o_str, Fv.o_repr, Fv.o_tuple_t, Fv.o_tuple_r, Fv.o_list_t, Fv.o_list_r, Fv.o_set_r, Fv.o_in_t, Fv.o_in_w, Fv.o_in_r, Fv.o_in_s, Fv.o_in_d, Fv.setAll, eq_self, and_true])
      refine s_apply g_apply (k + 4) n (by omega) ?_
      refine s_apply g_apply (k + 4) m (by omega) ?_
      (try simp only [Fv.wSs, Fv.wS, Fv.wE, Fv.wT, Fv.wTs, Fv.wA, Fv.wO, Fv.wG, Fv.wGs, Fv.wI, Fv.wVar, Fv.wCst, Fv.wOp, Fv.wUn, Fv.wIte, Fv.wNil, Fv.wCons, Fv.wTup, Fv.wLst, Fv.wCall, Fv.wName, Fv.wGNil, Fv.wGCons, Fv.pBin, Fv.pCmp, Fv.pCmpB, Fv.pBn, Fv.pIsN, Fv.isNon, Fv.endP, List.getElem?_cons_zero, List.getElem?_cons_succ, List.set_cons_zero, List.set_cons_succ, List.map_cons, List.map_nil, List.zip_cons_cons, List.zip_nil_left, Option.map_some, decide_eq_true_eq, if_true, if_false, reduceCtorEq, ↓reduceIte, Bool.not_true, Bool.not_false, Bool.false_eq_true, Fv.pu_same, Fv.pu_pu, L2.ixN, Fv.atI_0, Fv.atI_1, Fv.atI_2, Fv.atI_3, Fv.atI_4, Fv.atI_5, List.length_cons, List.length_nil, Nat.reduceAdd, Int.reduceLT, Int.reduceLE, Int.cast_ofNat_Int, List.length_set, Nat.lt_add_one, true_and, Option.bind_some, Int.toNat_zero, Int.toNat_one, Int.reduceToNat, Nat.zero_add, Int.zero_lt_one, Int.reduceBEq, beq_self_eq_true, List.length_map, ite_true, ite_false, Int.reduceNeg, Fv.atI_last, List.getLast_cons_cons, List.getLast_singleton, Fv.kb_NoneType_tuple, Fv.kb_NoneType_int, Fv.kb_NoneType_bool, Fv.kb_NoneType_str, Fv.kb_NoneType_list, Fv.kb_NoneType_dict, Fv.kb_bool_tuple, Fv.kb_bool_int, Fv.kb_bool_bool, Fv.kb_bool_str, Fv.kb_bool_list, Fv.kb_bool_dict, Fv.kb_int_tuple, Fv.kb_int_int, Fv.kb_int_bool, Fv.kb_int_str, Fv.kb_int_list, Fv.kb_int_dict, Fv.kb_str_tuple, Fv.kb_str_int, Fv.kb_str_bool, Fv.kb_str_str, Fv.kb_str_list, Fv.kb_str_dict, Fv.kb_tuple_tuple, Fv.kb_tuple_int, Fv.kb_tuple_bool, Fv.kb_tuple_str, Fv.kb_tuple_list, Fv.kb_tuple_dict, Fv.kb_list_tuple, Fv.kb_list_int, Fv.kb_list_bool, Fv.kb_list_str, Fv.kb_list_list, Fv.kb_list_dict, Fv.kb_dict_tuple, Fv.kb_dict_int, Fv.kb_dict_bool, Fv.kb_dict_str, Fv.kb_dict_list, Fv.kb_dict_dict, Fv.o_add_ii, Fv.o_add_ss, Fv.o_add_tt, Fv.o_add_rr, Fv.o_sub_ii, Fv.o_mul_ii, Fv.o_mul_rk, Fv.o_mod_ii, Fv.o_div_ii, Fv.o_pow_ii, Fv.o_lt_ii, Fv.o_lt_ss, Fv.o_eq_nn, Fv.o_eq_ni, Fv.o_eq_in, Fv.o_eq_nb, Fv.o_eq_bn, Fv.o_eq_ns, Fv.o_eq_sn, Fv.o_eq_ii, Fv.o_eq_bb, Fv.o_eq_ss, Fv.o_eq_is, Fv.o_eq_si, Fv.o_eq_bs, Fv.o_eq_sb, Fv.o_eq_tt, Fv.o_eq_tr, Fv.o_eq_tn, Fv.o_eq_nt, Fv.o_eq_ti, Fv.o_eq_it, Fv.o_eq_tb, Fv.o_eq_bt, Fv.o_eq_ts, Fv.o_eq_st, Fv.o_eq_rt, Fv.o_eq_rr, Fv.o_eq_rn, Fv.o_eq_nr, Fv.o_eq_ri, Fv.o_eq_ir, Fv.o_eq_rb, Fv.o_eq_br, Fv.o_eq_rs, Fv.o_eq_sr, Fv.o_tru_n, Fv.o_tru_b, Fv.o_tru_i, Fv.o_tru_s, Fv.o_tru_t, Fv.o_tru_w, Fv.o_tru_r, Fv.o_idx_t, Fv.o_idx_w, Fv.o_idx_r, Fv.o_idx_s, Fv.o_idx_d, Fv.o_sl_t, Fv.o_sl_s, Fv.o_sl_r, Fv.o_isi_n, Fv.o_isi_b, Fv.o_isi_i, Fv.o_isi_s, Fv.o_isi_t, Fv.o_isi_w, Fv.o_isi_d, Fv.o_isi_r, Fv.o_len_t, Fv.o_len_w, Fv.o_len_s, Fv.o_len_r, Fv.o_abs, Fv.o_max, Fv.o_min, Fv.o_str, Fv.o_repr, Fv.o_tuple_t, Fv.o_tuple_r, Fv.o_list_t, Fv.o_list_r, Fv.o_set_r, Fv.o_in_t, Fv.o_in_w, Fv.o_in_r, Fv.o_in_s, Fv.o_in_d, Fv.setAll, eq_self, and_true])
      have size : sizeLine = 16777216 := rfl
      exact ⟨by omega, hR _ _ ⟨r, d ++ [i], rfl, by simp, by rw [← hd]; simp, rfl⟩⟩
/-- one turn of the law's loop -/
theorem turn (k : Nat) {a : Addr} {o : PO} {c b : Int} {D : PD} {G : PH} (h : G a = some o) (bg : BagO o c) (hc : c < 500) (hb : 2 ≤ b) (hb2 : b ≤ 5) (x0 x1 x4 x5 x6 x7 x8 x9 x10 x11 x12 x13 : Option PV)
    (q : ∀ (G3 : PH) (o3 : PO) (x5 x6 x7 x8 x9 x10 x11 x12 x13 : Option PV), G3 a = some o3 → BagO o3 (c + 15) → D.nx [x0, x1, some (.ref a), some (.int b), x4, x5, x6, x7, x8, x9, x10, x11, x12, x13] G3) :
    wSs (run Γ gl (k + 5)) blaw_f2 D [x0, x1, some (.ref a), some (.int b), x4, x5, x6, x7, x8, x9, x10, x11, x12, x13] G := by
  refine ss_step fun N hN => ?_
  (try simp only [Fv.wSs, Fv.wS, Fv.wE, Fv.wT, Fv.wTs, Fv.wA, Fv.wO, Fv.wG, Fv.wGs, Fv.wI, Fv.wVar, Fv.wCst, Fv.wOp, Fv.wUn, Fv.wIte, Fv.wNil, Fv.wCons, Fv.wTup, Fv.wLst, Fv.wCall, Fv.wName, Fv.wGNil, Fv.wGCons, Fv.pBin, Fv.pCmp, Fv.pCmpB, Fv.pBn, Fv.pIsN, Fv.isNon, Fv.endP, List.getElem?_cons_zero, List.getElem?_cons_succ, List.set_cons_zero, List.set_cons_succ, List.map_cons, List.map_nil, List.zip_cons_cons, List.zip_nil_left, Option.map_some, decide_eq_true_eq, if_true, if_false, reduceCtorEq, ↓reduceIte, Bool.not_true, Bool.not_false, Bool.false_eq_true, Fv.pu_same, Fv.pu_pu, L2.ixN, Fv.atI_0, Fv.atI_1, Fv.atI_2, Fv.atI_3, Fv.atI_4, Fv.atI_5, List.length_cons, List.length_nil, Nat.reduceAdd, Int.reduceLT, Int.reduceLE, Int.cast_ofNat_Int, List.length_set, Nat.lt_add_one, true_and, Option.bind_some, Int.toNat_zero, Int.toNat_one, Int.reduceToNat, Nat.zero_add, Int.zero_lt_one, Int.reduceBEq, beq_self_eq_true, List.length_map, ite_true, ite_false, Int.reduceNeg, Fv.atI_last, List.getLast_cons_cons, List.getLast_singleton, Fv.kb_NoneType_tuple, Fv.kb_NoneType_int, Fv.kb_NoneType_bool, Fv.kb_NoneType_str, Fv.kb_NoneType_list, Fv.kb_NoneType_dict, Fv.kb_bool_tuple, Fv.kb_bool_int, Fv.kb_bool_bool, Fv.kb_bool_str, Fv.kb_bool_list, Fv.kb_bool_dict, Fv.kb_int_tuple, Fv.kb_int_int, Fv.kb_int_bool, Fv.kb_int_str, Fv.kb_int_list, Fv.kb_int_dict, Fv.kb_str_tuple, Fv.kb_str_int, Fv.kb_str_bool, Fv.kb_str_str, Fv.kb_str_list, Fv.kb_str_dict, Fv.kb_tuple_tuple, Fv.kb_tuple_int, Fv.kb_tuple_bool, Fv.kb_tuple_str, Fv.kb_tuple_list, Fv.kb_tuple_dict, Fv.kb_list_tuple, Fv.kb_list_int, Fv.kb_list_bool, Fv.kb_list_str, Fv.kb_list_list, Fv.kb_list_dict, Fv.kb_dict_tuple, Fv.kb_dict_int, Fv.kb_dict_bool, Fv.kb_dict_str, Fv.kb_dict_list, Fv.kb_dict_dict, Fv.o_add_ii, Fv.o_add_ss, Fv.o_add_tt, Fv.o_add_rr, Fv.o_sub_ii, Fv.o_mul_ii, Fv.o_mul_rk, Fv.o_mod_ii, Fv.o_div_ii, Fv.o_pow_ii, Fv.o_lt_ii, Fv.o_lt_ss, Fv.o_eq_nn, Fv.o_eq_ni, Fv.o_eq_in, Fv.o_eq_nb, Fv.o_eq_bn, Fv.o_eq_ns, Fv.o_eq_sn, Fv.o_eq_ii, Fv.o_eq_bb, Fv.o_eq_ss, Fv.o_eq_is, Fv.o_eq_si, Fv.o_eq_bs, Fv.o_eq_sb, Fv.o_eq_tt, Fv.o_eq_tr, Fv.o_eq_tn, Fv.o_eq_nt, Fv.o_eq_ti, Fv.o_eq_it, Fv.o_eq_tb, Fv.o_eq_bt, Fv.o_eq_ts, Fv.o_eq_st, Fv.o_eq_rt, Fv.o_eq_rr, Fv.o_eq_rn, Fv.o_eq_nr, Fv.o_eq_ri, Fv.o_eq_ir, Fv.o_eq_rb, Fv.o_eq_br, Fv.o_eq_rs, Fv.o_eq_sr, Fv.o_tru_n, Fv.o_tru_b, Fv.o_tru_i, Fv.o_tru_s, Fv.o_tru_t, Fv.o_tru_w, Fv.o_tru_r, Fv.o_idx_t, Fv.o_idx_w, Fv.o_idx_r, Fv.o_idx_s, Fv.o_idx_d, Fv.o_sl_t, Fv.o_sl_s, Fv.o_sl_r, Fv.o_isi_n, Fv.o_isi_b, Fv.o_isi_i, Fv.o_isi_s, Fv.o_isi_t, Fv.o_isi_w, Fv.o_isi_d, Fv.o_isi_r, Fv.o_len_t, Fv.o_len_w, Fv.o_len_s, Fv.o_len_r, Fv.o_abs, Fv.o_max, Fv.o_min, Fv.o_str, Fv.o_repr, Fv.o_tuple_t, Fv.o_tuple_r, Fv.o_list_t, Fv.o_list_r, Fv.o_set_r, Fv.o_in_t, Fv.o_in_w, Fv.o_in_r, Fv.o_in_s, Fv.o_in_d, Fv.setAll, eq_self, and_true, wipeP])
  refine s_take g_take _ h bg (by omega) (by omega) (by omega) fun n o2 n0 n1 bg2 => ?_
  (try simp only [Fv.wSs, Fv.wS, Fv.wE, Fv.wT, Fv.wTs, Fv.wA, Fv.wO, Fv.wG, Fv.wGs, Fv.wI, Fv.wVar, Fv.wCst, Fv.wOp, Fv.wUn, Fv.wIte, Fv.wNil, Fv.wCons, Fv.wTup, Fv.wLst, Fv.wCall, Fv.wName, Fv.wGNil, Fv.wGCons, Fv.pBin, Fv.pCmp, Fv.pCmpB, Fv.pBn, Fv.pIsN, Fv.isNon, Fv.endP, List.getElem?_cons_zero, List.getElem?_cons_succ, List.set_cons_zero, List.set_cons_succ, List.map_cons, List.map_nil, List.zip_cons_cons, List.zip_nil_left, Option.map_some, decide_eq_true_eq, if_true, if_false, reduceCtorEq, ↓reduceIte, Bool.not_true, Bool.not_false, Bool.false_eq_true, Fv.pu_same, Fv.pu_pu, L2.ixN, Fv.atI_0, Fv.atI_1, Fv.atI_2, Fv.atI_3, Fv.atI_4, Fv.atI_5, List.length_cons, List.length_nil, Nat.reduceAdd, Int.reduceLT, Int.reduceLE, Int.cast_ofNat_Int, List.length_set, Nat.lt_add_one, true_and, Option.bind_some, Int.toNat_zero, Int.toNat_one, Int.reduceToNat, Nat.zero_add, Int.zero_lt_one, Int.reduceBEq, beq_self_eq_true, List.length_map, ite_true, ite_false, Int.reduceNeg, Fv.atI_last, List.getLast_cons_cons, List.getLast_singleton, Fv.kb_NoneType_tuple, Fv.kb_NoneType_int, Fv.kb_NoneType_bool, Fv.kb_NoneType_str, Fv.kb_NoneType_list, Fv.kb_NoneType_dict, Fv.kb_bool_tuple, Fv.kb_bool_int, Fv.kb_bool_bool, Fv.kb_bool_str, Fv.kb_bool_list, Fv.kb_bool_dict, Fv.kb_int_tuple, Fv.kb_int_int, Fv.kb_int_bool, Fv.kb_int_str, Fv.kb_int_list, Fv.kb_int_dict, Fv.kb_str_tuple, Fv.kb_str_int, Fv.kb_str_bool, Fv.kb_str_str, Fv.kb_str_list, Fv.kb_str_dict, Fv.kb_tuple_tuple, Fv.kb_tuple_int, Fv.kb_tuple_bool, Fv.kb_tuple_str, Fv.kb_tuple_list, Fv.kb_tuple_dict, Fv.kb_list_tuple, Fv.kb_list_int, Fv.kb_list_bool, Fv.kb_list_str, Fv.kb_list_list, Fv.kb_list_dict, Fv.kb_dict_tuple, Fv.kb_dict_int, Fv.kb_dict_bool, Fv.kb_dict_str, Fv.kb_dict_list, Fv.kb_dict_dict, Fv.o_add_ii, Fv.o_add_ss, Fv.o_add_tt, Fv.o_add_rr, Fv.o_sub_ii, Fv.o_mul_ii, Fv.o_mul_rk, Fv.o_mod_ii, Fv.o_div_ii, Fv.o_pow_ii, Fv.o_lt_ii, Fv.o_lt_ss, Fv.o_eq_nn, Fv.o_eq_ni, Fv.o_eq_in, Fv.o_eq_nb, Fv.o_eq_bn, Fv.o_eq_ns, Fv.o_eq_sn, Fv.o_eq_ii, Fv.o_eq_bb, Fv.o_eq_ss, Fv.o_eq_is, Fv.o_eq_si, Fv.o_eq_bs, Fv.o_eq_sb, Fv.o_eq_tt, Fv.o_eq_tr, Fv.o_eq_tn, Fv.o_eq_nt, Fv.o_eq_ti, Fv.o_eq_it, Fv.o_eq_tb, Fv.o_eq_bt, Fv.o_eq_ts, Fv.o_eq_st, Fv.o_eq_rt, Fv.o_eq_rr, Fv.o_eq_rn, Fv.o_eq_nr, Fv.o_eq_ri, Fv.o_eq_ir, Fv.o_eq_rb, Fv.o_eq_br, Fv.o_eq_rs, Fv.o_eq_sr, Fv.o_tru_n, Fv.o_tru_b, Fv.o_tru_i, Fv.o_tru_s, Fv.o_tru_t, Fv.o_tru_w, Fv.o_tru_r, Fv.o_idx_t, Fv.o_idx_w, Fv.o_idx_r, Fv.o_idx_s, Fv.o_idx_d, Fv.o_sl_t, Fv.o_sl_s, Fv.o_sl_r, Fv.o_isi_n, Fv.o_isi_b, Fv.o_isi_i, Fv.o_isi_s, Fv.o_isi_t, Fv.o_isi_w, Fv.o_isi_d, Fv.o_isi_r, Fv.o_len_t, Fv.o_len_w, Fv.o_len_s, Fv.o_len_r, Fv.o_abs, Fv.o_max, Fv.o_min, Fv.o_str, Fv.o_repr, Fv.o_tuple_t, Fv.o_tuple_r, Fv.o_list_t, Fv.o_list_r, Fv.o_set_r, Fv.o_in_t, Fv.o_in_w, Fv.o_in_r, Fv.o_in_s, Fv.o_in_d, Fv.setAll, eq_self, and_true])
  refine ⟨by omega, by omega, ?_⟩
  rw [range_ints]
  refine lc_inv (fun xs acc G1 => ∃ (r : List Int) (ms : List Mp) (o1 : PO), xs = r.map PV.int ∧ acc = ms.map Mp.pv ∧ (∀ m ∈ ms, m.ok b) ∧ ms.length + r.length ≤ 6 ∧ G1 a = some o1 ∧ BagO o1 (c + 13 - 2 * r.length))
    ⟨_, [], o2, rfl, rfl, (fun _ h => nomatch h), (by simp only [List.length_map, List.length_range, List.length_nil]; omega), pu_same, bg2.mono (by simp only [List.length_map, List.length_range]; omega)⟩ (fun _ _ _ _ => kept_nil) ?_ ?_
  · rintro acc G1 ⟨r, ms, o1, e, rfl, hok, hlen, h1, bg1⟩ s hs
    have hsa : a ≠ s := ne_of_free h1 hs
    have h1' : pu G1 s (.lst (ms.map Mp.pv)) a = some o1 := by rw [pu_ne hsa, h1]
    have hs' : pu G1 s (.lst (ms.map Mp.pv)) s = some (.lst (ms.map Mp.pv)) := pu_same
    generalize pu G1 s (.lst (ms.map Mp.pv)) = G2 at h1' hs' ⊢
    cases r with
    | cons _ _ => cases e
    | nil =>
      simp only [List.length_nil] at hlen bg1
      have hok2 := fol_ok (by omega) ms (.fnd 0) (zero_ok (by omega)) hok
      refine hN _ _ (ss_step fun N1 hN1 => ?_)
      (try simp only [Fv.wSs, Fv.wS, Fv.wE, Fv.wT, Fv.wTs, Fv.wA, Fv.wO, Fv.wG, Fv.wGs, Fv.wI, Fv.wVar, Fv.wCst, Fv.wOp, Fv.wUn, Fv.wIte, Fv.wNil, Fv.wCons, Fv.wTup, Fv.wLst, Fv.wCall, Fv.wName, Fv.wGNil, Fv.wGCons, Fv.pBin, Fv.pCmp, Fv.pCmpB, Fv.pBn, Fv.pIsN, Fv.isNon, Fv.endP, List.getElem?_cons_zero, List.getElem?_cons_succ, List.set_cons_zero, List.set_cons_succ, List.map_cons, List.map_nil, List.zip_cons_cons, List.zip_nil_left, Option.map_some, decide_eq_true_eq, if_true, if_false, reduceCtorEq, ↓reduceIte, Bool.not_true, Bool.not_false, Bool.false_eq_true, Fv.pu_same, Fv.pu_pu, L2.ixN, Fv.atI_0, Fv.atI_1, Fv.atI_2, Fv.atI_3, Fv.atI_4, Fv.atI_5, List.length_cons, List.length_nil, Nat.reduceAdd, Int.reduceLT, Int.reduceLE, Int.cast_ofNat_Int, List.length_set, Nat.lt_add_one, true_and, Option.bind_some, Int.toNat_zero, Int.toNat_one, Int.reduceToNat, Nat.zero_add, Int.zero_lt_one, Int.reduceBEq, beq_self_eq_true, List.length_map, ite_true, ite_false, Int.reduceNeg, Fv.atI_last, List.getLast_cons_cons, List.getLast_singleton, Fv.kb_NoneType_tuple, Fv.kb_NoneType_int, Fv.kb_NoneType_bool, Fv.kb_NoneType_str, Fv.kb_NoneType_list, Fv.kb_NoneType_dict, Fv.kb_bool_tuple, Fv.kb_bool_int, Fv.kb_bool_bool, Fv.kb_bool_str, Fv.kb_bool_list, Fv.kb_bool_dict, Fv.kb_int_tuple, Fv.kb_int_int, Fv.kb_int_bool, Fv.kb_int_str, Fv.kb_int_list, Fv.kb_int_dict, Fv.kb_str_tuple, Fv.kb_str_int, Fv.kb_str_bool, Fv.kb_str_str, Fv.kb_str_list, Fv.kb_str_dict, Fv.kb_tuple_tuple, Fv.kb_tuple_int, Fv.kb_tuple_bool, Fv.kb_tuple_str, Fv.kb_tuple_list, Fv.kb_tuple_dict, Fv.kb_list_tuple, Fv.kb_list_int, Fv.kb_list_bool, Fv.kb_list_str, Fv.kb_list_list, Fv.kb_list_dict, Fv.kb_dict_tuple, Fv.kb_dict_int, Fv.kb_dict_bool, Fv.kb_dict_str, Fv.kb_dict_list, Fv.kb_dict_dict, Fv.o_add_ii, Fv.o_add_ss, Fv.o_add_tt, Fv.o_add_rr, Fv.o_sub_ii, Fv.o_mul_ii, Fv.o_mul_rk, Fv.o_mod_ii, Fv.o_div_ii, Fv.o_pow_ii, Fv.o_lt_ii, Fv.o_lt_ss, Fv.o_eq_nn, Fv.o_eq_ni, Fv.o_eq_in, Fv.o_eq_nb, Fv.o_eq_bn, Fv.o_eq_ns, Fv.o_eq_sn, Fv.o_eq_ii, Fv.o_eq_bb, Fv.o_eq_ss, Fv.o_eq_is, Fv.o_eq_si, Fv.o_eq_bs, Fv.o_eq_sb, Fv.o_eq_tt, Fv.o_eq_tr, Fv.o_eq_tn, Fv.o_eq_nt, Fv.o_eq_ti, Fv.o_eq_it, Fv.o_eq_tb, Fv.o_eq_bt, Fv.o_eq_ts, Fv.o_eq_st, Fv.o_eq_rt, Fv.o_eq_rr, Fv.o_eq_rn, Fv.o_eq_nr, Fv.o_eq_ri, Fv.o_eq_ir, Fv.o_eq_rb, Fv.o_eq_br, Fv.o_eq_rs, Fv.o_eq_sr, Fv.o_tru_n, Fv.o_tru_b, Fv.o_tru_i, Fv.o_tru_s, Fv.o_tru_t, Fv.o_tru_w, Fv.o_tru_r, Fv.o_idx_t, Fv.o_idx_w, Fv.o_idx_r, Fv.o_idx_s, Fv.o_idx_d, Fv.o_sl_t, Fv.o_sl_s, Fv.o_sl_r, Fv.o_isi_n, Fv.o_isi_b, Fv.o_isi_i, Fv.o_isi_s, Fv.o_isi_t, Fv.o_isi_w, Fv.o_isi_d, Fv.o_isi_r, Fv.o_len_t, Fv.o_len_w, Fv.o_len_s, Fv.o_len_r, Fv.o_abs, Fv.o_max, Fv.o_min, Fv.o_str, Fv.o_repr, Fv.o_tuple_t, Fv.o_tuple_r, Fv.o_list_t, Fv.o_list_r, Fv.o_set_r, Fv.o_in_t, Fv.o_in_w, Fv.o_in_r, Fv.o_in_s, Fv.o_in_d, Fv.setAll, eq_self, and_true])
      refine s_folded (k + 1) ms hs' hok (by omega) ?_
      refine composed_g (k + 2) [] (by omega) (by decide) ?_
      (try simp only [Fv.wSs, Fv.wS, Fv.wE, Fv.wT, Fv.wTs, Fv.wA, Fv.wO, Fv.wG, Fv.wGs, Fv.wI, Fv.wVar, Fv.wCst, Fv.wOp, Fv.wUn, Fv.wIte, Fv.wNil, Fv.wCons, Fv.wTup, Fv.wLst, Fv.wCall, Fv.wName, Fv.wGNil, Fv.wGCons, Fv.pBin, Fv.pCmp, Fv.pCmpB, Fv.pBn, Fv.pIsN, Fv.isNon, Fv.endP, List.getElem?_cons_zero, List.getElem?_cons_succ, List.set_cons_zero, List.set_cons_succ, List.map_cons, List.map_nil, List.zip_cons_cons, List.zip_nil_left, Option.map_some, decide_eq_true_eq, if_true, if_false, reduceCtorEq, ↓reduceIte, Bool.not_true, Bool.not_false, Bool.false_eq_true, Fv.pu_same, Fv.pu_pu, L2.ixN, Fv.atI_0, Fv.atI_1, Fv.atI_2, Fv.atI_3, Fv.atI_4, Fv.atI_5, List.length_cons, List.length_nil, Nat.reduceAdd, Int.reduceLT, Int.reduceLE, Int.cast_ofNat_Int, List.length_set, Nat.lt_add_one, true_and, Option.bind_some, Int.toNat_zero, Int.toNat_one, Int.reduceToNat, Nat.zero_add, Int.zero_lt_one, Int.reduceBEq, beq_self_eq_true, List.length_map, ite_true, ite_false, Int.reduceNeg, Fv.atI_last, List.getLast_cons_cons, List.getLast_singleton, Fv.kb_NoneType_tuple, Fv.kb_NoneType_int, Fv.kb_NoneType_bool, Fv.kb_NoneType_str, Fv.kb_NoneType_list, Fv.kb_NoneType_dict, Fv.kb_bool_tuple, Fv.kb_bool_int, Fv.kb_bool_bool, Fv.kb_bool_str, Fv.kb_bool_list, Fv.kb_bool_dict, Fv.kb_int_tuple, Fv.kb_int_int, Fv.kb_int_bool, Fv.kb_int_str, Fv.kb_int_list, Fv.kb_int_dict, Fv.kb_str_tuple, Fv.kb_str_int, Fv.kb_str_bool, Fv.kb_str_str, Fv.kb_str_list, Fv.kb_str_dict, Fv.kb_tuple_tuple, Fv.kb_tuple_int, Fv.kb_tuple_bool, Fv.kb_tuple_str, Fv.kb_tuple_list, Fv.kb_tuple_dict, Fv.kb_list_tuple, Fv.kb_list_int, Fv.kb_list_bool, Fv.kb_list_str, Fv.kb_list_list, Fv.kb_list_dict, Fv.kb_dict_tuple, Fv.kb_dict_int, Fv.kb_dict_bool, Fv.kb_dict_str, Fv.kb_dict_list, Fv.kb_dict_dict, Fv.o_add_ii, Fv.o_add_ss, Fv.o_add_tt, Fv.o_add_rr, Fv.o_sub_ii, Fv.o_mul_ii, Fv.o_mul_rk, Fv.o_mod_ii, Fv.o_div_ii, Fv.o_pow_ii, Fv.o_lt_ii, Fv.o_lt_ss, Fv.o_eq_nn, Fv.o_eq_ni, Fv.o_eq_in, Fv.o_eq_nb, Fv.o_eq_bn, Fv.o_eq_ns, Fv.o_eq_sn, Fv.o_eq_ii, Fv.o_eq_bb, Fv.o_eq_ss, Fv.o_eq_is, Fv.o_eq_si, Fv.o_eq_bs, Fv.o_eq_sb, Fv.o_eq_tt, Fv.o_eq_tr, Fv.o_eq_tn, Fv.o_eq_nt, Fv.o_eq_ti, Fv.o_eq_it, Fv.o_eq_tb, Fv.o_eq_bt, Fv.o_eq_ts, Fv.o_eq_st, Fv.o_eq_rt, Fv.o_eq_rr, Fv.o_eq_rn, Fv.o_eq_nr, Fv.o_eq_ri, Fv.o_eq_ir, Fv.o_eq_rb, Fv.o_eq_br, Fv.o_eq_rs, Fv.o_eq_sr, Fv.o_tru_n, Fv.o_tru_b, Fv.o_tru_i, Fv.o_tru_s, Fv.o_tru_t, Fv.o_tru_w, Fv.o_tru_r, Fv.o_idx_t, Fv.o_idx_w, Fv.o_idx_r, Fv.o_idx_s, Fv.o_idx_d, Fv.o_sl_t, Fv.o_sl_s, Fv.o_sl_r, Fv.o_isi_n, Fv.o_isi_b, Fv.o_isi_i, Fv.o_isi_s, Fv.o_isi_t, Fv.o_isi_w, Fv.o_isi_d, Fv.o_isi_r, Fv.o_len_t, Fv.o_len_w, Fv.o_len_s, Fv.o_len_r, Fv.o_abs, Fv.o_max, Fv.o_min, Fv.o_str, Fv.o_repr, Fv.o_tuple_t, Fv.o_tuple_r, Fv.o_list_t, Fv.o_list_r, Fv.o_set_r, Fv.o_in_t, Fv.o_in_w, Fv.o_in_r, Fv.o_in_s, Fv.o_in_d, Fv.setAll, eq_self, and_true, lenG])
      refine ⟨by decide, ?_⟩
      refine hN1 _ _ ?_
      refine numbers k hs' hok hb hb2 _ _ _ _ _ _ _ _ _ _ _ fun x8 => ?_
      refine pieces k hs' hok (by omega) hb hb2 _ _ _ _ _ _ _ _ _ _ fun x9 x10 x11 => ?_
      refine others k h1' bg1 (by omega) hok2 hb hb2 _ _ _ _ _ _ _ _ _ _ _ fun x12 x13 G4 o4 h4 bg4 => ?_
      exact q _ _ _ _ _ _ _ _ _ _ _ h4 (bg4.mono (by omega))
  · rintro x xs acc G1 R ⟨r, ms, o1, e, rfl, hok, hlen, h1, bg1⟩ hR
    cases r with
    | nil => cases e
    | cons i r =>
      cases e
      simp only [List.length_cons] at hlen bg1
      (try simp only [Fv.wSs, Fv.wS, Fv.wE, Fv.wT, Fv.wTs, Fv.wA, Fv.wO, Fv.wG, Fv.wGs, Fv.wI, Fv.wVar, Fv.wCst, Fv.wOp, Fv.wUn, Fv.wIte, Fv.wNil, Fv.wCons, Fv.wTup, Fv.wLst, Fv.wCall, Fv.wName, Fv.wGNil, Fv.wGCons, Fv.pBin, Fv.pCmp, Fv.pCmpB, Fv.pBn, Fv.pIsN, Fv.isNon, Fv.endP, List.getElem?_cons_zero, List.getElem?_cons_succ, List.set_cons_zero, List.set_cons_succ, List.map_cons, List.map_nil, List.zip_cons_cons, List.zip_nil_left, Option.map_some, decide_eq_true_eq, if_true, if_false, reduceCtorEq, ↓reduceIte, Bool.not_true, Bool.not_false, Bool.false_eq_true, Fv.pu_same, Fv.pu_pu, L2.ixN, Fv.atI_0, Fv.atI_1, Fv.atI_2, Fv.atI_3, Fv.atI_4, Fv.atI_5, List.length_cons, List.length_nil, Nat.reduceAdd, Int.reduceLT, Int.reduceLE, Int.cast_ofNat_Int, List.length_set, Nat.lt_add_one, true_and, Option.bind_some, Int.toNat_zero, Int.toNat_one, Int.reduceToNat, Nat.zero_add, Int.zero_lt_one, Int.reduceBEq, beq_self_eq_true, List.length_map, ite_true, ite_false, Int.reduceNeg, Fv.atI_last, List.getLast_cons_cons, List.getLast_singleton, Fv.kb_NoneType_tuple, Fv.kb_NoneType_int, Fv.kb_NoneType_bool, Fv.kb_NoneType_str, Fv.kb_NoneType_list, Fv.kb_NoneType_dict, Fv.kb_bool_tuple, Fv.kb_bool_int, Fv.kb_bool_bool, Fv.kb_bool_str, Fv.kb_bool_list, Fv.kb_bool_dict, Fv.kb_int_tuple, Fv.kb_int_int, Fv.kb_int_bool, Fv.kb_int_str, Fv.kb_int_list, Fv.kb_int_dict, Fv.kb_str_tuple, Fv.kb_str_int, Fv.kb_str_bool, Fv.kb_str_str, Fv.kb_str_list, Fv.kb_str_dict, Fv.kb_tuple_tuple, Fv.kb_tuple_int, Fv.kb_tuple_bool, Fv.kb_tuple_str, Fv.kb_tuple_list, Fv.kb_tuple_dict, Fv.kb_list_tuple, Fv.kb_list_int, Fv.kb_list_bool, Fv.kb_list_str, Fv.kb_list_list, Fv.kb_list_dict, Fv.kb_dict_tuple, Fv.kb_dict_int, Fv.kb_dict_bool, Fv.kb_dict_str, Fv.kb_dict_list, Fv.kb_dict_dict, Fv.o_add_ii, Fv.o_add_ss, Fv.o_add_tt, Fv.o_add_rr, Fv.o_sub_ii, Fv.o_mul_ii, Fv.o_mul_rk, Fv.o_mod_ii, Fv.o_div_ii, Fv.o_pow_ii, Fv.o_lt_ii, Fv.o_lt_ss, Fv.o_eq_nn, Fv.o_eq_ni, Fv.o_eq_in, Fv.o_eq_nb, Fv.o_eq_bn, Fv.o_eq_ns, Fv.o_eq_sn, Fv.o_eq_ii, Fv.o_eq_bb, Fv.o_eq_ss, Fv.o_eq_is, Fv.o_eq_si, Fv.o_eq_bs, Fv.o_eq_sb, Fv.o_eq_tt, Fv.o_eq_tr, Fv.o_eq_tn, Fv.o_eq_nt, Fv.o_eq_ti, Fv.o_eq_it, Fv.o_eq_tb, Fv.o_eq_bt, Fv.o_eq_ts, Fv.o_eq_st, Fv.o_eq_rt, Fv.o_eq_rr, Fv.o_eq_rn, Fv.o_eq_nr, Fv.o_eq_ri, Fv.o_eq_ir, Fv.o_eq_rb, Fv.o_eq_br, Fv.o_eq_rs, Fv.o_eq_sr, Fv.o_tru_n, Fv.o_tru_b, Fv.o_tru_i, Fv.o_tru_s, Fv.o_tru_t, Fv.o_tru_w, Fv.o_tru_r, Fv.o_idx_t, Fv.o_idx_w, Fv.o_idx_r, Fv.o_idx_s, Fv.o_idx_d, Fv.o_sl_t, Fv.o_sl_s, Fv.o_sl_r, Fv.o_isi_n, Fv.o_isi_b, Fv.o_isi_i, Fv.o_isi_s, Fv.o_isi_t, Fv.o_isi_w, Fv.o_isi_d, Fv.o_isi_r, Fv.o_len_t, Fv.o_len_w, Fv.o_len_s, Fv.o_len_r, Fv.o_abs, Fv.o_max, Fv.o_min, Fv.o_str, Fv.o_repr, Fv.o_tuple_t, Fv.o_tuple_r, Fv.o_list_t, Fv.o_list_r, Fv.o_set_r, Fv.o_in_t, Fv.o_in_w, Fv.o_in_r, Fv.o_in_s, Fv.o_in_d, Fv.setAll, eq_self, and_true])
      refine s_map g_take g_map _ h1 bg1 (by omega) (by omega) (by omega) fun m o3 hm bg3 => ?_
      refine ⟨?_, hR _ _ ⟨r, ms ++ [m], o3, rfl, by simp, ?_, by simp; omega, pu_same, bg3.mono (by omega)⟩⟩
      · have : sizeLine = 16777216 := rfl
        omega
      · intro y hy
        rcases List.mem_append.1 hy with hy | hy
        · exact hok y hy
        · obtain rfl := List.mem_singleton.1 hy
          exact hm
theorem reading (ns : List Int) (h : ns.length ≤ 63) : (run Γ gl 6).fn "law" [.wl (ns.map .int)] [] (fun _ => none) (fun v _ => v = .bl true) fun _ _ _ => False := by
  refine run_call g_law rfl ?_
  show wSs _ blaw _ [some (.wl (ns.map .int)), none, none, none, none, none, none, none, none, none, none, none, none, none] _
  refine ss_step fun N hN => ?_
  (try simp only [Fv.wSs, Fv.wS, Fv.wE, Fv.wT, Fv.wTs, Fv.wA, Fv.wO, Fv.wG, Fv.wGs, Fv.wI, Fv.wVar, Fv.wCst, Fv.wOp, Fv.wUn, Fv.wIte, Fv.wNil, Fv.wCons, Fv.wTup, Fv.wLst, Fv.wCall, Fv.wName, Fv.wGNil, Fv.wGCons, Fv.pBin, Fv.pCmp, Fv.pCmpB, Fv.pBn, Fv.pIsN, Fv.isNon, Fv.endP, List.getElem?_cons_zero, List.getElem?_cons_succ, List.set_cons_zero, List.set_cons_succ, List.map_cons, List.map_nil, List.zip_cons_cons, List.zip_nil_left, Option.map_some, decide_eq_true_eq, if_true, if_false, reduceCtorEq, ↓reduceIte, Bool.not_true, Bool.not_false, Bool.false_eq_true, Fv.pu_same, Fv.pu_pu, L2.ixN, Fv.atI_0, Fv.atI_1, Fv.atI_2, Fv.atI_3, Fv.atI_4, Fv.atI_5, List.length_cons, List.length_nil, Nat.reduceAdd, Int.reduceLT, Int.reduceLE, Int.cast_ofNat_Int, List.length_set, Nat.lt_add_one, true_and, Option.bind_some, Int.toNat_zero, Int.toNat_one, Int.reduceToNat, Nat.zero_add, Int.zero_lt_one, Int.reduceBEq, beq_self_eq_true, List.length_map, ite_true, ite_false, Int.reduceNeg, Fv.atI_last, List.getLast_cons_cons, List.getLast_singleton, Fv.kb_NoneType_tuple, Fv.kb_NoneType_int, Fv.kb_NoneType_bool, Fv.kb_NoneType_str, Fv.kb_NoneType_list, Fv.kb_NoneType_dict, Fv.kb_bool_tuple, Fv.kb_bool_int, Fv.kb_bool_bool, Fv.kb_bool_str, Fv.kb_bool_list, Fv.kb_bool_dict, Fv.kb_int_tuple, Fv.kb_int_int, Fv.kb_int_bool, Fv.kb_int_str, Fv.kb_int_list, Fv.kb_int_dict, Fv.kb_str_tuple, Fv.kb_str_int, Fv.kb_str_bool, Fv.kb_str_str, Fv.kb_str_list, Fv.kb_str_dict, Fv.kb_tuple_tuple, Fv.kb_tuple_int, Fv.kb_tuple_bool, Fv.kb_tuple_str, Fv.kb_tuple_list, Fv.kb_tuple_dict, Fv.kb_list_tuple, Fv.kb_list_int, Fv.kb_list_bool, Fv.kb_list_str, Fv.kb_list_list, Fv.kb_list_dict, Fv.kb_dict_tuple, Fv.kb_dict_int, Fv.kb_dict_bool, Fv.kb_dict_str, Fv.kb_dict_list, Fv.kb_dict_dict, Fv.o_add_ii, Fv.o_add_ss, Fv.o_add_tt, Fv.o_add_rr, Fv.o_sub_ii, Fv.o_mul_ii, Fv.o_mul_rk, Fv.o_mod_ii, Fv.o_div_ii, Fv.o_pow_ii, Fv.o_lt_ii, Fv.o_lt_ss, Fv.o_eq_nn, Fv.o_eq_ni, Fv.o_eq_in, Fv.o_eq_nb, Fv.o_eq_bn, Fv.o_eq_ns, Fv.o_eq_sn, Fv.o_eq_ii, Fv.o_eq_bb, Fv.o_eq_ss, Fv.o_eq_is, Fv.o_eq_si, Fv.o_eq_bs, Fv.o_eq_sb, Fv.o_eq_tt, Fv.o_eq_tr, Fv.o_eq_tn, Fv.o_eq_nt, Fv.o_eq_ti, Fv.o_eq_it, Fv.o_eq_tb, Fv.o_eq_bt, Fv.o_eq_ts, Fv.o_eq_st, Fv.o_eq_rt, Fv.o_eq_rr, Fv.o_eq_rn, Fv.o_eq_nr, Fv.o_eq_ri, Fv.o_eq_ir, Fv.o_eq_rb, Fv.o_eq_br, Fv.o_eq_rs, Fv.o_eq_sr, Fv.o_tru_n, Fv.o_tru_b, Fv.o_tru_i, Fv.o_tru_s, Fv.o_tru_t, Fv.o_tru_w, Fv.o_tru_r, Fv.o_idx_t, Fv.o_idx_w, Fv.o_idx_r, Fv.o_idx_s, Fv.o_idx_d, Fv.o_sl_t, Fv.o_sl_s, Fv.o_sl_r, Fv.o_isi_n, Fv.o_isi_b, Fv.o_isi_i, Fv.o_isi_s, Fv.o_isi_t, Fv.o_isi_w, Fv.o_isi_d, Fv.o_isi_r, Fv.o_len_t, Fv.o_len_w, Fv.o_len_s, Fv.o_len_r, Fv.o_abs, Fv.o_max, Fv.o_min, Fv.o_str, Fv.o_repr, Fv.o_tuple_t, Fv.o_tuple_r, Fv.o_list_t, Fv.o_list_r, Fv.o_set_r, Fv.o_in_t, Fv.o_in_w, Fv.o_in_r, Fv.o_in_s, Fv.o_in_d, Fv.setAll, eq_self, and_true])
  generalize hj : (if _ > (2 : Int) then _ else (2 : Int)) = j
  have hj0 : 0 ≤ j ∧ j ≤ 6 := by
    subst hj
    split <;> split <;> omega
  refine ⟨by omega, by omega, ?_⟩
  rw [range_ints]
  refine for_inv (fun xs σ G => ∃ (r : List Int) (x1 x2 x3 x4 x5 x6 x7 x8 x9 x10 x11 x12 x13 : Option PV), xs = r.map PV.int ∧ (∀ i ∈ r, 0 ≤ i ∧ i < 1000) ∧ σ = [some (.wl (ns.map .int)), x1, x2, x3, x4, x5, x6, x7, x8, x9, x10, x11, x12, x13])
    ⟨_, _, _, _, _, _, _, _, _, _, _, _, _, _, rfl, fun i hi => by have := range_mem hi; omega, rfl⟩ (fun _ _ _ _ => kept_nil) ?_ ?_
  · rintro σ G ⟨r, x1, x2, x3, x4, x5, x6, x7, x8, x9, x10, x11, x12, x13, -, -, rfl⟩
    refine hN _ _ (ss_step fun N1 hN1 => ?_)
    (try simp only [Fv.wSs, Fv.wS, Fv.wE, Fv.wT, Fv.wTs, Fv.wA, Fv.wO, Fv.wG, Fv.wGs, Fv.wI, Fv.wVar, Fv.wCst, Fv.wOp, Fv.wUn, Fv.wIte, Fv.wNil, Fv.wCons, Fv.wTup, Fv.wLst, Fv.wCall, Fv.wName, Fv.wGNil, Fv.wGCons, Fv.pBin, Fv.pCmp, Fv.pCmpB, Fv.pBn, Fv.pIsN, Fv.isNon, Fv.endP, List.getElem?_cons_zero, List.getElem?_cons_succ, List.set_cons_zero, List.set_cons_succ, List.map_cons, List.map_nil, List.zip_cons_cons, List.zip_nil_left, Option.map_some, decide_eq_true_eq, if_true, if_false, reduceCtorEq, ↓reduceIte, Bool.not_true, Bool.not_false, Bool.false_eq_true, Fv.pu_same, Fv.pu_pu, L2.ixN, Fv.atI_0, Fv.atI_1, Fv.atI_2, Fv.atI_3, Fv.atI_4, Fv.atI_5, List.length_cons, List.length_nil, Nat.reduceAdd, Int.reduceLT, Int.reduceLE, Int.cast_ofNat_Int, List.length_set, Nat.lt_add_one, true_and, Option.bind_some, Int.toNat_zero, Int.toNat_one, Int.reduceToNat, Nat.zero_add, Int.zero_lt_one, Int.reduceBEq, beq_self_eq_true, List.length_map, ite_true, ite_false, Int.reduceNeg, Fv.atI_last, List.getLast_cons_cons, List.getLast_singleton, Fv.kb_NoneType_tuple, Fv.kb_NoneType_int, Fv.kb_NoneType_bool, Fv.kb_NoneType_str, Fv.kb_NoneType_list, Fv.kb_NoneType_dict, Fv.kb_bool_tuple, Fv.kb_bool_int, Fv.kb_bool_bool, Fv.kb_bool_str, Fv.kb_bool_list, Fv.kb_bool_dict, Fv.kb_int_tuple, Fv.kb_int_int, Fv.kb_int_bool, Fv.kb_int_str, Fv.kb_int_list, Fv.kb_int_dict, Fv.kb_str_tuple, Fv.kb_str_int, Fv.kb_str_bool, Fv.kb_str_str, Fv.kb_str_list, Fv.kb_str_dict, Fv.kb_tuple_tuple, Fv.kb_tuple_int, Fv.kb_tuple_bool, Fv.kb_tuple_str, Fv.kb_tuple_list, Fv.kb_tuple_dict, Fv.kb_list_tuple, Fv.kb_list_int, Fv.kb_list_bool, Fv.kb_list_str, Fv.kb_list_list, Fv.kb_list_dict, Fv.kb_dict_tuple, Fv.kb_dict_int, Fv.kb_dict_bool, Fv.kb_dict_str, Fv.kb_dict_list, Fv.kb_dict_dict, Fv.o_add_ii, Fv.o_add_ss, Fv.o_add_tt, Fv.o_add_rr, Fv.o_sub_ii, Fv.o_mul_ii, Fv.o_mul_rk, Fv.o_mod_ii, Fv.o_div_ii, Fv.o_pow_ii, Fv.o_lt_ii, Fv.o_lt_ss, Fv.o_eq_nn, Fv.o_eq_ni, Fv.o_eq_in, Fv.o_eq_nb, Fv.o_eq_bn, Fv.o_eq_ns, Fv.o_eq_sn, Fv.o_eq_ii, Fv.o_eq_bb, Fv.o_eq_ss, Fv.o_eq_is, Fv.o_eq_si, Fv.o_eq_bs, Fv.o_eq_sb, Fv.o_eq_tt, Fv.o_eq_tr, Fv.o_eq_tn, Fv.o_eq_nt, Fv.o_eq_ti, Fv.o_eq_it, Fv.o_eq_tb, Fv.o_eq_bt, Fv.o_eq_ts, Fv.o_eq_st, Fv.o_eq_rt, Fv.o_eq_rr, Fv.o_eq_rn, Fv.o_eq_nr, Fv.o_eq_ri, Fv.o_eq_ir, Fv.o_eq_rb, Fv.o_eq_br, Fv.o_eq_rs, Fv.o_eq_sr, Fv.o_tru_n, Fv.o_tru_b, Fv.o_tru_i, Fv.o_tru_s, Fv.o_tru_t, Fv.o_tru_w, Fv.o_tru_r, Fv.o_idx_t, Fv.o_idx_w, Fv.o_idx_r, Fv.o_idx_s, Fv.o_idx_d, Fv.o_sl_t, Fv.o_sl_s, Fv.o_sl_r, Fv.o_isi_n, Fv.o_isi_b, Fv.o_isi_i, Fv.o_isi_s, Fv.o_isi_t, Fv.o_isi_w, Fv.o_isi_d, Fv.o_isi_r, Fv.o_len_t, Fv.o_len_w, Fv.o_len_s, Fv.o_len_r, Fv.o_abs, Fv.o_max, Fv.o_min, Fv.o_str, Fv.o_repr, Fv.o_tuple_t, Fv.o_tuple_r, Fv.o_list_t, Fv.o_list_r, Fv.o_set_r, Fv.o_in_t, Fv.o_in_w, Fv.o_in_r, Fv.o_in_s, Fv.o_in_d, Fv.setAll, eq_self, and_true])
    exact ⟨_, Sub.refl _⟩
  · rintro x xs σ G R ⟨r, x1, x2, x3, x4, x5, x6, x7, x8, x9, x10, x11, x12, x13, e, hr, rfl⟩ hR
    cases r with
    | nil => cases e
    | cons i r =>
      cases e
      have hi := hr i List.mem_cons_self
      (try simp only [Fv.wSs, Fv.wS, Fv.wE, Fv.wT, Fv.wTs, Fv.wA, Fv.wO, Fv.wG, Fv.wGs, Fv.wI, Fv.wVar, Fv.wCst, Fv.wOp, Fv.wUn, Fv.wIte, Fv.wNil, Fv.wCons, Fv.wTup, Fv.wLst, Fv.wCall, Fv.wName, Fv.wGNil, Fv.wGCons, Fv.pBin, Fv.pCmp, Fv.pCmpB, Fv.pBn, Fv.pIsN, Fv.isNon, Fv.endP, List.getElem?_cons_zero, List.getElem?_cons_succ, List.set_cons_zero, List.set_cons_succ, List.map_cons, List.map_nil, List.zip_cons_cons, List.zip_nil_left, Option.map_some, decide_eq_true_eq, if_true, if_false, reduceCtorEq, ↓reduceIte, Bool.not_true, Bool.not_false, Bool.false_eq_true, Fv.pu_same, Fv.pu_pu, L2.ixN, Fv.atI_0, Fv.atI_1, Fv.atI_2, Fv.atI_3, Fv.atI_4, Fv.atI_5, List.length_cons, List.length_nil, Nat.reduceAdd, Int.reduceLT, Int.reduceLE, Int.cast_ofNat_Int, List.length_set, Nat.lt_add_one, true_and, Option.bind_some, Int.toNat_zero, Int.toNat_one, Int.reduceToNat, Nat.zero_add, Int.zero_lt_one, Int.reduceBEq, beq_self_eq_true, List.length_map, ite_true, ite_false, Int.reduceNeg, Fv.atI_last, List.getLast_cons_cons, List.getLast_singleton, Fv.kb_NoneType_tuple, Fv.kb_NoneType_int, Fv.kb_NoneType_bool, Fv.kb_NoneType_str, Fv.kb_NoneType_list, Fv.kb_NoneType_dict, Fv.kb_bool_tuple, Fv.kb_bool_int, Fv.kb_bool_bool, Fv.kb_bool_str, Fv.kb_bool_list, Fv.kb_bool_dict, Fv.kb_int_tuple, Fv.kb_int_int, Fv.kb_int_bool, Fv.kb_int_str, Fv.kb_int_list, Fv.kb_int_dict, Fv.kb_str_tuple, Fv.kb_str_int, Fv.kb_str_bool, Fv.kb_str_str, Fv.kb_str_list, Fv.kb_str_dict, Fv.kb_tuple_tuple, Fv.kb_tuple_int, Fv.kb_tuple_bool, Fv.kb_tuple_str, Fv.kb_tuple_list, Fv.kb_tuple_dict, Fv.kb_list_tuple, Fv.kb_list_int, Fv.kb_list_bool, Fv.kb_list_str, Fv.kb_list_list, Fv.kb_list_dict, Fv.kb_dict_tuple, Fv.kb_dict_int, Fv.kb_dict_bool, Fv.kb_dict_str, Fv.kb_dict_list, Fv.kb_dict_dict, Fv.o_add_ii, Fv.o_add_ss, Fv.o_add_tt, Fv.o_add_rr, Fv.o_sub_ii, Fv.o_mul_ii, Fv.o_mul_rk, Fv.o_mod_ii, Fv.o_div_ii, Fv.o_pow_ii, Fv.o_lt_ii, Fv.o_lt_ss, Fv.o_eq_nn, Fv.o_eq_ni, Fv.o_eq_in, Fv.o_eq_nb, Fv.o_eq_bn, Fv.o_eq_ns, Fv.o_eq_sn, Fv.o_eq_ii, Fv.o_eq_bb, Fv.o_eq_ss, Fv.o_eq_is, Fv.o_eq_si, Fv.o_eq_bs, Fv.o_eq_sb, Fv.o_eq_tt, Fv.o_eq_tr, Fv.o_eq_tn, Fv.o_eq_nt, Fv.o_eq_ti, Fv.o_eq_it, Fv.o_eq_tb, Fv.o_eq_bt, Fv.o_eq_ts, Fv.o_eq_st, Fv.o_eq_rt, Fv.o_eq_rr, Fv.o_eq_rn, Fv.o_eq_nr, Fv.o_eq_ri, Fv.o_eq_ir, Fv.o_eq_rb, Fv.o_eq_br, Fv.o_eq_rs, Fv.o_eq_sr, Fv.o_tru_n, Fv.o_tru_b, Fv.o_tru_i, Fv.o_tru_s, Fv.o_tru_t, Fv.o_tru_w, Fv.o_tru_r, Fv.o_idx_t, Fv.o_idx_w, Fv.o_idx_r, Fv.o_idx_s, Fv.o_idx_d, Fv.o_sl_t, Fv.o_sl_s, Fv.o_sl_r, Fv.o_isi_n, Fv.o_isi_b, Fv.o_isi_i, Fv.o_isi_s, Fv.o_isi_t, Fv.o_isi_w, Fv.o_isi_d, Fv.o_isi_r, Fv.o_len_t, Fv.o_len_w, Fv.o_len_s, Fv.o_len_r, Fv.o_abs, Fv.o_max, Fv.o_min, Fv.o_str, Fv.o_repr, Fv.o_tuple_t, Fv.o_tuple_r, Fv.o_list_t, Fv.o_list_r, Fv.o_set_r, Fv.o_in_t, Fv.o_in_w, Fv.o_in_r, Fv.o_in_s, Fv.o_in_d, Fv.setAll, eq_self, and_true])
      refine ss_step fun N1 hN1 => ?_
      (try simp only [Fv.wSs, Fv.wS, Fv.wE, Fv.wT, Fv.wTs, Fv.wA, Fv.wO, Fv.wG, Fv.wGs, Fv.wI, Fv.wVar, Fv.wCst, Fv.wOp, Fv.wUn, Fv.wIte, Fv.wNil, Fv.wCons, Fv.wTup, Fv.wLst, Fv.wCall, Fv.wName, Fv.wGNil, Fv.wGCons, Fv.pBin, Fv.pCmp, Fv.pCmpB, Fv.pBn, Fv.pIsN, Fv.isNon, Fv.endP, List.getElem?_cons_zero, List.getElem?_cons_succ, List.set_cons_zero, List.set_cons_succ, List.map_cons, List.map_nil, List.zip_cons_cons, List.zip_nil_left, Option.map_some, decide_eq_true_eq, if_true, if_false, reduceCtorEq, ↓reduceIte, Bool.not_true, Bool.not_false, Bool.false_eq_true, Fv.pu_same, Fv.pu_pu, L2.ixN, Fv.atI_0, Fv.atI_1, Fv.atI_2, Fv.atI_3, Fv.atI_4, Fv.atI_5, List.length_cons, List.length_nil, Nat.reduceAdd, Int.reduceLT, Int.reduceLE, Int.cast_ofNat_Int, List.length_set, Nat.lt_add_one, true_and, Option.bind_some, Int.toNat_zero, Int.toNat_one, Int.reduceToNat, Nat.zero_add, Int.zero_lt_one, Int.reduceBEq, beq_self_eq_true, List.length_map, ite_true, ite_false, Int.reduceNeg, Fv.atI_last, List.getLast_cons_cons, List.getLast_singleton, Fv.kb_NoneType_tuple, Fv.kb_NoneType_int, Fv.kb_NoneType_bool, Fv.kb_NoneType_str, Fv.kb_NoneType_list, Fv.kb_NoneType_dict, Fv.kb_bool_tuple, Fv.kb_bool_int, Fv.kb_bool_bool, Fv.kb_bool_str, Fv.kb_bool_list, Fv.kb_bool_dict, Fv.kb_int_tuple, Fv.kb_int_int, Fv.kb_int_bool, Fv.kb_int_str, Fv.kb_int_list, Fv.kb_int_dict, Fv.kb_str_tuple, Fv.kb_str_int, Fv.kb_str_bool, Fv.kb_str_str, Fv.kb_str_list, Fv.kb_str_dict, Fv.kb_tuple_tuple, Fv.kb_tuple_int, Fv.kb_tuple_bool, Fv.kb_tuple_str, Fv.kb_tuple_list, Fv.kb_tuple_dict, Fv.kb_list_tuple, Fv.kb_list_int, Fv.kb_list_bool, Fv.kb_list_str, Fv.kb_list_list, Fv.kb_list_dict, Fv.kb_dict_tuple, Fv.kb_dict_int, Fv.kb_dict_bool, Fv.kb_dict_str, Fv.kb_dict_list, Fv.kb_dict_dict, Fv.o_add_ii, Fv.o_add_ss, Fv.o_add_tt, Fv.o_add_rr, Fv.o_sub_ii, Fv.o_mul_ii, Fv.o_mul_rk, Fv.o_mod_ii, Fv.o_div_ii, Fv.o_pow_ii, Fv.o_lt_ii, Fv.o_lt_ss, Fv.o_eq_nn, Fv.o_eq_ni, Fv.o_eq_in, Fv.o_eq_nb, Fv.o_eq_bn, Fv.o_eq_ns, Fv.o_eq_sn, Fv.o_eq_ii, Fv.o_eq_bb, Fv.o_eq_ss, Fv.o_eq_is, Fv.o_eq_si, Fv.o_eq_bs, Fv.o_eq_sb, Fv.o_eq_tt, Fv.o_eq_tr, Fv.o_eq_tn, Fv.o_eq_nt, Fv.o_eq_ti, Fv.o_eq_it, Fv.o_eq_tb, Fv.o_eq_bt, Fv.o_eq_ts, Fv.o_eq_st, Fv.o_eq_rt, Fv.o_eq_rr, Fv.o_eq_rn, Fv.o_eq_nr, Fv.o_eq_ri, Fv.o_eq_ir, Fv.o_eq_rb, Fv.o_eq_br, Fv.o_eq_rs, Fv.o_eq_sr, Fv.o_tru_n, Fv.o_tru_b, Fv.o_tru_i, Fv.o_tru_s, Fv.o_tru_t, Fv.o_tru_w, Fv.o_tru_r, Fv.o_idx_t, Fv.o_idx_w, Fv.o_idx_r, Fv.o_idx_s, Fv.o_idx_d, Fv.o_sl_t, Fv.o_sl_s, Fv.o_sl_r, Fv.o_isi_n, Fv.o_isi_b, Fv.o_isi_i, Fv.o_isi_s, Fv.o_isi_t, Fv.o_isi_w, Fv.o_isi_d, Fv.o_isi_r, Fv.o_len_t, Fv.o_len_w, Fv.o_len_s, Fv.o_len_r, Fv.o_abs, Fv.o_max, Fv.o_min, Fv.o_str, Fv.o_repr, Fv.o_tuple_t, Fv.o_tuple_r, Fv.o_list_t, Fv.o_list_r, Fv.o_set_r, Fv.o_in_t, Fv.o_in_w, Fv.o_in_r, Fv.o_in_s, Fv.o_in_d, Fv.setAll, eq_self, and_true])
      refine s_bag g_bag _ hi.1 hi.2 fun a o ha bg => ?_
      refine hN1 _ _ (ss_step fun N2 hN2 => ?_)
      (try simp only [Fv.wSs, Fv.wS, Fv.wE, Fv.wT, Fv.wTs, Fv.wA, Fv.wO, Fv.wG, Fv.wGs, Fv.wI, Fv.wVar, Fv.wCst, Fv.wOp, Fv.wUn, Fv.wIte, Fv.wNil, Fv.wCons, Fv.wTup, Fv.wLst, Fv.wCall, Fv.wName, Fv.wGNil, Fv.wGCons, Fv.pBin, Fv.pCmp, Fv.pCmpB, Fv.pBn, Fv.pIsN, Fv.isNon, Fv.endP, List.getElem?_cons_zero, List.getElem?_cons_succ, List.set_cons_zero, List.set_cons_succ, List.map_cons, List.map_nil, List.zip_cons_cons, List.zip_nil_left, Option.map_some, decide_eq_true_eq, if_true, if_false, reduceCtorEq, ↓reduceIte, Bool.not_true, Bool.not_false, Bool.false_eq_true, Fv.pu_same, Fv.pu_pu, L2.ixN, Fv.atI_0, Fv.atI_1, Fv.atI_2, Fv.atI_3, Fv.atI_4, Fv.atI_5, List.length_cons, List.length_nil, Nat.reduceAdd, Int.reduceLT, Int.reduceLE, Int.cast_ofNat_Int, List.length_set, Nat.lt_add_one, true_and, Option.bind_some, Int.toNat_zero, Int.toNat_one, Int.reduceToNat, Nat.zero_add, Int.zero_lt_one, Int.reduceBEq, beq_self_eq_true, List.length_map, ite_true, ite_false, Int.reduceNeg, Fv.atI_last, List.getLast_cons_cons, List.getLast_singleton, Fv.kb_NoneType_tuple, Fv.kb_NoneType_int, Fv.kb_NoneType_bool, Fv.kb_NoneType_str, Fv.kb_NoneType_list, Fv.kb_NoneType_dict, Fv.kb_bool_tuple, Fv.kb_bool_int, Fv.kb_bool_bool, Fv.kb_bool_str, Fv.kb_bool_list, Fv.kb_bool_dict, Fv.kb_int_tuple, Fv.kb_int_int, Fv.kb_int_bool, Fv.kb_int_str, Fv.kb_int_list, Fv.kb_int_dict, Fv.kb_str_tuple, Fv.kb_str_int, Fv.kb_str_bool, Fv.kb_str_str, Fv.kb_str_list, Fv.kb_str_dict, Fv.kb_tuple_tuple, Fv.kb_tuple_int, Fv.kb_tuple_bool, Fv.kb_tuple_str, Fv.kb_tuple_list, Fv.kb_tuple_dict, Fv.kb_list_tuple, Fv.kb_list_int, Fv.kb_list_bool, Fv.kb_list_str, Fv.kb_list_list, Fv.kb_list_dict, Fv.kb_dict_tuple, Fv.kb_dict_int, Fv.kb_dict_bool, Fv.kb_dict_str, Fv.kb_dict_list, Fv.kb_dict_dict, Fv.o_add_ii, Fv.o_add_ss, Fv.o_add_tt, Fv.o_add_rr, Fv.o_sub_ii, Fv.o_mul_ii, Fv.o_mul_rk, Fv.o_mod_ii, Fv.o_div_ii, Fv.o_pow_ii, Fv.o_lt_ii, Fv.o_lt_ss, Fv.o_eq_nn, Fv.o_eq_ni, Fv.o_eq_in, Fv.o_eq_nb, Fv.o_eq_bn, Fv.o_eq_ns, Fv.o_eq_sn, Fv.o_eq_ii, Fv.o_eq_bb, Fv.o_eq_ss, Fv.o_eq_is, Fv.o_eq_si, Fv.o_eq_bs, Fv.o_eq_sb, Fv.o_eq_tt, Fv.o_eq_tr, Fv.o_eq_tn, Fv.o_eq_nt, Fv.o_eq_ti, Fv.o_eq_it, Fv.o_eq_tb, Fv.o_eq_bt, Fv.o_eq_ts, Fv.o_eq_st, Fv.o_eq_rt, Fv.o_eq_rr, Fv.o_eq_rn, Fv.o_eq_nr, Fv.o_eq_ri, Fv.o_eq_ir, Fv.o_eq_rb, Fv.o_eq_br, Fv.o_eq_rs, Fv.o_eq_sr, Fv.o_tru_n, Fv.o_tru_b, Fv.o_tru_i, Fv.o_tru_s, Fv.o_tru_t, Fv.o_tru_w, Fv.o_tru_r, Fv.o_idx_t, Fv.o_idx_w, Fv.o_idx_r, Fv.o_idx_s, Fv.o_idx_d, Fv.o_sl_t, Fv.o_sl_s, Fv.o_sl_r, Fv.o_isi_n, Fv.o_isi_b, Fv.o_isi_i, Fv.o_isi_s, Fv.o_isi_t, Fv.o_isi_w, Fv.o_isi_d, Fv.o_isi_r, Fv.o_len_t, Fv.o_len_w, Fv.o_len_s, Fv.o_len_r, Fv.o_abs, Fv.o_max, Fv.o_min, Fv.o_str, Fv.o_repr, Fv.o_tuple_t, Fv.o_tuple_r, Fv.o_list_t, Fv.o_list_r, Fv.o_set_r, Fv.o_in_t, Fv.o_in_w, Fv.o_in_r, Fv.o_in_s, Fv.o_in_d, Fv.setAll, eq_self, and_true])
      refine s_take g_take _ pu_same bg (by omega) (by omega) (by omega) fun t o2 t0 t1 bg2 => ?_
      (try simp only [Fv.wSs, Fv.wS, Fv.wE, Fv.wT, Fv.wTs, Fv.wA, Fv.wO, Fv.wG, Fv.wGs, Fv.wI, Fv.wVar, Fv.wCst, Fv.wOp, Fv.wUn, Fv.wIte, Fv.wNil, Fv.wCons, Fv.wTup, Fv.wLst, Fv.wCall, Fv.wName, Fv.wGNil, Fv.wGCons, Fv.pBin, Fv.pCmp, Fv.pCmpB, Fv.pBn, Fv.pIsN, Fv.isNon, Fv.endP, List.getElem?_cons_zero, List.getElem?_cons_succ, List.set_cons_zero, List.set_cons_succ, List.map_cons, List.map_nil, List.zip_cons_cons, List.zip_nil_left, Option.map_some, decide_eq_true_eq, if_true, if_false, reduceCtorEq, ↓reduceIte, Bool.not_true, Bool.not_false, Bool.false_eq_true, Fv.pu_same, Fv.pu_pu, L2.ixN, Fv.atI_0, Fv.atI_1, Fv.atI_2, Fv.atI_3, Fv.atI_4, Fv.atI_5, List.length_cons, List.length_nil, Nat.reduceAdd, Int.reduceLT, Int.reduceLE, Int.cast_ofNat_Int, List.length_set, Nat.lt_add_one, true_and, Option.bind_some, Int.toNat_zero, Int.toNat_one, Int.reduceToNat, Nat.zero_add, Int.zero_lt_one, Int.reduceBEq, beq_self_eq_true, List.length_map, ite_true, ite_false, Int.reduceNeg, Fv.atI_last, List.getLast_cons_cons, List.getLast_singleton, Fv.kb_NoneType_tuple, Fv.kb_NoneType_int, Fv.kb_NoneType_bool, Fv.kb_NoneType_str, Fv.kb_NoneType_list, Fv.kb_NoneType_dict, Fv.kb_bool_tuple, Fv.kb_bool_int, Fv.kb_bool_bool, Fv.kb_bool_str, Fv.kb_bool_list, Fv.kb_bool_dict, Fv.kb_int_tuple, Fv.kb_int_int, Fv.kb_int_bool, Fv.kb_int_str, Fv.kb_int_list, Fv.kb_int_dict, Fv.kb_str_tuple, Fv.kb_str_int, Fv.kb_str_bool, Fv.kb_str_str, Fv.kb_str_list, Fv.kb_str_dict, Fv.kb_tuple_tuple, Fv.kb_tuple_int, Fv.kb_tuple_bool, Fv.kb_tuple_str, Fv.kb_tuple_list, Fv.kb_tuple_dict, Fv.kb_list_tuple, Fv.kb_list_int, Fv.kb_list_bool, Fv.kb_list_str, Fv.kb_list_list, Fv.kb_list_dict, Fv.kb_dict_tuple, Fv.kb_dict_int, Fv.kb_dict_bool, Fv.kb_dict_str, Fv.kb_dict_list, Fv.kb_dict_dict, Fv.o_add_ii, Fv.o_add_ss, Fv.o_add_tt, Fv.o_add_rr, Fv.o_sub_ii, Fv.o_mul_ii, Fv.o_mul_rk, Fv.o_mod_ii, Fv.o_div_ii, Fv.o_pow_ii, Fv.o_lt_ii, Fv.o_lt_ss, Fv.o_eq_nn, Fv.o_eq_ni, Fv.o_eq_in, Fv.o_eq_nb, Fv.o_eq_bn, Fv.o_eq_ns, Fv.o_eq_sn, Fv.o_eq_ii, Fv.o_eq_bb, Fv.o_eq_ss, Fv.o_eq_is, Fv.o_eq_si, Fv.o_eq_bs, Fv.o_eq_sb, Fv.o_eq_tt, Fv.o_eq_tr, Fv.o_eq_tn, Fv.o_eq_nt, Fv.o_eq_ti, Fv.o_eq_it, Fv.o_eq_tb, Fv.o_eq_bt, Fv.o_eq_ts, Fv.o_eq_st, Fv.o_eq_rt, Fv.o_eq_rr, Fv.o_eq_rn, Fv.o_eq_nr, Fv.o_eq_ri, Fv.o_eq_ir, Fv.o_eq_rb, Fv.o_eq_br, Fv.o_eq_rs, Fv.o_eq_sr, Fv.o_tru_n, Fv.o_tru_b, Fv.o_tru_i, Fv.o_tru_s, Fv.o_tru_t, Fv.o_tru_w, Fv.o_tru_r, Fv.o_idx_t, Fv.o_idx_w, Fv.o_idx_r, Fv.o_idx_s, Fv.o_idx_d, Fv.o_sl_t, Fv.o_sl_s, Fv.o_sl_r, Fv.o_isi_n, Fv.o_isi_b, Fv.o_isi_i, Fv.o_isi_s, Fv.o_isi_t, Fv.o_isi_w, Fv.o_isi_d, Fv.o_isi_r, Fv.o_len_t, Fv.o_len_w, Fv.o_len_s, Fv.o_len_r, Fv.o_abs, Fv.o_max, Fv.o_min, Fv.o_str, Fv.o_repr, Fv.o_tuple_t, Fv.o_tuple_r, Fv.o_list_t, Fv.o_list_r, Fv.o_set_r, Fv.o_in_t, Fv.o_in_w, Fv.o_in_r, Fv.o_in_s, Fv.o_in_d, Fv.setAll, eq_self, and_true])
      refine hN2 _ _ (ss_step fun N3 hN3 => ?_)
      (try simp only [Fv.wSs, Fv.wS, Fv.wE, Fv.wT, Fv.wTs, Fv.wA, Fv.wO, Fv.wG, Fv.wGs, Fv.wI, Fv.wVar, Fv.wCst, Fv.wOp, Fv.wUn, Fv.wIte, Fv.wNil, Fv.wCons, Fv.wTup, Fv.wLst, Fv.wCall, Fv.wName, Fv.wGNil, Fv.wGCons, Fv.pBin, Fv.pCmp, Fv.pCmpB, Fv.pBn, Fv.pIsN, Fv.isNon, Fv.endP, List.getElem?_cons_zero, List.getElem?_cons_succ, List.set_cons_zero, List.set_cons_succ, List.map_cons, List.map_nil, List.zip_cons_cons, List.zip_nil_left, Option.map_some, decide_eq_true_eq, if_true, if_false, reduceCtorEq, ↓reduceIte, Bool.not_true, Bool.not_false, Bool.false_eq_true, Fv.pu_same, Fv.pu_pu, L2.ixN, Fv.atI_0, Fv.atI_1, Fv.atI_2, Fv.atI_3, Fv.atI_4, Fv.atI_5, List.length_cons, List.length_nil, Nat.reduceAdd, Int.reduceLT, Int.reduceLE, Int.cast_ofNat_Int, List.length_set, Nat.lt_add_one, true_and, Option.bind_some, Int.toNat_zero, Int.toNat_one, Int.reduceToNat, Nat.zero_add, Int.zero_lt_one, Int.reduceBEq, beq_self_eq_true, List.length_map, ite_true, ite_false, Int.reduceNeg, Fv.atI_last, List.getLast_cons_cons, List.getLast_singleton, Fv.kb_NoneType_tuple, Fv.kb_NoneType_int, Fv.kb_NoneType_bool, Fv.kb_NoneType_str, Fv.kb_NoneType_list, Fv.kb_NoneType_dict, Fv.kb_bool_tuple, Fv.kb_bool_int, Fv.kb_bool_bool, Fv.kb_bool_str, Fv.kb_bool_list, Fv.kb_bool_dict, Fv.kb_int_tuple, Fv.kb_int_int, Fv.kb_int_bool, Fv.kb_int_str, Fv.kb_int_list, Fv.kb_int_dict, Fv.kb_str_tuple, Fv.kb_str_int, Fv.kb_str_bool, Fv.kb_str_str, Fv.kb_str_list, Fv.kb_str_dict, Fv.kb_tuple_tuple, Fv.kb_tuple_int, Fv.kb_tuple_bool, Fv.kb_tuple_str, Fv.kb_tuple_list, Fv.kb_tuple_dict, Fv.kb_list_tuple, Fv.kb_list_int, Fv.kb_list_bool, Fv.kb_list_str, Fv.kb_list_list, Fv.kb_list_dict, Fv.kb_dict_tuple, Fv.kb_dict_int, Fv.kb_dict_bool, Fv.kb_dict_str, Fv.kb_dict_list, Fv.kb_dict_dict, Fv.o_add_ii, Fv.o_add_ss, Fv.o_add_tt, Fv.o_add_rr, Fv.o_sub_ii, Fv.o_mul_ii, Fv.o_mul_rk, Fv.o_mod_ii, Fv.o_div_ii, Fv.o_pow_ii, Fv.o_lt_ii, Fv.o_lt_ss, Fv.o_eq_nn, Fv.o_eq_ni, Fv.o_eq_in, Fv.o_eq_nb, Fv.o_eq_bn, Fv.o_eq_ns, Fv.o_eq_sn, Fv.o_eq_ii, Fv.o_eq_bb, Fv.o_eq_ss, Fv.o_eq_is, Fv.o_eq_si, Fv.o_eq_bs, Fv.o_eq_sb, Fv.o_eq_tt, Fv.o_eq_tr, Fv.o_eq_tn, Fv.o_eq_nt, Fv.o_eq_ti, Fv.o_eq_it, Fv.o_eq_tb, Fv.o_eq_bt, Fv.o_eq_ts, Fv.o_eq_st, Fv.o_eq_rt, Fv.o_eq_rr, Fv.o_eq_rn, Fv.o_eq_nr, Fv.o_eq_ri, Fv.o_eq_ir, Fv.o_eq_rb, Fv.o_eq_br, Fv.o_eq_rs, Fv.o_eq_sr, Fv.o_tru_n, Fv.o_tru_b, Fv.o_tru_i, Fv.o_tru_s, Fv.o_tru_t, Fv.o_tru_w, Fv.o_tru_r, Fv.o_idx_t, Fv.o_idx_w, Fv.o_idx_r, Fv.o_idx_s, Fv.o_idx_d, Fv.o_sl_t, Fv.o_sl_s, Fv.o_sl_r, Fv.o_isi_n, Fv.o_isi_b, Fv.o_isi_i, Fv.o_isi_s, Fv.o_isi_t, Fv.o_isi_w, Fv.o_isi_d, Fv.o_isi_r, Fv.o_len_t, Fv.o_len_w, Fv.o_len_s, Fv.o_len_r, Fv.o_abs, Fv.o_max, Fv.o_min, Fv.o_str, Fv.o_repr, Fv.o_tuple_t, Fv.o_tuple_r, Fv.o_list_t, Fv.o_list_r, Fv.o_set_r, Fv.o_in_t, Fv.o_in_w, Fv.o_in_r, Fv.o_in_s, Fv.o_in_d, Fv.setAll, eq_self, and_true])
      refine ⟨by omega, by omega, ?_⟩
      rw [range_ints]
      refine for_inv (fun xs σ G => ∃ (r : List Int) (o : PO) (x4 x5 x6 x7 x8 x9 x10 x11 x12 x13 : Option PV), xs = r.map PV.int ∧ r.length ≤ 8 ∧ σ = [some (.wl (ns.map .int)), some (.int i), some (.ref a), some (.int (2 + t)), x4, x5, x6, x7, x8, x9, x10, x11, x12, x13] ∧ G a = some o ∧ BagO o (1 + 15 * (8 - r.length)))
        ⟨_, o2, _, _, _, _, _, _, _, _, _, _, rfl, by simp, rfl, pu_same, bg2.mono (by simp)⟩ (fun _ _ _ _ => kept_nil) ?_ ?_
      · rintro σ G ⟨r2, o, x4, x5, x6, x7, x8, x9, x10, x11, x12, x13, -, -, rfl, -, -⟩
        exact hN3 _ _ (ss_nil (hR _ _ _ (Sub.refl _) ⟨r, _, _, _, _, _, _, _, _, _, _, _, _, _, rfl, fun i hi => hr i (List.mem_cons_of_mem _ hi), rfl⟩))
      · rintro x xs σ G R2 ⟨r2, o, x4, x5, x6, x7, x8, x9, x10, x11, x12, x13, e, hl, rfl, ha2, bg3⟩ hR2
        cases r2 with
        | nil => cases e
        | cons j r2 =>
          cases e
          simp only [List.length_cons] at hl bg3
          (try simp only [Fv.wSs, Fv.wS, Fv.wE, Fv.wT, Fv.wTs, Fv.wA, Fv.wO, Fv.wG, Fv.wGs, Fv.wI, Fv.wVar, Fv.wCst, Fv.wOp, Fv.wUn, Fv.wIte, Fv.wNil, Fv.wCons, Fv.wTup, Fv.wLst, Fv.wCall, Fv.wName, Fv.wGNil, Fv.wGCons, Fv.pBin, Fv.pCmp, Fv.pCmpB, Fv.pBn, Fv.pIsN, Fv.isNon, Fv.endP, List.getElem?_cons_zero, List.getElem?_cons_succ, List.set_cons_zero, List.set_cons_succ, List.map_cons, List.map_nil, List.zip_cons_cons, List.zip_nil_left, Option.map_some, decide_eq_true_eq, if_true, if_false, reduceCtorEq, ↓reduceIte, Bool.not_true, Bool.not_false, Bool.false_eq_true, Fv.pu_same, Fv.pu_pu, L2.ixN, Fv.atI_0, Fv.atI_1, Fv.atI_2, Fv.atI_3, Fv.atI_4, Fv.atI_5, List.length_cons, List.length_nil, Nat.reduceAdd, Int.reduceLT, Int.reduceLE, Int.cast_ofNat_Int, List.length_set, Nat.lt_add_one, true_and, Option.bind_some, Int.toNat_zero, Int.toNat_one, Int.reduceToNat, Nat.zero_add, Int.zero_lt_one, Int.reduceBEq, beq_self_eq_true, List.length_map, ite_true, ite_false, Int.reduceNeg, Fv.atI_last, List.getLast_cons_cons, List.getLast_singleton, Fv.kb_NoneType_tuple, Fv.kb_NoneType_int, Fv.kb_NoneType_bool, Fv.kb_NoneType_str, Fv.kb_NoneType_list, Fv.kb_NoneType_dict, Fv.kb_bool_tuple, Fv.kb_bool_int, Fv.kb_bool_bool, Fv.kb_bool_str, Fv.kb_bool_list, Fv.kb_bool_dict, Fv.kb_int_tuple, Fv.kb_int_int, Fv.kb_int_bool, Fv.kb_int_str, Fv.kb_int_list, Fv.kb_int_dict, Fv.kb_str_tuple, Fv.kb_str_int, Fv.kb_str_bool, Fv.kb_str_str, Fv.kb_str_list, Fv.kb_str_dict, Fv.kb_tuple_tuple, Fv.kb_tuple_int, Fv.kb_tuple_bool, Fv.kb_tuple_str, Fv.kb_tuple_list, Fv.kb_tuple_dict, Fv.kb_list_tuple, Fv.kb_list_int, Fv.kb_list_bool, Fv.kb_list_str, Fv.kb_list_list, Fv.kb_list_dict, Fv.kb_dict_tuple, Fv.kb_dict_int, Fv.kb_dict_bool, Fv.kb_dict_str, Fv.kb_dict_list, Fv.kb_dict_dict, Fv.o_add_ii, Fv.o_add_ss, Fv.o_add_tt, Fv.o_add_rr, Fv.o_sub_ii, Fv.o_mul_ii, Fv.o_mul_rk, Fv.o_mod_ii, Fv.o_div_ii, Fv.o_pow_ii, Fv.o_lt_ii, Fv.o_lt_ss, Fv.o_eq_nn, Fv.o_eq_ni, Fv.o_eq_in, Fv.o_eq_nb, Fv.o_eq_bn, Fv.o_eq_ns, Fv.o_eq_sn, Fv.o_eq_ii, Fv.o_eq_bb, Fv.o_eq_ss, Fv.o_eq_is, Fv.o_eq_si, Fv.o_eq_bs, Fv.o_eq_sb, Fv.o_eq_tt, Fv.o_eq_tr, Fv.o_eq_tn, Fv.o_eq_nt, Fv.o_eq_ti, Fv.o_eq_it, Fv.o_eq_tb, Fv.o_eq_bt, Fv.o_eq_ts, Fv.o_eq_st, Fv.o_eq_rt, Fv.o_eq_rr, Fv.o_eq_rn, Fv.o_eq_nr, Fv.o_eq_ri, Fv.o_eq_ir, Fv.o_eq_rb, Fv.o_eq_br, Fv.o_eq_rs, Fv.o_eq_sr, Fv.o_tru_n, Fv.o_tru_b, Fv.o_tru_i, Fv.o_tru_s, Fv.o_tru_t, Fv.o_tru_w, Fv.o_tru_r, Fv.o_idx_t, Fv.o_idx_w, Fv.o_idx_r, Fv.o_idx_s, Fv.o_idx_d, Fv.o_sl_t, Fv.o_sl_s, Fv.o_sl_r, Fv.o_isi_n, Fv.o_isi_b, Fv.o_isi_i, Fv.o_isi_s, Fv.o_isi_t, Fv.o_isi_w, Fv.o_isi_d, Fv.o_isi_r, Fv.o_len_t, Fv.o_len_w, Fv.o_len_s, Fv.o_len_r, Fv.o_abs, Fv.o_max, Fv.o_min, Fv.o_str, Fv.o_repr, Fv.o_tuple_t, Fv.o_tuple_r, Fv.o_list_t, Fv.o_list_r, Fv.o_set_r, Fv.o_in_t, Fv.o_in_w, Fv.o_in_r, Fv.o_in_s, Fv.o_in_d, Fv.setAll, eq_self, and_true])
          refine turn 0 ha2 bg3 (by omega) (by omega) (by omega) _ _ _ _ _ _ _ _ _ _ _ _ fun G3 o3 y5 y6 y7 y8 y9 y10 y11 y12 y13 h3 bg4 => ?_
          exact hR2 _ _ _ (Sub.refl _) ⟨r2, o3, _, _, _, _, _, _, _, _, _, _, rfl, by omega, rfl, h3, bg4.mono (by omega)⟩
end L_09

namespace L_09
open PySem PySem.Spec PyProof.Rows L2 Fv
section
variable {K : PySem.W.Frag} {w : World} {mg : Str → Option Value} {h : Heap}
theorem at_apply (X : K.In h) (G : h.Ns mainGlobals mg) {a1 : Addr} {oc2 : Value} {od3 : Option Addr} {an4 : Option Addr} {doc5 : Value} {pm6 : Value} {cd7 : Value} {ct8 : Value} {sl9 : Array (Option Value)} {M11 : Addr} {t15 : Tok}
    (h10 : PySem.W.nsIn K mainGlobals "apply" = some (some (.ref a1))) (h12 : K.lookup a1 = some ⟨oc2, od3, .func (PySem.W.fnOf "apply" "apply" (defArgs (top 3)) (defBody (top 3)) (defScope (top 3)) .none (.ref M11) doc5 pm6 an4 cd7 ct8), sl9⟩) (h13 : PySem.W.codeIn K cd7 "apply" = true) (h14 : PySem.W.keepIn K (.ref a1) = true) (h16 : PySem.W.nsIn K M11 "base" = some (some (.int (3) t15))) : FnAt K w fs Γ mg "apply" :=
  ⟨dapply, a1, by rfl, PySem.W.mg_of X G h10, def_mk h12 h13 h14 (by decide +kernel) dfl_none (kwd_cons h16 cv_int kwd_none)⟩
theorem at_joined (X : K.In h) (G : h.Ns mainGlobals mg) {a1 : Addr} {oc2 : Value} {od3 : Option Addr} {an4 : Option Addr} {doc5 : Value} {pm6 : Value} {cd7 : Value} {ct8 : Value} {sl9 : Array (Option Value)}
    (h10 : PySem.W.nsIn K mainGlobals "joined" = some (some (.ref a1))) (h11 : K.lookup a1 = some ⟨oc2, od3, .func (PySem.W.fnOf "joined" "joined" (defArgs (top 4)) (defBody (top 4)) (defScope (top 4)) .none .none doc5 pm6 an4 cd7 ct8), sl9⟩) (h12 : PySem.W.codeIn K cd7 "joined" = true) (h13 : PySem.W.keepIn K (.ref a1) = true) : FnAt K w fs Γ mg "joined" :=
  ⟨djoined, a1, by rfl, PySem.W.mg_of X G h10, def_mk h11 h12 h13 (by decide +kernel) dfl_none kwd_none⟩
theorem at_composed (X : K.In h) (G : h.Ns mainGlobals mg) {a1 : Addr} {oc2 : Value} {od3 : Option Addr} {an4 : Option Addr} {doc5 : Value} {pm6 : Value} {cd7 : Value} {ct8 : Value} {sl9 : Array (Option Value)} {M11 : Addr} {t15 : Tok}
    (h10 : PySem.W.nsIn K mainGlobals "composed" = some (some (.ref a1))) (h12 : K.lookup a1 = some ⟨oc2, od3, .func (PySem.W.fnOf "composed" "composed" (defArgs (top 5)) (defBody (top 5)) (defScope (top 5)) .none (.ref M11) doc5 pm6 an4 cd7 ct8), sl9⟩) (h13 : PySem.W.codeIn K cd7 "composed" = true) (h14 : PySem.W.keepIn K (.ref a1) = true) (h16 : PySem.W.nsIn K M11 "base" = some (some (.int (3) t15))) : FnAt K w fs Γ mg "composed" :=
  ⟨dcomposed, a1, by rfl, PySem.W.mg_of X G h10, def_mk h12 h13 h14 (by decide +kernel) dfl_none (kwd_cons h16 cv_int kwd_none)⟩
theorem at_f_law_bag (X : K.In h) (G : h.Ns mainGlobals mg) {a1 : Addr} {oc2 : Value} {od3 : Option Addr} {an4 : Option Addr} {doc5 : Value} {pm6 : Value} {cd7 : Value} {ct8 : Value} {sl9 : Array (Option Value)}
    (h10 : PySem.W.nsIn K mainGlobals "_law_bag" = some (some (.ref a1))) (h11 : K.lookup a1 = some ⟨oc2, od3, .func (PySem.W.fnOf "_law_bag" "_law_bag" (defArgs (top 7)) (defBody (top 7)) (defScope (top 7)) .none .none doc5 pm6 an4 cd7 ct8), sl9⟩) (h12 : PySem.W.codeIn K cd7 "_law_bag" = true) (h13 : PySem.W.keepIn K (.ref a1) = true) : FnAt K w fs Γ mg "_law_bag" :=
  ⟨df_law_bag, a1, by rfl, PySem.W.mg_of X G h10, def_mk h11 h12 h13 (by decide +kernel) dfl_none kwd_none⟩
theorem at_f_law_take (X : K.In h) (G : h.Ns mainGlobals mg) {a1 : Addr} {oc2 : Value} {od3 : Option Addr} {an4 : Option Addr} {doc5 : Value} {pm6 : Value} {cd7 : Value} {ct8 : Value} {sl9 : Array (Option Value)}
    (h10 : PySem.W.nsIn K mainGlobals "_law_take" = some (some (.ref a1))) (h11 : K.lookup a1 = some ⟨oc2, od3, .func (PySem.W.fnOf "_law_take" "_law_take" (defArgs (top 8)) (defBody (top 8)) (defScope (top 8)) .none .none doc5 pm6 an4 cd7 ct8), sl9⟩) (h12 : PySem.W.codeIn K cd7 "_law_take" = true) (h13 : PySem.W.keepIn K (.ref a1) = true) : FnAt K w fs Γ mg "_law_take" :=
  ⟨df_law_take, a1, by rfl, PySem.W.mg_of X G h10, def_mk h11 h12 h13 (by decide +kernel) dfl_none kwd_none⟩
theorem at_f_law_map (X : K.In h) (G : h.Ns mainGlobals mg) {a1 : Addr} {oc2 : Value} {od3 : Option Addr} {an4 : Option Addr} {doc5 : Value} {pm6 : Value} {cd7 : Value} {ct8 : Value} {sl9 : Array (Option Value)}
    (h10 : PySem.W.nsIn K mainGlobals "_law_map" = some (some (.ref a1))) (h11 : K.lookup a1 = some ⟨oc2, od3, .func (PySem.W.fnOf "_law_map" "_law_map" (defArgs (top 9)) (defBody (top 9)) (defScope (top 9)) .none .none doc5 pm6 an4 cd7 ct8), sl9⟩) (h12 : PySem.W.codeIn K cd7 "_law_map" = true) (h13 : PySem.W.keepIn K (.ref a1) = true) : FnAt K w fs Γ mg "_law_map" :=
  ⟨df_law_map, a1, by rfl, PySem.W.mg_of X G h10, def_mk h11 h12 h13 (by decide +kernel) dfl_none kwd_none⟩
theorem at_f_law_folded (X : K.In h) (G : h.Ns mainGlobals mg) {a1 : Addr} {oc2 : Value} {od3 : Option Addr} {an4 : Option Addr} {doc5 : Value} {pm6 : Value} {cd7 : Value} {ct8 : Value} {sl9 : Array (Option Value)}
    (h10 : PySem.W.nsIn K mainGlobals "_law_folded" = some (some (.ref a1))) (h11 : K.lookup a1 = some ⟨oc2, od3, .func (PySem.W.fnOf "_law_folded" "_law_folded" (defArgs (top 10)) (defBody (top 10)) (defScope (top 10)) .none .none doc5 pm6 an4 cd7 ct8), sl9⟩) (h12 : PySem.W.codeIn K cd7 "_law_folded" = true) (h13 : PySem.W.keepIn K (.ref a1) = true) : FnAt K w fs Γ mg "_law_folded" :=
  ⟨df_law_folded, a1, by rfl, PySem.W.mg_of X G h10, def_mk h11 h12 h13 (by decide +kernel) dfl_none kwd_none⟩
theorem at_f_law_walked (X : K.In h) (G : h.Ns mainGlobals mg) {a1 : Addr} {oc2 : Value} {od3 : Option Addr} {an4 : Option Addr} {doc5 : Value} {pm6 : Value} {cd7 : Value} {ct8 : Value} {sl9 : Array (Option Value)}
    (h10 : PySem.W.nsIn K mainGlobals "_law_walked" = some (some (.ref a1))) (h11 : K.lookup a1 = some ⟨oc2, od3, .func (PySem.W.fnOf "_law_walked" "_law_walked" (defArgs (top 11)) (defBody (top 11)) (defScope (top 11)) .none .none doc5 pm6 an4 cd7 ct8), sl9⟩) (h12 : PySem.W.codeIn K cd7 "_law_walked" = true) (h13 : PySem.W.keepIn K (.ref a1) = true) : FnAt K w fs Γ mg "_law_walked" :=
  ⟨df_law_walked, a1, by rfl, PySem.W.mg_of X G h10, def_mk h11 h12 h13 (by decide +kernel) dfl_none kwd_none⟩
theorem at_law (X : K.In h) (G : h.Ns mainGlobals mg) {a1 : Addr} {oc2 : Value} {od3 : Option Addr} {an4 : Option Addr} {doc5 : Value} {pm6 : Value} {cd7 : Value} {ct8 : Value} {sl9 : Array (Option Value)}
    (h10 : PySem.W.nsIn K mainGlobals "law" = some (some (.ref a1))) (h11 : K.lookup a1 = some ⟨oc2, od3, .func (PySem.W.fnOf "law" "law" (defArgs (top 12)) (defBody (top 12)) (defScope (top 12)) .none .none doc5 pm6 an4 cd7 ct8), sl9⟩) (h12 : PySem.W.codeIn K cd7 "law" = true) (h13 : PySem.W.keepIn K (.ref a1) = true) : FnAt K w fs Γ mg "law" :=
  ⟨dlaw, a1, by rfl, PySem.W.mg_of X G h10, def_mk h11 h12 h13 (by decide +kernel) dfl_none kwd_none⟩
theorem gl_FOUND (X : K.In h) (G : h.Ns mainGlobals mg) {t1 : Tok}
    (h2 : PySem.W.nsIn K mainGlobals "FOUND" = some (some (.str "found" t1))) : GlAt K w mg ("FOUND", .str "found") := ⟨_, PySem.W.mg_of X G h2, cv_str⟩
theorem gl_SAME (X : K.In h) (G : h.Ns mainGlobals mg) {A1 : Addr} {t2 : Tok} {t3 : Tok} {od4 : Option Addr} {n5 : Nat} {sl6 : Array (Option Value)}
    (h8 : PySem.W.nsIn K mainGlobals "SAME" = some (some (.ref A1))) (h7 : K.lookup A1 = some ⟨.type "tuple", od4, .seq ([.str "found" t2, .int (0) t3] : List Value).toArray n5, sl6⟩) : GlAt K w mg ("SAME", .tup [.str "found", .int (0)]) := ⟨_, PySem.W.mg_of X G h8, (cv_tup h7 (Nat.le_of_ble_eq_true rfl) (cvs_cons cv_str (cvs_cons cv_int cvs_nil)))⟩
end
end L_09
open PySem PySem.W PyProof.Rows
set_option maxRecDepth 100000 in
set_option maxHeartbeats 0 in
theorem PySem.Challenge.cw_foundvalues_k09_whole_maps_composed_holds : PySem.Challenge.rw_foundvalues_k09_whole_maps_composed.Holds := by
  w_on; o_law; k_head; (case hw => w_witness2)
  k_fill
  refine Fv.walk_fv (l := PySem.Challenge.rw_foundvalues_k09_whole_maps_composed) (fs := L_09.fs) (Γ := L_09.Γ) (gl := L_09.gl) (k := 6) rfl rfl ⟨rfl, by decide, by decide⟩ (by decide) (fun w h Y => PySem.W.kIn_of Y) ?fvM L_09.reading
  case fvM =>
    intro w mg h KX G
    refine Fv.mod_ok ?fvB ?fvG ?fvF
    case fvB =>
      refine Fv.all_cons ?_ ?_
      · refine PySem.W.mg_none_of KX G ?_
        k_is
      refine Fv.all_cons ?_ ?_
      · refine PySem.W.mg_none_of KX G ?_
        k_is
      refine Fv.all_cons ?_ ?_
      · refine PySem.W.mg_none_of KX G ?_
        k_is
      refine Fv.all_cons ?_ ?_
      · refine PySem.W.mg_none_of KX G ?_
        k_is
      refine Fv.all_cons ?_ ?_
      · refine PySem.W.mg_none_of KX G ?_
        k_is
      refine Fv.all_cons ?_ ?_
      · refine PySem.W.mg_none_of KX G ?_
        k_is
      refine Fv.all_cons ?_ ?_
      · refine PySem.W.mg_none_of KX G ?_
        k_is
      refine Fv.all_cons ?_ ?_
      · refine PySem.W.mg_none_of KX G ?_
        k_is
      refine Fv.all_cons ?_ ?_
      · refine PySem.W.mg_none_of KX G ?_
        k_is
      refine Fv.all_cons ?_ ?_
      · refine PySem.W.mg_none_of KX G ?_
        k_is
      refine Fv.all_cons ?_ ?_
      · refine PySem.W.mg_none_of KX G ?_
        k_is
      refine Fv.all_cons ?_ ?_
      · refine PySem.W.mg_none_of KX G ?_
        k_is
      refine Fv.all_cons ?_ ?_
      · refine PySem.W.mg_none_of KX G ?_
        k_is
      refine Fv.all_cons ?_ ?_
      · refine PySem.W.mg_none_of KX G ?_
        k_is
      refine Fv.all_cons ?_ ?_
      · refine PySem.W.mg_none_of KX G ?_
        k_is
      exact Fv.all_nil
    case fvG =>
      refine Fv.all_cons ?_ ?_
      · refine' L_09.gl_FOUND KX G ?gl_FOUND_h2
        (case gl_FOUND_h2 => k_is)
      refine Fv.all_cons ?_ ?_
      · refine' L_09.gl_SAME KX G ?gl_SAME_h8 ?gl_SAME_h7
        (case gl_SAME_h8 => k_is)
        (case gl_SAME_h7 => k_is)
      exact Fv.all_nil
    case fvF =>
      refine Fv.all_cons ?_ ?_
      · refine' L_09.at_apply KX G ?at_apply_h10 ?at_apply_h12 ?at_apply_h13 ?at_apply_h14 ?at_apply_h16
        (case at_apply_h10 => k_is)
        (case at_apply_h12 => k_is)
        (case at_apply_h13 => k_is)
        (case at_apply_h14 => k_is)
        (case at_apply_h16 => k_is)
      refine Fv.all_cons ?_ ?_
      · refine' L_09.at_joined KX G ?at_joined_h10 ?at_joined_h11 ?at_joined_h12 ?at_joined_h13
        (case at_joined_h10 => k_is)
        (case at_joined_h11 => k_is)
        (case at_joined_h12 => k_is)
        (case at_joined_h13 => k_is)
      refine Fv.all_cons ?_ ?_
      · refine' L_09.at_composed KX G ?at_composed_h10 ?at_composed_h12 ?at_composed_h13 ?at_composed_h14 ?at_composed_h16
        (case at_composed_h10 => k_is)
        (case at_composed_h12 => k_is)
        (case at_composed_h13 => k_is)
        (case at_composed_h14 => k_is)
        (case at_composed_h16 => k_is)
      refine Fv.all_cons ?_ ?_
      · refine' L_09.at_f_law_bag KX G ?at_f_law_bag_h10 ?at_f_law_bag_h11 ?at_f_law_bag_h12 ?at_f_law_bag_h13
        (case at_f_law_bag_h10 => k_is)
        (case at_f_law_bag_h11 => k_is)
        (case at_f_law_bag_h12 => k_is)
        (case at_f_law_bag_h13 => k_is)
      refine Fv.all_cons ?_ ?_
      · refine' L_09.at_f_law_take KX G ?at_f_law_take_h10 ?at_f_law_take_h11 ?at_f_law_take_h12 ?at_f_law_take_h13
        (case at_f_law_take_h10 => k_is)
        (case at_f_law_take_h11 => k_is)
        (case at_f_law_take_h12 => k_is)
        (case at_f_law_take_h13 => k_is)
      refine Fv.all_cons ?_ ?_
      · refine' L_09.at_f_law_map KX G ?at_f_law_map_h10 ?at_f_law_map_h11 ?at_f_law_map_h12 ?at_f_law_map_h13
        (case at_f_law_map_h10 => k_is)
        (case at_f_law_map_h11 => k_is)
        (case at_f_law_map_h12 => k_is)
        (case at_f_law_map_h13 => k_is)
      refine Fv.all_cons ?_ ?_
      · refine' L_09.at_f_law_folded KX G ?at_f_law_folded_h10 ?at_f_law_folded_h11 ?at_f_law_folded_h12 ?at_f_law_folded_h13
        (case at_f_law_folded_h10 => k_is)
        (case at_f_law_folded_h11 => k_is)
        (case at_f_law_folded_h12 => k_is)
        (case at_f_law_folded_h13 => k_is)
      refine Fv.all_cons ?_ ?_
      · refine' L_09.at_f_law_walked KX G ?at_f_law_walked_h10 ?at_f_law_walked_h11 ?at_f_law_walked_h12 ?at_f_law_walked_h13
        (case at_f_law_walked_h10 => k_is)
        (case at_f_law_walked_h11 => k_is)
        (case at_f_law_walked_h12 => k_is)
        (case at_f_law_walked_h13 => k_is)
      refine Fv.all_cons ?_ ?_
      · refine' L_09.at_law KX G ?at_law_h10 ?at_law_h11 ?at_law_h12 ?at_law_h13
        (case at_law_h10 => k_is)
        (case at_law_h11 => k_is)
        (case at_law_h12 => k_is)
        (case at_law_h13 => k_is)
      exact Fv.all_nil
#print axioms PySem.Challenge.cw_foundvalues_k09_whole_maps_composed_holds
