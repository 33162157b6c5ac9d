import PyProof.Rows.All
import Wide.All
import OpenK.AllK
import Wide.FinOn
import HandS.ForMost
import PySem.Challenge.RW_foundvalues_k77_strings
import HandS.IsInst
import HandS.Star
import HandS.Defaults
import HandS.Flow
import HandS.More
import HandS.CallSlots
import HandS.ForExc
import HandS.TupAny
import HandS.TupMul
import HandS.Deep
import HandS.RaiseMore
import HandS.Conv
import KE.DatumIndex
import KE.KUnpack
import KE.KUnpackStar
import HandS.Small
import PyProof.RulesMatch
import KE.GoesMore
import KE.GoesZip
import KE.GoesEnumKw
import HandS.StrMore
import HandS.StrSplit
import HandS.Style
import HandS.Rev
import HandS.FStr
import HandS.Dict
import PyProof.RulesMatchSeq
import PyProof.RulesMatchSingle
import PyProof.Rows.MatchSeqLen
set_option Elab.async false
set_option Elab.async false
set_option linter.all false
set_option maxRecDepth 100000
namespace Fv
open PySem L2

/-- a value: tuples by what they hold, all that may change by its address -/
inductive PV where
  | non | bl (b : Bool) | int (i : Int) | str (x : Str) | ref (a : Addr) | ty (n : String) | tup (xs : List PV)
  /-- a list that is only read; a dict of the text with text keys -/
  | wl (xs : List PV) | wd (ks : List Str) (vs : List PV)

/-- an object that may change -/
inductive PO where
  | lst (xs : List PV)
  | dict (kvs : List (Key × PV))
  | dictT (kvs : List (List Key × PV))
  | ins (c : Str) (fs : List (Str × PV))

abbrev PH := Addr → Option PO
abbrev PSt := List (Option PV)
abbrev VP := PV → PH → Prop
def pu (G : PH) (a : Addr) (o : PO) : PH := fun b => if b = a then some o else G b
theorem pu_same {G : PH} {a : Addr} {o : PO} : pu G a o a = some o := by unfold pu; rw [if_pos rfl]
theorem pu_ne {G : PH} {a b : Addr} {o : PO} (h : b ≠ a) : pu G a o b = G b := by unfold pu; rw [if_neg h]
theorem pu_pu {G : PH} {a : Addr} {o u : PO} : pu (pu G a o) a u = pu G a u := by
  funext b; unfold pu; split <;> rfl
/-- less is known -/
def Sub (G2 G1 : PH) : Prop := ∀ a o, G2 a = some o → G1 a = some o
theorem Sub.refl (G : PH) : Sub G G := fun _ _ h => h
theorem Sub.trans {A B C : PH} (h : Sub A B) (k : Sub B C) : Sub A C := fun a o e => k a o (h a o e)
theorem Sub.free {A B : PH} (h : Sub A B) {a : Addr} (e : B a = none) : A a = none := by
  cases q : A a with
  | none => rfl
  | some o => rw [h a o q] at e; cases e
theorem Sub.pu {A B : PH} (h : Sub A B) (a : Addr) (o : PO) : Sub (pu A a o) (pu B a o) := fun b u e => by
  unfold Fv.pu at e ⊢
  split
  · rename_i hb; rw [if_pos hb] at e; exact e
  · rename_i hb; rw [if_neg hb] at e; exact h b u e
theorem Sub.new {G : PH} {p : Addr} {o : PO} (h : G p = none) : Sub G (Fv.pu G p o) := fun b u e => by
  have : b ≠ p := by rintro rfl; rw [h] at e; cases e
  rw [pu_ne this]; exact e
theorem ne_of_free {G : PH} {a p : Addr} {o : PO} (h : G a = some o) (k : G p = none) : a ≠ p := by
  rintro rfl; rw [h] at k; cases k

/-- a list that no one writes -/
def FzL (K : PySem.W.Frag) (H : Hp) (a : Addr) (vs : List V) : Prop := (∃ o, H a = some (.frz o (.lst vs))) ∨
  ∃ (o : Obj) (its : Array Value) (n : Nat), K.lookup a = some o ∧ o.cls = .type "list" ∧ o.dict = none ∧ o.data = .seq its n ∧ its.size ≤ sizeLine ∧ Vals vs its.toList
theorem FzL.sq {K : PySem.W.Frag} {H : Hp} {a : Addr} {vs : List V} (h : FzL K H a vs) : SqL K H a vs := by
  rcases h with h | h
  · exact .inl (.inr h)
  · exact .inr h
/-- the class of that name -/
def KCls (K : PySem.W.Frag) (c : Str) (C : Addr) : Prop := PySem.W.nsIn K mainGlobals c = some (some (.ref C))
theorem KCls.one {K : PySem.W.Frag} {c : Str} {C D : Addr} (h : KCls K c C) (k : KCls K c D) : C = D := by
  unfold KCls at h k; rw [h] at k; cases k; rfl
/-- a dict of the text: its keys, its values -/
def WDt (K : PySem.W.Frag) (w : World) (d : Addr) (ks : List Str) (vs : List V) : Prop :=
  ks.length = vs.length ∧ (∃ es n, KDict K w d es n) ∧ ∀ z : Str, match (ks.zip vs).lookup z with
    | some v => ∃ u, PySem.W.nsIn K d z = some (some u) ∧ RelV v u
    | none => PySem.W.nsIn K d z = some none

section
variable (K : PySem.W.Frag) (w : World)
mutual
def RepV (H : Hp) : PV → V → Prop
  | .non, v => v = .non
  | .bl b, v => v = .bl b
  | .int i, v => v = .int i
  | .str x, v => v = .str x
  | .ref a, v => v = .ref a
  | .ty n, v => v = .ty n
  | .tup xs, v => ∃ p vs, v = .ref p ∧ SqT K H p vs ∧ RepL H xs vs
  | .wl xs, v => ∃ p vs, v = .ref p ∧ FzL K H p vs ∧ RepL H xs vs
  | .wd ks xs, v => ∃ p vs, v = .ref p ∧ WDt K w p ks vs ∧ RepL H xs vs
def RepL (H : Hp) : List PV → List V → Prop
  | [], vs => vs = []
  | x :: xs, vs => ∃ v r, vs = v :: r ∧ RepV H x v ∧ RepL H xs r
end
def RepO (H : Hp) (a : Addr) : PO → Prop
  | .lst xs => ∃ vs, H a = some (.lst vs) ∧ RepL K w H xs vs
  | .dict kvs => ∃ es, H a = some (.dK es) ∧ Paired (fun (p : Key × PV) (q : Key × V) => p.1 = q.1 ∧ RepV K w H p.2 q.2) kvs es
  | .dictT kvs => ∃ es, H a = some (.dT es) ∧ Paired (fun (p : List Key × PV) (q : List Key × V) => p.1 = q.1 ∧ RepV K w H p.2 q.2) kvs es
  | .ins c fs => ∃ C dx vs, KCls K c C ∧ H a = some (.ins C dx vs) ∧ Paired (fun (p : Str × PV) (q : Str × V) => p.1 = q.1 ∧ RepV K w H p.2 q.2) fs vs
def RepO1 : Option PV → Option V → Prop := fun x v => ∀ y, x = some y → ∃ u, v = some u
end

/-- tuples stand -/
structure Stay (H H1 : Hp) : Prop where
  tup : ∀ p xs, H p = some (.tup xs) → H1 p = some (.tup xs)
  frz : ∀ p o u, H p = some (.frz o u) → H1 p = some (.frz o u)
theorem Stay.sqT {K : PySem.W.Frag} {H H1 : Hp} (h : Stay H H1) {p : Addr} {xs : List V} (q : SqT K H p xs) : SqT K H1 p xs := by
  rcases q with (q | ⟨o, q⟩) | q
  · exact .inl (.inl (h.tup _ _ q))
  · exact .inl (.inr ⟨o, h.frz _ _ _ q⟩)
  · exact .inr q
theorem Stay.fz {K : PySem.W.Frag} {H H1 : Hp} (h : Stay H H1) {p : Addr} {xs : List V} (q : FzL K H p xs) : FzL K H1 p xs := by
  rcases q with ⟨o, q⟩ | q
  · exact .inl ⟨o, h.frz _ _ _ q⟩
  · exact .inr q
structure Step (S : Addr → Prop) (H H1 : Hp) : Prop extends Stay H H1 where
  hid : ∀ a, S a → H1 a = H a
theorem Step.refl {S : Addr → Prop} {H : Hp} : Step S H H := ⟨⟨fun _ _ h => h, fun _ _ _ h => h⟩, fun _ _ => rfl⟩
theorem Step.trans {S : Addr → Prop} {H H1 H2 : Hp} (a : Step S H H1) (b : Step S H1 H2) : Step S H H2 :=
  ⟨⟨fun p xs h => b.tup p xs (a.tup p xs h), fun p o u h => b.frz p o u (a.frz p o u h)⟩, fun c s => (b.hid c s).trans (a.hid c s)⟩
theorem Step.new {S : Addr → Prop} {H : Hp} {p : Addr} {o : HO} (h : H p = none) (hs : ∀ a, S a → H a ≠ none) : Step S H (upd H p o) :=
  ⟨⟨fun q xs e => by rw [upd_ne (ne_of_none e h)]; exact e, fun q x u e => by rw [upd_ne (ne_of_none e h)]; exact e⟩, fun a s => by
    rw [upd_ne]; rintro rfl; exact hs _ s h⟩
/-- what may be written over -/
def Soft : HO → Prop
  | .tup _ => False
  | .frz _ _ => False
  | _ => True
theorem Step.put {S : Addr → Prop} {H : Hp} {p : Addr} {o u : HO} (h : H p = some u) (hu : Soft u) (hs : ¬ S p) : Step S H (upd H p o) :=
  ⟨⟨fun q xs e => by
      rw [upd_ne]; · exact e
      rintro rfl; rw [h] at e; cases e; exact hu,
    fun q x u' e => by
      rw [upd_ne]; · exact e
      rintro rfl; rw [h] at e; cases e; exact hu⟩, fun a s => by
    rw [upd_ne]; rintro rfl; exact hs s⟩

section
variable {K : PySem.W.Frag} {w : World} {H H1 : Hp}
mutual
theorem RepV.mono (h : Stay H H1) : ∀ {x : PV} {v : V}, RepV K w H x v → RepV K w H1 x v
  | .non, _, r => r
  | .bl _, _, r => r
  | .int _, _, r => r
  | .str _, _, r => r
  | .ref _, _, r => r
  | .ty _, _, r => r
  | .tup xs, _, ⟨p, vs, e, t, r⟩ => ⟨p, vs, e, h.sqT t, RepL.mono h r⟩
  | .wl xs, _, ⟨p, vs, e, t, r⟩ => ⟨p, vs, e, h.fz t, RepL.mono h r⟩
  | .wd ks xs, _, ⟨p, vs, e, t, r⟩ => ⟨p, vs, e, t, RepL.mono h r⟩
theorem RepL.mono (h : Stay H H1) : ∀ {xs : List PV} {vs : List V}, RepL K w H xs vs → RepL K w H1 xs vs
  | [], _, r => r
  | _ :: _, _, ⟨v, r, e, a, b⟩ => ⟨v, r, e, RepV.mono h a, RepL.mono h b⟩
end
theorem RepL.length : ∀ {xs : List PV} {vs : List V}, RepL K w H xs vs → xs.length = vs.length
  | [], _, r => by cases r; rfl
  | _ :: _, _, ⟨v, r, e, a, b⟩ => by cases e; simp [RepL.length b]
theorem RepL.get : ∀ {xs : List PV} {vs : List V} {i : Nat} {x : PV}, RepL K w H xs vs → xs[i]? = some x → ∃ v, vs[i]? = some v ∧ RepV K w H x v
  | [], _, _, _, _, e => by simp at e
  | _ :: _, _, 0, _, ⟨v, r, rfl, a, b⟩, e => by simp at e; subst e; exact ⟨v, rfl, a⟩
  | _ :: _, _, i + 1, x, ⟨v, r, rfl, a, b⟩, e => by
    obtain ⟨u, h1, h2⟩ := RepL.get (i := i) (x := x) b (by simpa using e)
    exact ⟨u, by simpa using h1, h2⟩
theorem RepL.app : ∀ {xs ys : List PV} {vs ws : List V}, RepL K w H xs vs → RepL K w H ys ws → RepL K w H (xs ++ ys) (vs ++ ws)
  | [], _, _, _, r, q => by cases r; exact q
  | _ :: _, _, _, _, ⟨v, r, rfl, a, b⟩, q => ⟨v, r ++ _, rfl, a, RepL.app b q⟩
theorem RepL.one {x : PV} {v : V} (h : RepV K w H x v) : RepL K w H [x] [v] := ⟨v, [], rfl, h, rfl⟩
theorem RepL.take : ∀ {xs : List PV} {vs : List V} (n : Nat), RepL K w H xs vs → RepL K w H (xs.take n) (vs.take n)
  | [], _, n, r => by cases r; simp [RepL]
  | _ :: _, _, 0, _ => by simp [RepL]
  | _ :: _, _, n + 1, ⟨v, r, rfl, a, b⟩ => ⟨v, r.take n, rfl, a, RepL.take n b⟩
theorem RepL.drop : ∀ {xs : List PV} {vs : List V} (n : Nat), RepL K w H xs vs → RepL K w H (xs.drop n) (vs.drop n)
  | [], _, n, r => by cases r; simp [RepL]
  | _ :: _, _, 0, r => r
  | _ :: _, _, n + 1, ⟨v, r, rfl, a, b⟩ => RepL.drop n b
theorem RepL.set : ∀ {xs : List PV} {vs : List V} (i : Nat) {x : PV} {v : V}, RepL K w H xs vs → RepV K w H x v → RepL K w H (xs.set i x) (vs.set i v)
  | [], _, _, _, _, r, _ => by cases r; simp [RepL]
  | _ :: _, _, 0, _, _, ⟨v, r, rfl, a, b⟩, q => ⟨_, r, rfl, q, b⟩
  | _ :: _, _, i + 1, _, _, ⟨v, r, rfl, a, b⟩, q => ⟨v, r.set i _, rfl, a, RepL.set i b q⟩
theorem PairedMap {α β : Type} {F F' : α → β → Prop} {l : List α} {m : List β} (h : Paired F l m) (f : ∀ a b, F a b → F' a b) : Paired F' l m := Paired.mapP h f
end

/-- the heap of values stands for the hand layer's; S: what is hidden -/
structure At (K : PySem.W.Frag) (w : World) (S : Addr → Prop) (G : PH) (H : Hp) : Prop where
  hid : ∀ a, S a → G a = none ∧ H a ≠ none
  ob : ∀ a o, G a = some o → RepO K w H a o
section
variable {K : PySem.W.Frag} {w : World} {S : Addr → Prop} {G : PH} {H H1 : Hp}
theorem RepO.there {a : Addr} {o : PO} (r : RepO K w H a o) : ∃ u, H a = some u ∧ Soft u := by
  cases o with
  | lst xs => obtain ⟨_, e, _⟩ := r; exact ⟨_, e, trivial⟩
  | dict kvs => obtain ⟨_, e, _⟩ := r; exact ⟨_, e, trivial⟩
  | dictT kvs => obtain ⟨_, e, _⟩ := r; exact ⟨_, e, trivial⟩
  | ins C fs => obtain ⟨_, _, _, _, e, _⟩ := r; exact ⟨_, e, trivial⟩
theorem At.free (h : At K w S G H) {p : Addr} (e : H p = none) : G p = none := by
  cases q : G p with
  | none => rfl
  | some o => obtain ⟨u, z, _⟩ := (h.ob p o q).there; rw [e] at z; cases z
theorem At.there (h : At K w S G H) {p : Addr} {o : PO} (e : G p = some o) : ¬ S p := fun s => by
  rw [(h.hid p s).1] at e; cases e
theorem RepO.mono (h : Stay H H1) {a : Addr} (e : H1 a = H a) {o : PO} (r : RepO K w H a o) : RepO K w H1 a o := by
  cases o with
  | lst xs => obtain ⟨vs, q, r⟩ := r; exact ⟨vs, e.trans q, r.mono h⟩
  | dict kvs => obtain ⟨es, q, r⟩ := r; exact ⟨es, e.trans q, PairedMap r fun _ _ z => ⟨z.1, z.2.mono h⟩⟩
  | dictT kvs => obtain ⟨es, q, r⟩ := r; exact ⟨es, e.trans q, PairedMap r fun _ _ z => ⟨z.1, z.2.mono h⟩⟩
  | ins C fs => obtain ⟨C0, dx, vs, k, q, r⟩ := r; exact ⟨C0, dx, vs, k, e.trans q, PairedMap r fun _ _ z => ⟨z.1, z.2.mono h⟩⟩
/-- a new object that no value shows -/
theorem At.silent (h : At K w S G H) {p : Addr} {o : HO} (e : H p = none) : At K w S G (upd H p o) :=
  ⟨fun a s => ⟨(h.hid a s).1, by rw [upd_ne (by rintro rfl; exact (h.hid _ s).2 e)]; exact (h.hid a s).2⟩, fun a u q => by
    have hne : a ≠ p := by rintro rfl; rw [h.free e] at q; cases q
    exact (h.ob a u q).mono (Step.new (S := fun _ => False) e fun _ z => z.elim).toStay (upd_ne hne)⟩
theorem At.new (h : At K w S G H) {p : Addr} {o : HO} {u : PO} (e : H p = none) (r : RepO K w (upd H p o) p u) : At K w S (pu G p u) (upd H p o) :=
  ⟨fun a s => by
    have hne : a ≠ p := by rintro rfl; exact (h.hid _ s).2 e
    rw [pu_ne hne, upd_ne hne]; exact h.hid a s, fun a v q => by
    by_cases hb : a = p
    · subst hb; rw [pu_same] at q; cases q; exact r
    · rw [pu_ne hb] at q
      exact (h.ob a v q).mono (Step.new (S := fun _ => False) e fun _ z => z.elim).toStay (upd_ne hb)⟩
theorem At.put (h : At K w S G H) {p : Addr} {o : HO} {u v : PO} (e : G p = some v) (r : RepO K w (upd H p o) p u) : At K w S (pu G p u) (upd H p o) := by
  obtain ⟨x, hx, sx⟩ := (h.ob p v e).there
  refine ⟨fun a s => ?_, fun a v q => ?_⟩
  · have hne : a ≠ p := by rintro rfl; exact h.there e s
    rw [pu_ne hne, upd_ne hne]; exact h.hid a s
  · by_cases hb : a = p
    · subst hb; rw [pu_same] at q; cases q; exact r
    · rw [pu_ne hb] at q
      exact (h.ob a v q).mono (Step.put (S := fun _ => False) hx sx fun z => z).toStay (upd_ne hb)
theorem At.step_put (h : At K w S G H) {p : Addr} {o : HO} {v : PO} (e : G p = some v) : Step S H (upd H p o) := by
  obtain ⟨x, hx, sx⟩ := (h.ob p v e).there
  exact Step.put hx sx (h.there e)
theorem At.step_new (h : At K w S G H) {p : Addr} {o : HO} (e : H p = none) : Step S H (upd H p o) := Step.new e fun a s => (h.hid a s).2
theorem At.sub {G2 : PH} (h : At K w S G H) (s : Sub G2 G) : At K w S G2 H := ⟨fun a z => ⟨s.free (h.hid a z).1, (h.hid a z).2⟩, fun a o e => h.ob a o (s a o e)⟩
theorem At.soft {a : Addr} {o : PO} (h : At K w S G H) (e : G a = some o) : ∃ u, H a = some u ∧ Soft u := (h.ob a o e).there
end
end Fv

set_option Elab.async false
set_option linter.all false
set_option maxRecDepth 100000
namespace Fv
open PySem L2

/-- what is wanted of an exception: its class, its fields, the slots, the heap -/
abbrev PX := Value → List (Str × PV) → PSt → PH → Prop
structure PD where
  nx : PSt → PH → Prop
  rt : VP
  bk : PSt → PH → Prop
  ct : PSt → PH → Prop
  ex : PX
abbrev TPE := PSt → PH → VP → PX → Prop
abbrev TPA := PSt → PH → (List PV → PH → Prop) → PX → Prop
abbrev TPT := PSt → PH → (Bool → PH → Prop) → PX → Prop
abbrev TPS := PD → PSt → PH → Prop
/-- by values -/
abbrev P2 := PV → PV → PH → VP → Prop
abbrev P1 := PV → PH → VP → Prop

section
variable (K : PySem.W.Frag) (w : World)
def RepS (H : Hp) (σ' : PSt) (σ : St) : Prop := σ'.length = σ.length ∧ ∀ (i : Nat) (x : PV), σ'[i]? = some (some x) → ∃ v, σ[i]? = some (some v) ∧ RepV K w H x v
def RepF (H : Hp) (fs : List (Str × PV)) (vs : List (Str × V)) : Prop := Paired (fun (p : Str × PV) (q : Str × V) => p.1 = q.1 ∧ RepV K w H p.2 q.2) fs vs
def XRep (H : Hp) : Option Addr → List (Str × PV) → Prop
  | none, fs => fs = []
  | some d, fs => ∃ vs, H d = some (.xd vs) ∧ RepF K w H fs vs
structure Si (W : WX) (S : Addr → Prop) (σ' : PSt) (σ : St) (G : PH) (H : Hp) (W' : PX) : Prop where
  at_ : At K w S G H
  sl : RepS K w H σ' σ
  wx : ∀ cls fs d τ' τ G1 H1, Step S H H1 → At K w S G1 H1 → RepS K w H1 τ' τ → XRep K w H1 d fs → W' cls fs τ' G1 → W cls d τ H1
def Back (S : Addr → Prop) (H : Hp) (Q' : VP) (Q : VK) : Prop := ∀ x v G1 H1, Step S H H1 → At K w S G1 H1 → RepV K w H1 x v → Q' x G1 → Q v H1
def BackS (S : Addr → Prop) (H : Hp) (N' : PSt → PH → Prop) (N : St → Hp → Prop) : Prop := ∀ τ' τ G1 H1, Step S H H1 → At K w S G1 H1 → RepS K w H1 τ' τ → N' τ' G1 → N τ H1
def low (W : WX) (t : TPE) : TE := fun σ H Q => ∃ S σ' G W' Q', Si K w W S σ' σ G H W' ∧ t σ' G Q' W' ∧ Back K w S H Q' Q
def lowT (W : WX) (t : TPT) : TT := fun σ H Q => ∃ S σ' G W' Q', Si K w W S σ' σ G H W' ∧ t σ' G Q' W' ∧ ∀ b G1 H1, Step S H H1 → At K w S G1 H1 → Q' b G1 → Q b H1
def lowA (W : WX) (t : TPA) : TA := fun σ H Q => ∃ S σ' G W' Q', Si K w W S σ' σ G H W' ∧ t σ' G Q' W' ∧ ∀ xs vs G1 H1, Step S H H1 → At K w S G1 H1 → RepL K w H1 xs vs → Q' xs G1 → Q vs H1
structure Ba (S : Addr → Prop) (H : Hp) (D' : PD) (D : Ends) : Prop where
  nx : BackS K w S H D'.nx D.nx
  rt : Back K w S H D'.rt D.rt
  bk : BackS K w S H D'.bk D.bk
  ct : BackS K w S H D'.ct D.ct
def lowS (W : WX) (t : TPS) : TS := fun D σ H => ∃ S σ' G D', Si K w W S σ' σ G H D'.ex ∧ t D' σ' G ∧ Ba K w S H D' D
def lowR (r : P2) : R2 := fun x y H Q => ∃ S G x' y' Q', At K w S G H ∧ RepV K w H x' x ∧ RepV K w H y' y ∧ r x' y' G Q' ∧ Back K w S H Q' Q
def lowU (r : P1) : V → Hp → VK → Prop := fun x H Q => ∃ S G x' Q', At K w S G H ∧ RepV K w H x' x ∧ r x' G Q' ∧ Back K w S H Q' Q
/-- a built-in's call, by values -/
def lowC (r : List PV → PH → VP → Prop) : List V → Hp → VK → Prop := fun xs H Q => ∃ S G xs' Q', At K w S G H ∧ RepL K w H xs' xs ∧ r xs' G Q' ∧ Back K w S H Q' Q
end

section
variable {K : PySem.W.Frag} {w : World} {W : WX} {S : Addr → Prop} {σ' : PSt} {σ : St} {G G1 : PH} {H H1 : Hp} {W' : PX} {Q' : VP} {Q : VK}
theorem RepS.mono (r : RepS K w H σ' σ) (h : Stay H H1) : RepS K w H1 σ' σ := ⟨r.1, fun i x e => let ⟨v, a, b⟩ := r.2 i x e; ⟨v, a, b.mono h⟩⟩
theorem RepS.set (r : RepS K w H σ' σ) (i : Nat) {x : PV} {v : V} (q : RepV K w H x v) : RepS K w H (σ'.set i (some x)) (σ.set i (some v)) := by
  refine ⟨by simp [r.1], fun j y e => ?_⟩
  by_cases hj : i = j
  · subst hj
    by_cases hl : i < σ'.length
    · rw [List.getElem?_set_self hl] at e; cases e
      exact ⟨v, by rw [List.getElem?_set_self (by rw [← r.1]; exact hl)], q⟩
    · rw [List.getElem?_eq_none (by simpa using hl)] at e; cases e
  · rw [List.getElem?_set_ne hj] at e
    obtain ⟨u, a, b⟩ := r.2 j y e
    exact ⟨u, by rw [List.getElem?_set_ne hj]; exact a, b⟩
theorem Si.next (s : Si K w W S σ' σ G H W') (st : Step S H H1) (a : At K w S G1 H1) : Si K w W S σ' σ G1 H1 W' :=
  ⟨a, s.sl.mono st.toStay, fun cls fs d τ' τ G2 H2 st2 a2 r x q => s.wx cls fs d τ' τ G2 H2 (st.trans st2) a2 r x q⟩
theorem Si.slots {τ' : PSt} {τ : St} (s : Si K w W S σ' σ G H W') (r : RepS K w H τ' τ) : Si K w W S τ' τ G H W' := ⟨s.at_, r, s.wx⟩
theorem Back.next (b : Back K w S H Q' Q) (st : Step S H H1) : Back K w S H1 Q' Q := fun x v G2 H2 s2 a2 r q => b x v G2 H2 (st.trans s2) a2 r q
theorem BackS.next {N' : PSt → PH → Prop} {N : St → Hp → Prop} (b : BackS K w S H N' N) (st : Step S H H1) : BackS K w S H1 N' N := fun x v G2 H2 s2 a2 r q => b x v G2 H2 (st.trans s2) a2 r q
theorem Ba.next {D' : PD} {D : Ends} (b : Ba K w S H D' D) (st : Step S H H1) : Ba K w S H1 D' D := ⟨b.nx.next st, b.rt.next st, b.bk.next st, b.ct.next st⟩
end

section
variable {X : Cx} {e a b c : Expr} {pos : Pos}
theorem imp_e {t t' : TE} (h : PE X e t) (k : ∀ σ H Q, t' σ H Q → t σ H Q) : PE X e t' := ⟨fun pins s σ H Q I q => h.run pins s σ H Q I (k σ H Q q)⟩
theorem imp_t {t t' : TT} (h : PT X e t) (k : ∀ σ H Q, t' σ H Q → t σ H Q) : PT X e t' := ⟨fun pins s σ H Q I q => h.run pins s σ H Q I (k σ H Q q)⟩
theorem imp_w {t t' : TT} (h : L2.PW X e t) (k : ∀ σ H Q, t' σ H Q → t σ H Q) : L2.PW X e t' := ⟨fun wh pins s σ H Q I q => h.run wh pins s σ H Q I (k σ H Q q)⟩
theorem imp_a {es : List Expr} {t t' : TA} (h : PA X es t) (k : ∀ σ H Q, t' σ H Q → t σ H Q) : PA X es t' := ⟨fun pos pins s σ H Q I q => h.run pos pins s σ H Q I (k σ H Q q)⟩
theorem imp_s {st : Stmt} {t t' : TS} (h : PS X st t) (k : ∀ D σ H, t' D σ H → t D σ H) : PS X st t' := ⟨fun pins s σ H D I q => h.run pins s σ H D I (k D σ H q)⟩
theorem imp_ss {st : List Stmt} {t t' : TS} (h : PSs X st t) (k : ∀ D σ H, t' D σ H → t D σ H) : PSs X st t' := ⟨fun pins s σ H D I q => h.run pins s σ H D I (k D σ H q)⟩
end

def wVar (i : Nat) : TPE := fun σ G Q _ => match σ[i]? with
  | some (some v) => Q v G
  | _ => False
def wCst (v : PV) : TPE := fun _ G Q _ => Q v G
def wOp (r : P2) (ta tb : TPE) : TPE := fun σ G Q W => ta σ G (fun x G1 => tb σ G1 (fun y G2 => r x y G2 Q) W) W
def wUn (r : P1) (ta : TPE) : TPE := fun σ G Q W => ta σ G (fun x G1 => r x G1 Q) W
def wIte (c : TPT) (ta tb : TPE) : TPE := fun σ G Q W => c σ G (fun k G1 => if k = true then ta σ G1 Q W else tb σ G1 Q W) W
def wNil : TPA := fun _ G Q _ => Q [] G
def wCons (ta : TPE) (tr : TPA) : TPA := fun σ G Q W => ta σ G (fun x G1 => tr σ G1 (fun xs G2 => Q (x :: xs) G2) W) W
def wTup (t : TPA) : TPE := fun σ G Q W => t σ G (fun xs G1 => xs.length ≤ sizeLine ∧ Q (.tup xs) G1) W
def wLst (t : TPA) : TPE := fun σ G Q W => t σ G (fun xs G1 => xs.length ≤ sizeLine ∧ ∀ p, G1 p = none → Q (.ref p) (pu G1 p (.lst xs))) W

section
variable {X : Cx} {W : WX} {e a b c : Expr} {pos : Pos} {ta tb : TPE}
theorem low_var {i : Nat} : ∀ σ H Q, low X.K X.w W (wVar i) σ H Q → tVar i σ H Q := by
  rintro σ H Q ⟨S, σ', G, W', Q', s, t, b⟩
  unfold wVar at t
  split at t
  · rename_i v hv
    obtain ⟨u, e, r⟩ := s.sl.2 i v hv
    exact ⟨u, e, b _ _ _ _ Step.refl s.at_ r t⟩
  · exact t.elim
/-- one value, then what follows -/
theorem low_bind {f : V → Hp → Prop} {S : Addr → Prop} {σ' : PSt} {σ : St} {G : PH} {H : Hp} {W' : PX} {Q1 : VP} (s : Si X.K X.w W S σ' σ G H W') (t : ta σ' G Q1 W')
    (h : ∀ x v G1 H1, Step S H H1 → Si X.K X.w W S σ' σ G1 H1 W' → RepV X.K X.w H1 x v → Q1 x G1 → f v H1) : low X.K X.w W ta σ H f :=
  ⟨S, σ', G, W', Q1, s, t, fun x v G1 H1 st a r q => h x v G1 H1 st (s.next st a) r q⟩
theorem pe_opP {op : Operator} {r : P2} (ho : OpR X (binaryOp op) (lowR X.K X.w r)) (ha : PE X a (low X.K X.w W ta)) (hb : PE X b (low X.K X.w W tb)) : PE X (.BinOp a op b pos) (low X.K X.w W (wOp r ta tb)) := by
  refine imp_e (pe_op ho ha hb) ?_
  rintro σ H Q ⟨S, σ', G, W', Q', s, t, bk⟩
  refine low_bind s t fun x v G1 H1 st s1 r1 t1 => ?_
  refine low_bind s1 t1 fun y u G2 H2 st2 s2 r2 t2 => ?_
  exact ⟨S, G2, x, y, Q', s2.at_, r1.mono st2.toStay, r2, t2, bk.next (st.trans st2)⟩
theorem pe_unP {op : UnaryOp} {r : P1} (ho : UnR X (unaryOp op) (lowU X.K X.w r)) (ha : PE X a (low X.K X.w W ta)) : PE X (.UnaryOp op a pos) (low X.K X.w W (wUn r ta)) := by
  refine imp_e (pe_un ho ha) ?_
  rintro σ H Q ⟨S, σ', G, W', Q', s, t, bk⟩
  refine low_bind s t fun x v G1 H1 st s1 r1 t1 => ?_
  exact ⟨S, G1, x, Q', s1.at_, r1, t1, bk.next st⟩
theorem pe_cmpP {op : CmpOp} {r : P2} (ho : OpR X (compareOp op) (lowR X.K X.w r)) (ha : PE X a (low X.K X.w W ta)) (hb : PE X b (low X.K X.w W tb)) (hm : behindInMarks op b = false) : PE X (.Compare a [op] [b] pos) (low X.K X.w W (wOp r ta tb)) := by
  refine imp_e (pe_cmpR ho ha hb hm) ?_
  rintro σ H Q ⟨S, σ', G, W', Q', s, t, bk⟩
  refine low_bind s t fun x v G1 H1 st s1 r1 t1 => ?_
  refine low_bind s1 t1 fun y u G2 H2 st2 s2 r2 t2 => ?_
  exact ⟨S, G2, x, y, Q', s2.at_, r1.mono st2.toStay, r2, t2, bk.next (st.trans st2)⟩
theorem pe_iteP {tc : TPT} (hc : PT X c (lowT X.K X.w W tc)) (ha : PE X a (low X.K X.w W ta)) (hb : PE X b (low X.K X.w W tb)) : PE X (.IfExp c a b pos) (low X.K X.w W (wIte tc ta tb)) := by
  refine imp_e (pe_ifExp hc ha hb) ?_
  rintro σ H Q ⟨S, σ', G, W', Q', s, t, bk⟩
  refine ⟨S, σ', G, W', _, s, t, fun k G1 H1 st a q => ?_⟩
  cases k with
  | true => exact ⟨S, σ', G1, W', Q', s.next st a, by simpa using q, bk.next st⟩
  | false => exact ⟨S, σ', G1, W', Q', s.next st a, by simpa using q, bk.next st⟩
theorem pa_nilP : PA X [] (lowA X.K X.w W wNil) := by
  refine imp_a pa_nil ?_
  rintro σ H Q ⟨S, σ', G, W', Q', s, t, bk⟩
  exact bk [] [] G H Step.refl s.at_ rfl t
theorem pa_consP {es : List Expr} {tr : TPA} (ha : PE X e (low X.K X.w W ta)) (hr : PA X es (lowA X.K X.w W tr)) (hs : starEach (e :: es) X.env = (false, eval e X.env) :: starEach es X.env) : PA X (e :: es) (lowA X.K X.w W (wCons ta tr)) := by
  refine imp_a (pa_cons ha hr hs) ?_
  rintro σ H Q ⟨S, σ', G, W', Q', s, t, bk⟩
  refine low_bind s t fun x v G1 H1 st s1 r1 t1 => ?_
  refine ⟨S, σ', G1, W', _, s1, t1, fun xs vs G2 H2 st2 a2 r2 t2 => ?_⟩
  exact bk (x :: xs) (v :: vs) G2 H2 (st.trans st2) a2 ⟨v, vs, rfl, r1.mono st2.toStay, r2⟩ t2
theorem pe_tupP {es : List Expr} {k : Nat} {t : TPA} (h : PA X es (lowA X.K X.w W t)) : PE X (.Tuple es k pos) (low X.K X.w W (wTup t)) := by
  refine imp_e (pe_tup h) ?_
  rintro σ H Q ⟨S, σ', G, W', Q', s, t, bk⟩
  refine ⟨S, σ', G, W', _, s, t, fun xs vs G1 H1 st a r q => ⟨by rw [← r.length]; exact q.1, fun p hp => ?_⟩⟩
  have st1 := a.step_new (o := .tup vs) hp
  exact bk (.tup xs) _ G1 _ (st.trans st1) (a.silent hp) ⟨p, vs, rfl, SqT.of upd_same, r.mono st1.toStay⟩ q.2
theorem pe_lstP {es : List Expr} {t : TPA} (h : PA X es (lowA X.K X.w W t)) : PE X (.List es pos) (low X.K X.w W (wLst t)) := by
  refine imp_e (pe_lst h) ?_
  rintro σ H Q ⟨S, σ', G, W', Q', s, t, bk⟩
  refine ⟨S, σ', G, W', _, s, t, fun xs vs G1 H1 st a r q => ⟨by rw [← r.length]; exact q.1, fun p hp => ?_⟩⟩
  have st1 := a.step_new (o := .lst vs) hp
  exact bk (.ref p) _ _ _ (st.trans st1) (a.new (u := .lst xs) hp ⟨vs, upd_same, r.mono st1.toStay⟩) rfl (q.2 p (a.free hp))
end
end Fv

set_option Elab.async false
set_option linter.all false
set_option maxRecDepth 100000
namespace Fv
open PySem L2

mutual
def PV.dat : PV → PyData
  | .non => .none
  | .bl b => .bool b
  | .int i => .int i
  | .str x => .str x
  | .tup xs => .tuple (dats xs)
  | .wl xs => .list (dats xs)
  | .ref _ => .dict []
  | .ty _ => .dict []
  | .wd _ _ => .dict []
def dats : List PV → List PyData
  | [] => []
  | x :: xs => x.dat :: dats xs
end
/-- data with the lists of the heap, to a depth -/
def datH (G : PH) : Nat → PV → PyData
  | 0, x => x.dat
  | n + 1, .tup xs => .tuple (xs.map (datH G n))
  | n + 1, .wl xs => .list (xs.map (datH G n))
  | n + 1, .ref a => match G a with
    | some (.lst xs) => .list (xs.map (datH G n))
    | _ => .dict []
  | n + 1, x => x.dat
mutual
def peq : PV → PV → Bool
  | .non, .non => true
  | .bl a, .bl b => a == b
  | .int a, .int b => a == b
  | .str a, .str b => a == b
  | .tup a, .tup b => peqs a b
  | _, _ => false
def peqs : List PV → List PV → Bool
  | [], [] => true
  | a :: as, b :: bs => peq a b && peqs as bs
  | _, _ => false
end
def keyOk : PV → Bool
  | .int _ => true
  | .str _ => true
  | .tup xs => xs.all fun x => match x with | .int _ => true | .str _ => true | _ => false
  | _ => false
def isNon : PV → Bool
  | .non => true
  | _ => false
def isInt : PV → Bool
  | .int _ => true
  | _ => false
def isStr : PV → Bool
  | .str _ => true
  | _ => false

/-- the value's truth -/
def pTru : PV → PH → (Bool → Prop) → Prop
  | .non, _, Q => Q false
  | .bl b, _, Q => Q b
  | .int i, _, Q => Q (i != 0)
  | .str x, _, Q => x.length ≤ sizeLine ∧ Q (x.length != 0)
  | .tup xs, _, Q => Q (!xs.isEmpty)
  | .wl xs, _, Q => Q (!xs.isEmpty)
  | .ref a, G, Q => match G a with
    | some (.lst xs) => Q (!xs.isEmpty)
    | some (.dict xs) => Q (!xs.isEmpty)
    | _ => False
  | _, _, _ => False
def pAdd : P2 := fun x y G Q => match x, y with
  | .int i, .int j => Q (.int (i + j)) G
  | .str a, .str b => a.length + b.length ≤ sizeLine ∧ Q (.str (a ++ b)) G
  | .tup a, .tup b => a.length + b.length ≤ sizeLine ∧ Q (.tup (a ++ b)) G
  | .ref a, .ref b => match G a, G b with
    | some (.lst xs), some (.lst ys) => xs.length + ys.length ≤ sizeLine ∧ ∀ p, G p = none → Q (.ref p) (pu G p (.lst (xs ++ ys)))
    | _, _ => False
  | _, _ => False
def pSub : P2 := fun x y G Q => match x, y with
  | .int i, .int j => Q (.int (i - j)) G
  | _, _ => False
def pMul : P2 := fun x y G Q => match x, y with
  | .int i, .int j => CMul i j ∧ Q (.int (i * j)) G
  | .tup xs, .int k => xs ≠ [] ∧ 2 ≤ k ∧ k ≤ 1000 ∧ xs.length ≤ 1000 ∧ Q (.tup (List.replicate k.toNat xs).flatten) G
  | .ref a, .int k => match G a with
    | some (.lst xs) => (-(2 ^ 63) ≤ k ∧ k < 2 ^ 63) ∧ xs.length * k.toNat ≤ sizeLine ∧ ∀ p, G p = none → Q (.ref p) (pu G p (.lst (List.replicate k.toNat xs).flatten))
    | _ => False
  | _, _ => False
def pMod : P2 := fun x y G Q => match x, y with
  | .int i, .int j => 0 < j ∧ Q (.int (i % j)) G
  | _, _ => False
def pDiv : P2 := fun x y G Q => match x, y with
  | .int i, .int j => CDiv i j ∧ Q (.int (i / j)) G
  | _, _ => False
def pPow : P2 := fun x y G Q => match x, y with
  | .int i, .int j => CPow i j ∧ Q (.int (i ^ j.toNat)) G
  | _, _ => False
def pBin : Operator → P2
  | .Add => pAdd
  | .Sub => pSub
  | .Mult => pMul
  | .Mod => pMod
  | .FloorDiv => pDiv
  | .Pow => pPow
  | _ => fun _ _ _ _ => False
def scalP : PV → PV → Bool
  | .non, .non => true
  | .non, .int _ => true
  | .int _, .non => true
  | .non, .bl _ => true
  | .bl _, .non => true
  | .non, .str _ => true
  | .str _, .non => true
  | .int _, .int _ => true
  | .bl _, .bl _ => true
  | .str _, .str _ => true
  | .int _, .str _ => true
  | .str _, .int _ => true
  | .bl _, .str _ => true
  | .str _, .bl _ => true
  | _, _ => false
def flatP : PV → Bool
  | .non => true
  | .bl _ => true
  | .int _ => true
  | .str _ => true
  | _ => false
/-- == of flat values -/
def feq : PV → PV → Bool
  | .non, .non => true
  | .bl a, .bl b => a == b
  | .bl a, .int b => (if a then 1 else 0) == b
  | .int a, .bl b => a == (if b then 1 else 0)
  | .int a, .int b => a == b
  | .str a, .str b => a == b
  | _, _ => false
def pEq (G : PH) (x y : PV) (Q : Bool → Prop) : Prop := if scalP x y = true then Q (peq x y) else
  SeqAt.shaped (datH G 60 x) = true ∧ SeqAt.shaped (datH G 60 y) = true ∧ Q (PyData.eqv (datH G 60 x) (datH G 60 y))
/-- keys, entries of a dict -/
def keyP : PV → Option Key
  | .int i => some (.inl i)
  | .str x => some (.inr x)
  | _ => none
def lkP {κ : Type} [DecidableEq κ] : List (κ × PV) → κ → Option PV
  | [], _ => none
  | (j, v) :: r, k => if j = k then some v else lkP r k
def ptP {κ : Type} [DecidableEq κ] (kvs : List (κ × PV)) (k : κ) (v : PV) : List (κ × PV) :=
  if (kvs.any fun kv => decide (kv.1 = k)) = true then kvs.map (fun kv => if kv.1 = k then (kv.1, v) else kv) else kvs ++ [(k, v)]
def pInS (G : PH) (x c : PV) (ys : List PV) (Q : Bool → Prop) : Prop := if (flatP x && ys.all flatP) = true then Q (ys.any fun y => feq y x) else
  SeqAt.shaped (datH G 60 x) = true ∧ SeqAt.shaped (datH G 60 c) = true ∧ Q (ys.any fun y => PyData.eqv (datH G 59 y) (datH G 60 x))
def pIn (G : PH) (x c : PV) (Q : Bool → Prop) : Prop := match c with
  | .tup ys => pInS G x c ys Q
  | .wl ys => pInS G x c ys Q
  | .str z => match x with
    | .str a => Q (!(Builtin.Str.occurrences z a 0 z.length 1).isEmpty)
    | _ => False
  | .wd ks vs => ks.length = vs.length ∧ match x with
    | .str z => Q (ks.contains z)
    | _ => False
  | .ref a => match G a with
    | some (.lst ys) => pInS G x c ys Q
    | some (.dict kvs) => match keyP x with
      | some k => Q (lkP kvs k).isSome
      | none => False
    | _ => False
  | _ => False
/-- texts, numbers in order -/
def pLt (f : Int → Int → Bool) (g : List Nat → List Nat → Bool) (x y : PV) (Q : Bool → Prop) : Prop := match x, y with
  | .int i, .int j => Q (f i j)
  | .str a, .str b => Q (g a.cps.toList b.cps.toList)
  | _, _ => False
def pIsN (f : PV → Bool) (g : Bool → Bool → Bool) (x y : PV) (Q : Bool → Prop) : Prop := match y with
  | .non => Q (f x)
  | .bl c => match x with
    | .bl b => Q (g b c)
    | _ => False
  | _ => False
def pCmpB : CmpOp → PH → PV → PV → (Bool → Prop) → Prop
  | .Eq => pEq
  | .NotEq => fun G x y Q => pEq G x y fun b => Q (!b)
  | .In => pIn
  | .NotIn => fun G x y Q => pIn G x y fun b => Q (!b)
  | .Lt => fun _ => pLt (fun i j => decide (i < j)) fun a b => decide (a < b)
  | .LtE => fun _ => pLt (fun i j => decide (i ≤ j)) fun a b => !decide (b < a)
  | .Gt => fun _ => pLt (fun i j => decide (j < i)) fun a b => decide (b < a)
  | .GtE => fun _ => pLt (fun i j => decide (j ≤ i)) fun a b => !decide (a < b)
  | .Is => fun _ => pIsN isNon fun b c => b == c
  | .IsNot => fun _ => pIsN (fun x => !isNon x) fun b c => b != c
def pCmp (op : CmpOp) : P2 := fun x y G Q => pCmpB op G x y fun b => Q (.bl b) G
/-- an item -/
def pIdx : P2 := fun x y G Q => match x with
  | .tup xs => match y with
    | .int i => match atI xs i with
      | some v => Q v G
      | none => False
    | _ => False
  | .wl xs => match y with
    | .int i => match atI xs i with
      | some v => Q v G
      | none => False
    | _ => False
  | .str z => match y with
    | .int i => z.length ≤ sizeLine ∧ match atI z.cps.toList i with
      | some c => Q (.str ⟨#[c]⟩) G
      | none => False
    | _ => False
  | .wd ks vs => ks.length = vs.length ∧ match y with
    | .str z => match (ks.zip vs).lookup z with
      | some v => Q v G
      | none => False
    | _ => False
  | .ref a => match G a with
    | some (.lst xs) => match y with
      | .int i => match atI xs i with
        | some v => Q v G
        | none => False
      | _ => False
    | some (.dict kvs) => match keyP y with
      | some k => match lkP kvs k with
        | some v => Q v G
        | none => False
      | none => False
    | _ => False
  | _ => False
/-- a slice without a step -/
def pSl : PV → Option Int → Option Int → PH → VP → Prop := fun x lo hi G Q => match x with
  | .tup xs => Q (.tup ((xs.drop (HT.sIx xs.length 0 lo)).take (HT.sIx xs.length xs.length hi - HT.sIx xs.length 0 lo))) G
  | .str z => z.length ≤ sizeLine ∧ Q (.str (cutS z lo hi)) G
  | .ref a => match G a with
    | some (.lst xs) => ∀ p, G p = none → Q (.ref p) (pu G p (.lst ((xs.drop (HT.sIx xs.length 0 lo)).take (HT.sIx xs.length xs.length hi - HT.sIx xs.length 0 lo))))
    | _ => False
  | _ => False
def tyOf (G : PH) : PV → Option (String ⊕ Addr)
  | .non => some (.inl "NoneType")
  | .bl _ => some (.inl "bool")
  | .int _ => some (.inl "int")
  | .str _ => some (.inl "str")
  | .tup _ => some (.inl "tuple")
  | .wl _ => some (.inl "list")
  | .wd _ _ => some (.inl "dict")
  | .ref a => match G a with
    | some (.lst _) => some (.inl "list")
    | some (.dict _) => some (.inl "dict")
    | some (.dictT _) => some (.inl "dict")
    | some (.ins _ _) => none
    | none => none
  | .ty _ => none
/-- isinstance with a built-in class -/
def pIsi (t : String) : P1 := fun x G Q => match tyOf G x with
  | some (.inl u) => match kitB u t with
    | some b => Q (.bl b) G
    | none => False
  | _ => False
def rangeP (lo : Int) (n : Nat) : List PV := (List.range n).map fun (i : Nat) => PV.int (lo + i)
def signsP (z : Str) : List PV := z.cps.toList.map fun c => PV.str ⟨#[c]⟩
abbrev Keep := List (Addr × PO)
def Kept (kp : Keep) (G : PH) : Prop := ∀ p ∈ kp, G p.1 = some p.2
/-- len -/
def pLen : PV → PH → Option Nat
  | .tup xs, _ => some xs.length
  | .wl xs, _ => some xs.length
  | .str z, _ => if z.length ≤ sizeLine then some z.length else none
  | .ref a, G => match G a with
    | some (.lst xs) => some xs.length
    | some (.dict kvs) => some kvs.length
    | _ => none
  | _, _ => none
end Fv

set_option Elab.async false
set_option linter.all false
set_option maxRecDepth 100000
namespace Fv
open PySem L2

/-- built-ins that are called by name -/
inductive Bn where
  | len | abs | max | min | str | repr | tuple | list | all | any | toi | srt
  deriving DecidableEq
def Bn.name : Bn → Str
  | .len => "len" | .abs => "abs" | .max => "max" | .min => "min" | .str => "str" | .repr => "repr" | .tuple => "tuple" | .list => "list" | .all => "all" | .any => "any" | .toi => "int" | .srt => "sorted"
def allB : List PV → Option (List Bool)
  | [] => some []
  | .bl b :: r => (allB r).map (b :: ·)
  | _ :: _ => none
def bLen (xs : List PV) (G : PH) (Q : VP) : Prop := match xs with
  | [x] => match pLen x G with
    | some n => Q (.int n) G
    | none => False
  | _ => False
def bAbs (xs : List PV) (G : PH) (Q : VP) : Prop := match xs with
  | [.int i] => Q (.int (if i < 0 then -i else i)) G
  | _ => False
def bMax (xs : List PV) (G : PH) (Q : VP) : Prop := match xs with
  | [.int i, .int j] => Q (.int (if j > i then j else i)) G
  | _ => False
def bMin (xs : List PV) (G : PH) (Q : VP) : Prop := match xs with
  | [.int i, .int j] => Q (.int (if j < i then j else i)) G
  | _ => False
def bStr (xs : List PV) (G : PH) (Q : VP) : Prop := match xs with
  | [.int i] => i.natAbs.log2 < 1920 ∧ Q (.str (toString i)) G
  | [.str z] => Q (.str z) G
  | _ => False
def bToi (xs : List PV) (G : PH) (Q : VP) : Prop := match xs with
  | [.str z] => z.length ≤ 640 ∧ match PySem.intText? z with
    | some n => Q (.int n) G
    | none => False
  | _ => False
def bRepr (xs : List PV) (G : PH) (Q : VP) : Prop := match xs with
  | [x] => SeqAt.shaped (datH G 60 x) = true ∧ (datH G 60 x).showable = true ∧ (datH G 60 x).shown.length ≤ sizeLine ∧ Q (.str (datH G 60 x).shown) G
  | _ => False
def bTuple (xs : List PV) (G : PH) (Q : VP) : Prop := match xs with
  | [.tup ys] => Q (.tup ys) G
  | [.ref a] => match G a with
    | some (.lst ys) => Q (.tup ys) G
    | _ => False
  | _ => False
def bList (xs : List PV) (G : PH) (Q : VP) : Prop := match xs with
  | [.tup ys] => ∀ p, G p = none → Q (.ref p) (pu G p (.lst ys))
  | [.ref a] => match G a with
    | some (.lst ys) => ∀ p, G p = none → Q (.ref p) (pu G p (.lst ys))
    | _ => False
  | _ => False
def bAll (xs : List PV) (G : PH) (Q : VP) : Prop := match xs with
  | [.ref a] => match G a with
    | some (.lst ys) => match allB ys with
      | some bs => Q (.bl (bs.all id)) G
      | none => False
    | _ => False
  | _ => False
def bAny (xs : List PV) (G : PH) (Q : VP) : Prop := match xs with
  | [.ref a] => match G a with
    | some (.lst ys) => match allB ys with
      | some bs => Q (.bl (bs.any id)) G
      | none => False
    | _ => False
  | _ => False
def strsQ : List PV → Option (List Str)
  | [] => some []
  | .str x :: r => (strsQ r).map (x :: ·)
  | _ :: _ => none
def bSrt (xs : List PV) (G : PH) (Q : VP) : Prop := match xs with
  | [.ref a] => match G a with
    | some (.lst ys) => match strsQ ys with
      | some zs => zs.length < 64 ∧ ∀ ws : List Str, ws.Perm zs → PyProof.Rows.sortedS ws = true → ∀ p, G p = none → Q (.ref p) (pu G p (.lst (ws.map .str)))
      | none => False
    | _ => False
  | _ => False
def pBn : Bn → List PV → PH → VP → Prop
  | .len => bLen
  | .abs => bAbs
  | .max => bMax
  | .min => bMin
  | .str => bStr
  | .repr => bRepr
  | .tuple => bTuple
  | .list => bList
  | .all => bAll
  | .any => bAny
  | .toi => bToi
  | .srt => bSrt

/-- the items of a list or a tuple -/
def pSeq (y : PV) (G : PH) (R : List PV → Prop) : Prop := match y with
  | .tup xs => R xs
  | .wl xs => R xs
  | .ref a => match G a with
    | some (.lst xs) => R xs
    | _ => False
  | _ => False
def strsP : List PV → Option (List Str)
  | [] => some []
  | .str x :: r => (strsP r).map (x :: ·)
  | _ :: _ => none
/-- the first place of a flat value -/
def idxP (y : PV) : List PV → Option Nat
  | [] => none
  | x :: r => if feq x y = true then some 0 else (idxP y r).map (· + 1)
/-- methods of built-in objects -/
inductive Bm where
  | join | split | splitM | starts | remPre | ext | index | rev | clear | popAt
  deriving DecidableEq
def Bm.name : Bm → Str
  | .join => "join" | .split => "split" | .splitM => "split" | .starts => "startswith" | .remPre => "removeprefix" | .ext => "extend" | .index => "index" | .rev => "reverse" | .clear => "clear" | .popAt => "pop"
def onStr (x : PV) : Prop := match x with
  | .str _ => True
  | _ => False
def onList (x : PV) (G : PH) : Prop := match x with
  | .ref a => match G a with
    | some (.lst _) => True
    | _ => False
  | _ => False
def onBm : Bm → PV → PH → Prop
  | .join, x, _ => onStr x
  | .split, x, _ => onStr x
  | .splitM, x, _ => onStr x
  | .starts, x, _ => onStr x
  | .remPre, x, _ => onStr x
  | .ext, x, G => onList x G
  | .index, x, G => onList x G
  | .rev, x, G => onList x G
  | .clear, x, G => onList x G
  | .popAt, x, G => onList x G
/-- a list that is changed -/
def pLst (x : PV) (G : PH) (R : Addr → List PV → Prop) : Prop := match x with
  | .ref a => match G a with
    | some (.lst xs) => R a xs
    | _ => False
  | _ => False
def newStrs (zs : List Str) (G : PH) (Q : VP) : Prop := ∀ p, G p = none → Q (.ref p) (pu G p (.lst (zs.map .str)))
def mJoin (x : PV) (vs : List PV) (G : PH) (Q : VP) : Prop := match x, vs with
  | .str a, [y] => pSeq y G fun ys => match strsP ys with
    | some zs => (zs.map (·.length)).sum + zs.length * a.length ≤ 16777216 ∧ Q (.str (Txt.join a zs)) G
    | none => False
  | _, _ => False
def mSplit (x : PV) (vs : List PV) (G : PH) (Q : VP) : Prop := match x, vs with
  | .str a, [.str b] => (b.length == 0) = false ∧ a.length + 2 ≤ sizeLine ∧ newStrs (Txt.split a b) G Q
  | _, _ => False
def mSplitM (x : PV) (vs : List PV) (G : PH) (Q : VP) : Prop := match x, vs with
  | .str a, [.str b, .int k] => (b.length == 0) = false ∧ -(2 ^ 63) ≤ k ∧ k < 2 ^ 63 ∧ a.length + 2 ≤ sizeLine ∧ newStrs (Txt.splitMax a b k) G Q
  | _, _ => False
def mStarts (x : PV) (vs : List PV) (G : PH) (Q : VP) : Prop := match x, vs with
  | .str a, [.str b] => Q (.bl (Txt.startswith a b)) G
  | _, _ => False
def mRemPre (x : PV) (vs : List PV) (G : PH) (Q : VP) : Prop := match x, vs with
  | .str a, [.str b] => a.length ≤ sizeLine ∧ Q (.str (Txt.removeprefix a b)) G
  | _, _ => False
def mExt (x : PV) (vs : List PV) (G : PH) (Q : VP) : Prop := pLst x G fun a xs => match vs with
  | [y] => pLst y G fun _ ys => xs.length + ys.length ≤ sizeLine ∧ Q .non (pu G a (.lst (xs ++ ys)))
  | _ => False
def mIndex (x : PV) (vs : List PV) (G : PH) (Q : VP) : Prop := pLst x G fun _ xs => match vs with
  | [y] => flatP y = true ∧ xs.all flatP = true ∧ match idxP y xs with
    | some j => Q (.int (j : Nat)) G
    | none => False
  | _ => False
def mRev (x : PV) (vs : List PV) (G : PH) (Q : VP) : Prop := pLst x G fun a xs => vs = [] ∧ Q .non (pu G a (.lst xs.reverse))
def mClear (x : PV) (vs : List PV) (G : PH) (Q : VP) : Prop := pLst x G fun a _ => vs = [] ∧ Q .non (pu G a (.lst []))
def mPopAt (x : PV) (vs : List PV) (G : PH) (Q : VP) : Prop := pLst x G fun a xs => match vs with
  | [.int i] => -(2 ^ 63) ≤ i ∧ i < 2 ^ 63 ∧ match ixN xs.length i with
    | some j => match xs[j]? with
      | some v => Q v (pu G a (.lst (xs.eraseIdx j)))
      | none => False
    | none => False
  | _ => False
def pBm : Bm → PV → List PV → PH → VP → Prop
  | .join => mJoin
  | .split => mSplit
  | .splitM => mSplitM
  | .starts => mStarts
  | .remPre => mRemPre
  | .ext => mExt
  | .index => mIndex
  | .rev => mRev
  | .clear => mClear
  | .popAt => mPopAt
/-- xs[::-1] -/
def pRvs : P1 := fun x G Q => match x with
  | .tup xs => Q (.tup xs.reverse) G
  | .ref a => match G a with
    | some (.lst xs) => ∀ p, G p = none → Q (.ref p) (pu G p (.lst xs.reverse))
    | _ => False
  | _ => False
/-- a written dict's pairs -/
def keysP : List (PV × PV) → Option (List (Key × PV))
  | [] => some []
  | (k, v) :: r => match keyP k, keysP r with
    | some j, some r => some ((j, v) :: r)
    | _, _ => none
def mergeP (kvs more : List (Key × PV)) : List (Key × PV) := more.foldl (fun acc kv => ptP acc kv.1 kv.2) kvs

/-- what calls do: the callee by its name, the written arguments, the keywords' -/
abbrev PC := Value → List (Str × PV) → PH → Prop
/-- what stands written: constants, the classes' methods, the names that a class has not, its maker -/
structure Tab where
  gl : Str → Option PV
  mt : Str → Str → Option Str := fun _ _ => none
  nof : Str → Str → Bool := fun _ _ => false
  ini : Str → Option Str := fun _ => none
structure Orc where
  fn : Str → List PV → List (Str × PV) → PH → VP → PC → Prop
  tb : Tab
def putP {α : Type} (f : Str) (v : α) : List (Str × α) → List (Str × α)
  | [] => [(f, v)]
  | (g, x) :: r => if g = f then (g, v) :: r else (g, x) :: putP f v r

mutual
inductive Pt where
  | cap (i : Nat) | wild | non | seq (ps : Pts)
inductive Pts where
  | nil | cons (p : Pt) (r : Pts)
end
def Pts.len : Pts → Nat
  | .nil => 0
  | .cons _ r => r.len + 1
def joinB : Option (Option (List (Nat × PV))) → Option (Option (List (Nat × PV))) → Option (Option (List (Nat × PV)))
  | some (some b), some (some c) => some (some (b ++ c))
  | some (some _), some none => some none
  | some none, _ => some none
  | _, _ => none
mutual
/-- does it match, and what is bound -/
def ptM : Pt → PV → Option (Option (List (Nat × PV)))
  | .cap i, v => some (some [(i, v)])
  | .wild, _ => some (some [])
  | .non, v => match v with
    | .non => some (some [])
    | .bl _ => some none
    | .int _ => some none
    | .str _ => some none
    | .tup _ => some none
    | _ => none
  | .seq ps, v => match v with
    | .tup xs => if xs.length = ps.len then ptsM ps xs else some none
    | .non => some none
    | .bl _ => some none
    | .int _ => some none
    | .str _ => some none
    | _ => none
def ptsM : Pts → List PV → Option (Option (List (Nat × PV)))
  | .nil, _ => some (some [])
  | .cons p r, x :: xs => joinB (ptM p x) (ptsM r xs)
  | .cons _ _, [] => none
end
def setB (σ : PSt) : List (Nat × PV) → PSt
  | [] => σ
  | (i, v) :: r => setB (σ.set i (some v)) r
mutual
inductive E where
  | var (i : Nat)
  | cst (v : PV)
  | glob (x : Str)
  | bin (op : Operator) (a b : E)
  | neg (a : E)
  | cmp (op : CmpOp) (a b : E)
  | chain (o1 o2 : CmpOp) (a b c : E)
  | no (a : E)
  | and (a b : E) | or (a b : E)
  | ite (c : T) (a b : E)
  | tup (xs : As) | lst (xs : As)
  | idx (a i : E) | sl (a : E) (lo hi : Eo)
  | call (f : Str) (xs : As) (ks : List Str) (ys : As)
  | blt (f : Bn) (xs : As)
  | isi (a : E) (t : String)
  | fld (a : E) (f : Str)
  | meth (a : E) (m : Str) (xs : As) (ks : List Str) (ys : As)
  | new (c : Str) (xs : As) (ks : List Str) (ys : As)
  | app (l x : E)
  | popl (l : E)
  | dct0
  | get (d k f : E)
  | isb (neg : Bool) (a : E) (b : Bool)
  | bm (m : Bm) (ob : E) (xs : As)
  | rvs (a : E)
  | dct (ps : Ps)
  | bad
  | fmt (a : E)
  | fjoin (xs : As)
  | lc (elt : E) (tg : Tg) (it : It) (ifs : Ts) (own : List (Str × Nat))
/-- tests -/
inductive T where
  | e (a : E)
  | cmp (op : CmpOp) (a b : E)
  | chain (o1 o2 : CmpOp) (a b c : E)
  | and (a b : T) | or (a b : T) | not (a : T)
inductive Ts where
  | nil | cons (t : T) (r : Ts)
inductive As where
  | nil | one (e : E) (r : As) | star (e : E) (r : As)
inductive Ps where
  | nil | cons (k v : E) (r : Ps)
inductive Eo where
  | none | some (e : E)
inductive Tg where
  | name (i : Nat)
  | tup (ts : Tgs)
  | head (ts : Tgs)
  | sub (a i : E)
inductive Tgs where
  | nil | cons (t : Tg) (r : Tgs)
inductive It where
  | gen (e : E)
  | rng (a : E) | rng2 (a b : E)
  | enum (a : E)
  | zip (b : Bool) (a1 a2 : E)
  | rev (a : E)
end
mutual
inductive S where
  | doc
  | expr (e : E)
  | asg (t : Tg) (e : E)
  | asgL (i : Nat) (e : E)
  | par (is : List Nat) (xs : As)
  | ret (e : E) | retN
  | ifs (c : T) (a b : Ss)
  | for_ (t : Tg) (it : It) (b : Ss)
  | brk | cnt | pass
  | setf (ob : E) (f : Str) (e : E)
  | mat (e : E) (cs : Cs)
  | bad
  | whl (c : T) (b : Ss)
  | tryN (b : Ss)
inductive Cs where
  | nil | str (x : Str) (b : Ss) (r : Cs) | any (b : Ss) | pat (p : Pt) (b : Ss) (r : Cs)
inductive Ss where
  | nil | cons (s : S) (r : Ss)
end

abbrev noX4 : PX := fun _ _ _ _ => False
/-- each item with its place -/
def enumP (i0 : Nat) : List PV → List PV
  | [] => []
  | x :: xs => .tup [.int (i0 : Nat), x] :: enumP (i0 + 1) xs
abbrev TPG := PV → PSt → PH → (PSt → PH → Prop) → PX → Prop
abbrev TPI := PSt → PH → (List PV → Keep → PH → Prop) → PX → Prop
def wName (i : Nat) : TPG := fun v σ G Q _ => Q (σ.set i (some v)) G
/-- o[i] = v, by values -/
def pSet : PV → PV → PV → PH → (PH → Prop) → Prop := fun o i v G Q => match o with
  | .ref a => match G a with
    | some (.lst xs) => match i with
      | .int n => match ixN xs.length n with
        | some j => Q (pu G a (.lst (xs.set j v)))
        | none => False
      | _ => False
    | some (.dict kvs) => match keyP i with
      | some k => kvs.length < sizeLine ∧ Q (pu G a (.dict (ptP kvs k v)))
      | none => False
    | _ => False
  | _ => False
/-- what stands behind a value that is zipped: its items, what must stay -/
def pSrc (x : PV) (G : PH) (R : List PV → Keep → Prop) : Prop := match x with
  | .tup xs => R xs []
  | .wl xs => R xs []
  | .str z => R (signsP z) []
  | .ref a => match G a with
    | some (.lst xs) => R xs [(a, .lst xs)]
    | _ => False
  | _ => False
def zipP : List PV → List PV → List PV
  | x :: xs, y :: ys => .tup [x, y] :: zipP xs ys
  | _, _ => []
def wZip (b : Bool) (ta tb : TPE) : TPI := fun σ G R W => ta σ G (fun x G1 => tb σ G1 (fun y G2 => pSrc x G2 fun xs k1 => pSrc y G2 fun ys k2 => (b = true → xs.length = ys.length) ∧ R (zipP xs ys) (k1 ++ k2) G2) W) W
abbrev noX : PX := fun _ _ _ _ => False
/-- the slots of a comprehension's own names forgotten -/
def wipeP (σ : PSt) : List Nat → PSt
  | [] => σ
  | v :: vs => (wipeP σ vs).set v none
/-- a list comprehension's turns -/
def lcL (kp : Keep) (g : TPG) (tt : TPT) (te : TPE) (σ0 : PSt) : List PV → List PV → PH → (List PV → PH → Prop) → Prop
  | [], acc, G, Q => Kept kp G ∧ Q acc G
  | x :: xs, acc, G, Q => Kept kp G ∧ g x σ0 G (fun σ2 G2 => tt σ2 G2 (fun b G3 => if b = true then te σ2 G3 (fun y G4 => acc.length < sizeLine ∧ lcL kp g tt te σ0 xs (acc ++ [y]) G4 Q) noX
      else lcL kp g tt te σ0 xs acc G3 Q) noX) noX
/-- a for loop's turns -/
def forL (kp : Keep) (g : TPG) (tb : TPS) (D : PD) : List PV → PSt → PH → Prop
  | [], σ, G => Kept kp G ∧ D.nx σ G
  | x :: xs, σ, G => Kept kp G ∧ g x σ G (fun σ2 G2 => tb { D with nx := fun σ3 G3 => ∃ G4, Sub G4 G3 ∧ forL kp g tb D xs σ3 G4, ct := fun σ3 G3 => ∃ G4, Sub G4 G3 ∧ forL kp g tb D xs σ3 G4, bk := D.nx } σ2 G2) D.ex
def wGNil : List PV → PSt → PH → (PSt → PH → Prop) → PX → Prop := fun vs σ G Q _ => vs = [] ∧ Q σ G
def wGCons (t : TPG) (u : List PV → PSt → PH → (PSt → PH → Prop) → PX → Prop) : List PV → PSt → PH → (PSt → PH → Prop) → PX → Prop := fun vs σ G Q W => match vs with
  | v :: r => t v σ G (fun σ2 G2 => u r σ2 G2 Q W) W
  | [] => False

def lenG : Tgs → Nat
  | .nil => 0
  | .cons _ r => lenG r + 1
/-- a call, by what the callee does -/
def wCall (sp : List PV → List (Str × PV) → PH → VP → PC → Prop) (ks : List Str) (t tk : TPA) : TPE := fun σ G Q W => t σ G (fun vs G1 => tk σ G1 (fun zs G2 => sp vs (ks.zip zs) G2 Q fun c fs G3 => W c fs σ G3) W) W
def onWd (x : PV) : Prop := match x with
  | .wd _ _ => True
  | _ => False
def pGet (x y d : PV) (G : PH) (Q : VP) : Prop := match x, y with
  | .wd ks vs, .str z => ks.length = vs.length ∧ Q (((ks.zip vs).lookup z).getD d) G
  | _, _ => False
/-- a list on which a method is called -/
def onLst (x : PV) (G : PH) : Prop := match x with
  | .ref a => match G a with
    | some (.lst _) => True
    | _ => False
  | _ => False
def pApp (x v : PV) (G : PH) (Q : VP) : Prop := match x with
  | .ref a => match G a with
    | some (.lst xs) => xs.length < sizeLine ∧ Q .non (pu G a (.lst (xs ++ [v])))
    | _ => False
  | _ => False
def pPopl (x : PV) (G : PH) (Q : VP) : Prop := match x with
  | .ref a => match G a with
    | some (.lst xs) => match xs[xs.length - 1]? with
      | some v => Q v (pu G a (.lst xs.dropLast))
      | none => False
    | _ => False
  | _ => False
def pFld (o : Orc) (f : Str) : P1 := fun x G Q => match x with
  | .ref a => match G a with
    | some (.ins c fs) => match fs.lookup f with
      | some v => o.tb.nof c f = true ∧ Q v G
      | none => False
    | _ => False
  | _ => False
def pSetF (o : Orc) (f : Str) (x v : PV) (G : PH) (Q : PH → Prop) : Prop := match x with
  | .ref a => match G a with
    | some (.ins c fs) => o.tb.nof c f = true ∧ fs.length < 1000 ∧ Q (pu G a (.ins c (putP f v fs)))
    | _ => False
  | _ => False
/-- the def behind a method's name -/
def pMth (o : Orc) (m : Str) (x : PV) (G : PH) (R : Str → Prop) : Prop := match x with
  | .ref a => match G a with
    | some (.ins c fs) => fs.lookup m = none ∧ match o.tb.mt c m with
      | some q => R q
      | none => False
    | _ => False
  | _ => False
def pNew (o : Orc) (c q : Str) (vs : List PV) (kws : List (Str × PV)) (G : PH) (Q : VP) (P : PC) : Prop :=
  ∀ p, G p = none → o.fn q (.ref p :: vs) kws (pu G p (.ins c [])) (fun v G1 => v = .non ∧ Q (.ref p) G1) P
def pIsB (neg b : Bool) (x : PV) (G : PH) (Q : VP) : Prop := match x with
  | .bl k => Q (.bl ((k == b) != neg)) G
  | _ => False
def pFmt : P1 := fun x G Q => match x with
  | .str z => z.length ≤ sizeLine ∧ Q (.str z) G
  | .int i => i.natAbs.log2 < 1920 ∧ Q (.str (toString i)) G
  | _ => False
def wFNil (acc : Str) : TPE := fun _ G Q _ => Q (.str acc) G
def pPut (acc : Str) (x : PV) (R : Str → Prop) : Prop := match x with
  | .str y => (acc ++ y).length ≤ sizeLine ∧ R (acc ++ y)
  | _ => False
def wFCons (te : TPE) (k : Str → TPE) (acc : Str) : TPE := fun σ G Q W => te σ G (fun x G1 => pPut acc x fun a2 => k a2 σ G1 Q W) W
/-- reversed(a tuple) -/
def wRev (ta : TPE) : TPI := fun σ G R W => ta σ G (fun x G1 => match x with
      | .tup xs => R xs.reverse [] G1
      | _ => False) W
section
variable (o : Orc)
mutual
def wE : E → TPE
  | .var i => wVar i
  | .cst v => wCst v
  | .glob x => fun _ G Q _ => match o.tb.gl x with
    | some v => Q v G
    | none => False
  | .bin op a b => wOp (pBin op) (wE a) (wE b)
  | .neg a => wUn (fun x G Q => match x with | .int i => Q (.int (-i)) G | _ => False) (wE a)
  | .cmp op a b => wOp (pCmp op) (wE a) (wE b)
  | .chain o1 o2 a b c => fun σ G Q W => wE a σ G (fun x G1 => wE b σ G1 (fun y G2 => pCmpB o1 G2 x y fun k => if k = true then wE c σ G2 (fun z G3 => pCmp o2 y z G3 Q) W else Q (.bl false) G2) W) W
  | .no a => fun σ G Q W => wE a σ G (fun x G1 => pTru x G1 fun k => Q (.bl (!k)) G1) W
  | .and a b => fun σ G Q W => wE a σ G (fun x G1 => pTru x G1 fun k => if k = true then wE b σ G1 Q W else Q x G1) W
  | .or a b => fun σ G Q W => wE a σ G (fun x G1 => pTru x G1 fun k => if k = true then Q x G1 else wE b σ G1 Q W) W
  | .ite c a b => wIte (wT c) (wE a) (wE b)
  | .tup xs => wTup (wA xs)
  | .lst xs => wLst (wA xs)
  | .idx a i => wOp pIdx (wE a) (wE i)
  | .sl a lo hi => fun σ G Q W => wE a σ G (fun x G1 => wO lo σ G1 (fun l G2 => wO hi σ G2 (fun h G3 => pSl x l h G3 Q) W) W) W
  | .call f xs ks ys => wCall (o.fn f) ks (wA xs) (wA ys)
  | .blt f xs => fun σ G Q W => wA xs σ G (fun vs G1 => pBn f vs G1 Q) W
  | .isi a t => wUn (pIsi t) (wE a)
  | .fld a f => wUn (pFld o f) (wE a)
  | .meth a m xs ks ys => fun σ G Q W => wE a σ G (fun x G1 => pMth o m x G1 fun q => wA xs σ G1 (fun vs G2 => wA ys σ G2 (fun zs G3 => o.fn q (x :: vs) (ks.zip zs) G3 Q fun c fs G4 => W c fs σ G4) W) W) W
  | .new c xs ks ys => fun σ G Q W => match o.tb.ini c with
    | none => False
    | some q => wA xs σ G (fun vs G1 => wA ys σ G1 (fun zs G2 => pNew o c q vs (ks.zip zs) G2 Q fun c fs G4 => W c fs σ G4) W) W
  | .app l x => fun σ G Q W => wE l σ G (fun a G1 => onLst a G1 ∧ wE x σ G1 (fun v G2 => pApp a v G2 Q) W) W
  | .popl l => fun σ G Q W => wE l σ G (fun a G1 => pPopl a G1 Q) W
  | .dct0 => fun _ G Q _ => ∀ p, G p = none → Q (.ref p) (pu G p (.dict []))
  | .get d k f => fun σ G Q W => wE d σ G (fun x G1 => onWd x ∧ wE k σ G1 (fun y G2 => wE f σ G2 (fun z G3 => pGet x y z G3 Q) W) W) W
  | .isb neg a b => wUn (pIsB neg b) (wE a)
  | .bm m ob xs => fun σ G Q W => wE ob σ G (fun x G1 => onBm m x G1 ∧ wA xs σ G1 (fun vs G2 => pBm m x vs G2 Q) W) W
  | .rvs a => wUn pRvs (wE a)
  | .dct ps => fun σ G Q W => wP ps σ G (fun kvs G1 => match keysP kvs with
      | some es => kvs.length ≤ 15 ∧ ∀ p, G1 p = none → Q (.ref p) (pu G1 p (.dict (mergeP [] es)))
      | none => False) W
  | .lc elt tg it ifs own => fun σ G Q W => wI it σ G (fun xs kp G1 => lcL kp (wG tg) (wTs ifs) (wE elt) (wipeP σ (own.map (·.2))) xs [] G1 fun acc G2 => ∀ D, G2 D = none → Q (.ref D) (pu G2 D (.lst acc))) W
  | .bad => fun _ _ _ _ => False
  | .fmt a => wUn pFmt (wE a)
  | .fjoin xs => wF xs Str.empty
def wF : As → Str → TPE
  | .nil => wFNil
  | .one e r => wFCons (wE e) (wF r)
  | .star _ _ => fun _ _ _ _ _ => False
def wT : T → TPT
  | .e a => fun σ G Q W => wE a σ G (fun x G1 => pTru x G1 fun k => Q k G1) W
  | .cmp op a b => fun σ G Q W => wE a σ G (fun x G1 => wE b σ G1 (fun y G2 => pCmpB op G2 x y fun k => Q k G2) W) W
  | .chain o1 o2 a b c => fun σ G Q W => wE a σ G (fun x G1 => wE b σ G1 (fun y G2 => pCmpB o1 G2 x y fun k => if k = true then wE c σ G2 (fun z G3 => pCmpB o2 G3 y z fun k2 => Q k2 G3) W else Q false G2) W) W
  | .and a b => fun σ G Q W => wT a σ G (fun k G1 => if k = true then wT b σ G1 Q W else Q false G1) W
  | .or a b => fun σ G Q W => wT a σ G (fun k G1 => if k = true then Q true G1 else wT b σ G1 Q W) W
  | .not a => fun σ G Q W => wT a σ G (fun k G1 => Q (!k) G1) W
def wTs : Ts → TPT
  | .nil => fun _ G Q _ => Q true G
  | .cons t r => fun σ G Q W => wT t σ G (fun k G1 => if k = true then wTs r σ G1 Q W else Q false G1) W
def wA : As → TPA
  | .nil => wNil
  | .one e r => wCons (wE e) (wA r)
  | .star e r => fun σ G Q W => wE e σ G (fun x G1 => match x with
      | .tup xs => wA r σ G1 (fun ys G2 => Q (xs ++ ys) G2) W
      | .ref a => match G1 a with
        | some (.lst xs) => wA r σ G1 (fun ys G2 => Q (xs ++ ys) G2) W
        | _ => False
      | _ => False) W
def wP : Ps → PSt → PH → (List (PV × PV) → PH → Prop) → PX → Prop
  | .nil => fun _ G Q _ => Q [] G
  | .cons k v r => fun σ G Q W => wE k σ G (fun x G1 => wE v σ G1 (fun y G2 => wP r σ G2 (fun ps G3 => Q ((x, y) :: ps) G3) W) W) W
def wO : Eo → PSt → PH → (Option Int → PH → Prop) → PX → Prop
  | .none => fun _ G Q _ => Q none G
  | .some e => fun σ G Q W => wE e σ G (fun x G1 => match x with
      | .int i => Q (some i) G1
      | _ => False) W
def wG : Tg → TPG
  | .name i => wName i
  | .tup ts => fun v σ G Q W => match v with
    | .tup xs => xs.length = lenG ts ∧ wGs ts xs σ G Q W
    | .ref a => match G a with
      | some (.lst xs) => xs.length = lenG ts ∧ wGs ts xs σ G Q W
      | _ => False
    | _ => False
  | .head ts => fun v σ G Q W => match v with
    | .tup (x :: xs) => ∀ p, G p = none → wGs ts [x, .ref p] σ (pu G p (.lst xs)) Q W
    | .ref a => match G a with
      | some (.lst (x :: xs)) => ∀ p, G p = none → wGs ts [x, .ref p] σ (pu G p (.lst xs)) Q W
      | _ => False
    | _ => False
  | .sub a i => fun v σ G Q W => wE a σ G (fun x G1 => wE i σ G1 (fun y G2 => pSet x y v G2 fun G3 => Q σ G3) W) W
def wGs : Tgs → List PV → PSt → PH → (PSt → PH → Prop) → PX → Prop
  | .nil => wGNil
  | .cons t r => wGCons (wG t) (wGs r)
def wI : It → TPI
  | .gen e => fun σ G R W => wE e σ G (fun x G1 => match x with
      | .tup xs => R xs [] G1
      | .wl xs => R xs [] G1
      | .str z => R (signsP z) [] G1
      | .ref a => match G1 a with
        | some (.lst xs) => R xs [(a, .lst xs)] G1
        | _ => False
      | _ => False) W
  | .rng a => fun σ G R W => wE a σ G (fun x G1 => match x with
      | .int j => -(2 ^ 62) ≤ j ∧ j < 2 ^ 62 ∧ R (rangeP 0 j.toNat) [] G1
      | _ => False) W
  | .rng2 a b => fun σ G R W => wE a σ G (fun x G1 => wE b σ G1 (fun y G2 => match x, y with
      | .int i, .int j => (-(2 ^ 62) ≤ i ∧ i < 2 ^ 62 ∧ -(2 ^ 62) ≤ j ∧ j < 2 ^ 62) ∧ R (rangeP i (j - i).toNat) [] G2
      | _, _ => False) W) W
  | .enum a => fun σ G R W => wE a σ G (fun x G1 => match x with
      | .tup xs => R (enumP 0 xs) [] G1
      | .wl xs => R (enumP 0 xs) [] G1
      | .ref a => match G1 a with
        | some (.lst xs) => R (enumP 0 xs) [(a, .lst xs)] G1
        | _ => False
      | _ => False) W
  | .zip b a1 a2 => wZip b (wE a1) (wE a2)
  | .rev a => wRev (wE a)
end
/-- while: what holds ahead of each turn, with a measure -/
def wWhl (c : TPT) (tb : TPS) : TPS := fun D σ G => ∃ I : Nat → PSt → PH → Prop, (∃ m, I m σ G) ∧ ∀ m σ G, I m σ G →
  c σ G (fun k G1 => if k = true then ∃ N : PSt → PH → Prop, (∀ σ' G', N σ' G' → ∃ m' G2, m' < m ∧ Sub G2 G' ∧ I m' σ' G2) ∧ tb { D with nx := N, ct := N, bk := D.nx } σ G1 else D.nx σ G1) D.ex
/-- more than one name at once -/
def setAll (σ : PSt) : List Nat → List PV → PSt
  | i :: is, v :: vs => setAll (σ.set i (some v)) is vs
  | _, _ => σ
mutual
def wS : S → TPS
  | .doc => fun D σ G => D.nx σ G
  | .expr e => fun D σ G => wE o e σ G (fun _ G1 => D.nx σ G1) D.ex
  | .asg t e => fun D σ G => wE o e σ G (fun x G1 => wG o t x σ G1 D.nx D.ex) D.ex
  | .asgL i e => fun D σ G => wE o e σ G (fun x G1 => D.nx (σ.set i (some x)) G1) D.ex
  | .par is xs => fun D σ G => wA o xs σ G (fun vs G1 => vs.length = is.length ∧ D.nx (setAll σ is vs) G1) D.ex
  | .ret e => fun D σ G => wE o e σ G D.rt D.ex
  | .retN => fun D _ G => D.rt .non G
  | .ifs c a b => fun D σ G => wT o c σ G (fun k G1 => if k = true then wSs a D σ G1 else wSs b D σ G1) D.ex
  | .for_ t it b => fun D σ G => wI o it σ G (fun xs kp G1 => forL kp (wG o t) (wSs b) D xs σ G1) D.ex
  | .brk => fun D σ G => D.bk σ G
  | .cnt => fun D σ G => D.ct σ G
  | .pass => fun D σ G => D.nx σ G
  | .setf ob f e => fun D σ G => wE o e σ G (fun v G1 => wE o ob σ G1 (fun x G2 => pSetF o f x v G2 fun G3 => D.nx σ G3) D.ex) D.ex
  | .mat e cs => fun D σ G => wE o e σ G (fun v G1 => wCs cs v D σ G1) D.ex
  | .bad => fun _ _ _ => False
  | .whl c b => wWhl (wT o c) (wSs b)
  | .tryN b => fun D σ G => wSs b { D with ex := noX4 } σ G
def wCs : Cs → PV → TPS
  | .nil => fun _ D σ G => D.nx σ G
  | .str x b r => fun v D σ G => pEq G v (.str x) fun k => if k = true then wSs b D σ G else wCs r v D σ G
  | .any b => fun _ D σ G => wSs b D σ G
  | .pat p b r => fun v D σ G => match ptM p v with
    | none => False
    | some none => wCs r v D σ G
    | some (some bs) => wSs b D (setB σ bs) G
def wSs : Ss → TPS
  | .nil => fun D σ G => D.nx σ G
  | .cons s r => fun D σ G => wS s { D with nx := fun σ1 G1 => wSs r D σ1 G1 } σ G
end
end
end Fv

set_option Elab.async false
set_option linter.all false
set_option maxRecDepth 100000
set_option maxHeartbeats 1000000
namespace Fv
open PySem L2
section
variable {X : Cx}
/-- the end of an operator: the same heap -/
theorem Back.same {K : PySem.W.Frag} {w : World} {S : Addr → Prop} {G : PH} {H : Hp} {Q' : VP} {Q : VK} (bk : Back K w S H Q' Q) (a : At K w S G H) {x : PV} {v : V} (r : RepV K w H x v) (q : Q' x G) : Q v H := bk x v G H Step.refl a r q
/-- .. a new list -/
theorem Back.newL {K : PySem.W.Frag} {w : World} {S : Addr → Prop} {G : PH} {H : Hp} {Q' : VP} {Q : VK} (bk : Back K w S H Q' Q) (a : At K w S G H) {xs : List PV} {vs : List V} (r : RepL K w H xs vs) (q : ∀ p, G p = none → Q' (.ref p) (pu G p (.lst xs))) :
    ∀ p, H p = none → Q (.ref p) (upd H p (.lst vs)) := fun p hp => by
  have st := a.step_new (o := .lst vs) hp
  exact bk (.ref p) _ _ _ st (a.new (u := .lst xs) hp ⟨vs, upd_same, r.mono st.toStay⟩) rfl (q p (a.free hp))
theorem Back.newT {K : PySem.W.Frag} {w : World} {S : Addr → Prop} {G : PH} {H : Hp} {Q' : VP} {Q : VK} (bk : Back K w S H Q' Q) (a : At K w S G H) {xs : List PV} {vs : List V} (r : RepL K w H xs vs) (q : Q' (.tup xs) G) :
    ∀ p, H p = none → Q (.ref p) (upd H p (.tup vs)) := fun p hp => by
  have st := a.step_new (o := .tup vs) hp
  exact bk (.tup xs) _ _ _ st (a.silent hp) ⟨p, vs, rfl, SqT.of upd_same, r.mono st.toStay⟩ q
theorem rep_int {K : PySem.W.Frag} {w : World} {H : Hp} {i : Int} : RepV K w H (.int i) (.int i) := rfl
theorem rep_str {K : PySem.W.Frag} {w : World} {H : Hp} {i : Str} : RepV K w H (.str i) (.str i) := rfl
theorem rep_bl {K : PySem.W.Frag} {w : World} {H : Hp} {i : Bool} : RepV K w H (.bl i) (.bl i) := rfl
theorem rep_tup {K : PySem.W.Frag} {w : World} {H : Hp} {p : Addr} {xs : List PV} {vs : List V} (h : SqT K H p vs) (r : RepL K w H xs vs) : RepV K w H (.tup xs) (.ref p) := ⟨p, vs, rfl, h, r⟩
theorem ref_lst {K : PySem.W.Frag} {w : World} {S : Addr → Prop} {G : PH} {H : Hp} (a : At K w S G H) {p : Addr} {xs : List PV} (e : G p = some (.lst xs)) : ∃ vs, H p = some (.lst vs) ∧ RepL K w H xs vs := a.ob p _ e

theorem opAdd : OpR X (binaryOp .Add) (lowR X.K X.w pAdd) := by
  rintro pins s σ H x y v u Q I rx ry ⟨S, G, x', y', Q', a, r1, r2, q, bk⟩
  unfold pAdd at q
  split at q
  · cases r1; cases r2
    exact op_add pins s σ H _ _ v u Q I rx ry ⟨_, _, rfl, rfl, bk.same a rep_int q⟩
  · cases r1; cases r2
    exact op_add_str pins s σ H _ _ v u Q I rx ry ⟨_, _, rfl, rfl, q.1, bk.same a rep_str q.2⟩
  · obtain ⟨p, vs, rfl, t1, l1⟩ := r1
    obtain ⟨p2, vs2, rfl, t2, l2⟩ := r2
    refine op_catA pins s σ H _ _ v u Q I rx ry ⟨p, p2, vs, vs2, rfl, rfl, t1, t2, by rw [← l1.length, ← l2.length]; exact q.1, fun e => ?_, fun _ e => ?_, fun _ _ => bk.newT a (l1.app l2) q.2⟩
    · subst e
      have := l1.length
      rename_i xs ys
      have e0 : xs = [] := List.length_eq_zero_iff.mp this
      subst e0
      exact bk.same a (rep_tup t2 l2) q.2
    · subst e
      have := l2.length
      rename_i xs ys _
      have e0 : ys = [] := List.length_eq_zero_iff.mp this
      subst e0
      rw [List.append_nil] at q
      exact bk.same a (rep_tup t1 l1) q.2
  · cases r1; cases r2
    split at q
    · rename_i e1 e2
      obtain ⟨vs, h1, l1⟩ := ref_lst a e1
      obtain ⟨vs2, h2, l2⟩ := ref_lst a e2
      exact op_cat pins s σ H _ _ v u Q I rx ry ⟨_, _, vs, vs2, rfl, rfl, h1, h2, by rw [← l1.length, ← l2.length]; exact q.1, bk.newL a (l1.app l2) q.2⟩
    · exact q.elim
  · exact q.elim
theorem RepL.flat {K : PySem.W.Frag} {w : World} {H : Hp} {xs : List PV} {vs : List V} (r : RepL K w H xs vs) : ∀ n : Nat, RepL K w H (List.replicate n xs).flatten (List.replicate n vs).flatten
  | 0 => rfl
  | n + 1 => by
    rw [List.replicate_succ, List.replicate_succ, List.flatten_cons, List.flatten_cons]
    exact r.app (RepL.flat r n)
theorem opBin : ∀ op : Operator, OpR X (binaryOp op) (lowR X.K X.w (pBin op)) := by
  intro op
  by_cases hadd : op = .Add
  · subst hadd; exact opAdd
  rintro pins s σ H x y v u Q I rx ry ⟨S, G, x', y', Q', a, r1, r2, q, bk⟩
  cases op <;> first | exact absurd rfl hadd | exact (show False from q).elim | skip
  · change pSub x' y' G Q' at q
    unfold pSub at q
    split at q
    · cases r1; cases r2
      exact op_sub pins s σ H _ _ v u Q I rx ry ⟨_, _, rfl, rfl, bk.same a rep_int q⟩
    · exact q.elim
  · change pMul x' y' G Q' at q
    unfold pMul at q
    split at q
    · cases r1; cases r2
      exact op_mul pins s σ H _ _ v u Q I rx ry ⟨_, _, rfl, rfl, q.1, bk.same a rep_int q.2⟩
    · obtain ⟨p, vs, rfl, t1, l1⟩ := r1
      cases r2
      refine op_repT pins s σ H _ _ v u Q I rx ry ⟨p, _, vs, rfl, rfl, t1, fun e => ?_, q.2.1, q.2.2.1, by rw [← l1.length]; exact q.2.2.2.1, bk.newT a (l1.flat _) q.2.2.2.2⟩
      refine q.1 (List.length_eq_zero_iff.1 ?_)
      rw [l1.length, e]; rfl
    · cases r1; cases r2
      split at q
      · rename_i e1
        obtain ⟨vs, h1, l1⟩ := ref_lst a e1
        exact op_rep pins s σ H _ _ v u Q I rx ry ⟨_, _, vs, rfl, rfl, h1, q.1.1, q.1.2, by rw [← l1.length]; exact q.2.1, bk.newL a (l1.flat _) q.2.2⟩
      · exact q.elim
    · exact q.elim
  · change pMod x' y' G Q' at q
    unfold pMod at q
    split at q
    · cases r1; cases r2
      exact op_mod pins s σ H _ _ v u Q I rx ry ⟨_, _, rfl, rfl, q.1, bk.same a rep_int q.2⟩
    · exact q.elim
  · change pPow x' y' G Q' at q
    unfold pPow at q
    split at q
    · cases r1; cases r2
      exact op_pow pins s σ H _ _ v u Q I rx ry ⟨_, _, rfl, rfl, q.1, bk.same a rep_int q.2⟩
    · exact q.elim
  · change pDiv x' y' G Q' at q
    unfold pDiv at q
    split at q
    · cases r1; cases r2
      exact op_fdiv pins s σ H _ _ v u Q I rx ry ⟨_, _, rfl, rfl, q.1, bk.same a rep_int q.2⟩
    · exact q.elim
end
end Fv

set_option Elab.async false
set_option linter.all false
set_option maxRecDepth 100000
set_option maxHeartbeats 1000000
namespace Fv
open PySem L2
section
variable {K : PySem.W.Frag} {w : World} {S : Addr → Prop} {G : PH} {H : Hp}
mutual
theorem dp_dat : ∀ (x : PV) (v : V), RepV K w H x v → x.dat.canLay0 = true → Dp K H v x.dat
  | .non, _, r, _ => by cases r; exact .non
  | .bl b, _, r, _ => by cases r; exact .bl b
  | .int i, _, r, _ => by cases r; exact .int i
  | .str x, _, r, _ => by cases r; exact .str x
  | .tup xs, _, ⟨p, vs, e, t, l⟩, c => by subst e; exact .tup t (dp_dats xs vs l (by simpa [PV.dat, PyData.canLay0] using c))
  | .wl xs, _, ⟨p, vs, e, t, l⟩, c => by subst e; exact .lst t.sq (dp_dats xs vs l (by simpa [PV.dat, PyData.canLay0] using c))
  | .ref _, _, _, c => by simp [PV.dat, PyData.canLay0] at c
  | .ty _, _, _, c => by simp [PV.dat, PyData.canLay0] at c
  | .wd _ _, _, _, c => by simp [PV.dat, PyData.canLay0] at c
theorem dp_dats : ∀ (xs : List PV) (vs : List V), RepL K w H xs vs → PyData.canLayAll0 (dats xs) = true → DpAll K H vs (dats xs)
  | [], _, r, _ => by cases r; exact .nil
  | x :: xs, _, ⟨v, r, e, a, b⟩, c => by
    subst e
    have h : x.dat.canLay0 = true ∧ PyData.canLayAll0 (dats xs) = true := by simpa [dats, PyData.canLayAll0] using c
    exact .cons (dp_dat x v a h.1) (dp_dats xs r b h.2)
end
theorem dp_all {n : Nat} (ih : ∀ (x : PV) (v : V), RepV K w H x v → (datH G n x).canLay0 = true → Dp K H v (datH G n x)) : ∀ (xs : List PV) (vs : List V), RepL K w H xs vs → PyData.canLayAll0 (xs.map (datH G n)) = true → DpAll K H vs (xs.map (datH G n))
  | [], _, r, _ => by cases r; exact .nil
  | x :: xs, _, ⟨v, r, e, a, b⟩, c => by
    subst e
    have h : (datH G n x).canLay0 = true ∧ PyData.canLayAll0 (xs.map (datH G n)) = true := by simpa [PyData.canLayAll0] using c
    exact .cons (ih x v a h.1) (dp_all ih xs r b h.2)
theorem dp_datH (a : At K w S G H) : ∀ (n : Nat) (x : PV) (v : V), RepV K w H x v → (datH G n x).canLay0 = true → Dp K H v (datH G n x)
  | 0, x, v, r, c => dp_dat x v r c
  | n + 1, .tup xs, _, ⟨p, vs, e, t, l⟩, c => by subst e; exact .tup t (dp_all (dp_datH a n) xs vs l (by simpa [datH, PyData.canLay0] using c))
  | n + 1, .wl xs, _, ⟨p, vs, e, t, l⟩, c => by subst e; exact .lst t.sq (dp_all (dp_datH a n) xs vs l (by simpa [datH, PyData.canLay0] using c))
  | n + 1, .ref p, v, r, c => by
    cases r
    unfold datH at c ⊢
    split at c
    · rename_i xs e
      obtain ⟨vs, h, l⟩ := ref_lst a e
      exact .lst (SqL.of h) (dp_all (dp_datH a n) xs vs l (by simpa [PyData.canLay0] using c))
    · simp [PyData.canLay0] at c
  | n + 1, .non, _, r, _ => by cases r; exact .non
  | n + 1, .bl b, _, r, _ => by cases r; exact .bl b
  | n + 1, .int i, _, r, _ => by cases r; exact .int i
  | n + 1, .str x, _, r, _ => by cases r; exact .str x
  | n + 1, .ty _, _, _, c => by simp [datH, PV.dat, PyData.canLay0] at c
  | n + 1, .wd _ _, _, _, c => by simp [datH, PV.dat, PyData.canLay0] at c
theorem dp_sh (a : At K w S G H) {x : PV} {v : V} (r : RepV K w H x v) {n : Nat} (c : SeqAt.shaped (datH G n x) = true) : Dp K H v (datH G n x) := dp_datH a n x v r (SeqAt.canLay_of_shaped c)
end
section
variable {X : Cx}
theorem scal_of {K : PySem.W.Frag} {w : World} {H : Hp} {x y : PV} {u v : V} (r1 : RepV K w H x u) (r2 : RepV K w H y v) (h : scalP x y = true) : scal u v = true ∧ decide (u = v) = peq x y := by
  unfold scalP at h
  split at h <;> first | cases h | skip
  all_goals (cases r1; cases r2; refine ⟨rfl, ?_⟩; unfold peq)
  all_goals first | rfl | skip
  · rw [dec_int]
  · rw [dec_bl]
  · rw [dec_str]
theorem opEq (hu : X.A.units + 65 < cLine) : OpR X (compareOp .Eq) (lowR X.K X.w (pCmp .Eq)) := by
  rintro pins s σ H x y v u Q I rx ry ⟨S, G, x', y', Q', a, r1, r2, q, bk⟩
  have q : pEq G x' y' (fun b => Q' (.bl b) G) := q
  unfold pEq at q
  by_cases hs : scalP x' y' = true
  · rw [if_pos hs] at q
    obtain ⟨h1, h2⟩ := scal_of r1 r2 hs
    exact op_eq pins s σ H _ _ v u Q I rx ry ⟨h1, by rw [h2]; exact bk.same a rep_bl q⟩
  · rw [if_neg hs] at q
    obtain ⟨s1, s2, q⟩ := q
    exact op_eqD (by omega) pins s σ H _ _ v u Q I rx ry ⟨_, _, dp_sh a r1 s1, dp_sh a r2 s2, s1, s2, bk.same a rep_bl q⟩
theorem opNe (hu : X.A.units + 65 < cLine) : OpR X (compareOp .NotEq) (lowR X.K X.w (pCmp .NotEq)) := by
  rintro pins s σ H x y v u Q I rx ry ⟨S, G, x', y', Q', a, r1, r2, q, bk⟩
  have q : pEq G x' y' (fun b => Q' (.bl (!b)) G) := q
  unfold pEq at q
  by_cases hs : scalP x' y' = true
  · rw [if_pos hs] at q
    obtain ⟨h1, h2⟩ := scal_of r1 r2 hs
    exact op_ne pins s σ H _ _ v u Q I rx ry ⟨h1, by rw [h2]; exact bk.same a rep_bl q⟩
  · rw [if_neg hs] at q
    obtain ⟨s1, s2, q⟩ := q
    exact op_neD (by omega) pins s σ H _ _ v u Q I rx ry ⟨_, _, dp_sh a r1 s1, dp_sh a r2 s2, s1, s2, bk.same a rep_bl q⟩
theorem opOrd {op : CmpOp} {f : Int → Int → Bool} {g : List Nat → List Nat → Bool} (hp : ∀ x y G Q, pCmp op x y G Q = pLt f g x y fun b => Q (.bl b) G) (hi : OpR X (compareOp op) (rI0 fun i j => .bl (f i j)))
    (hs : OpR X (compareOp op) (fun x y H Q => ∃ i j, x = .str i ∧ y = .str j ∧ Q (.bl (g i.cps.toList j.cps.toList)) H)) : OpR X (compareOp op) (lowR X.K X.w (pCmp op)) := by
  rintro pins s σ H x y v u Q I rx ry ⟨S, G, x', y', Q', a, r1, r2, q, bk⟩
  rw [hp] at q
  unfold pLt at q
  split at q
  · cases r1; cases r2
    exact hi pins s σ H _ _ v u Q I rx ry ⟨_, _, rfl, rfl, bk.same a rep_bl q⟩
  · cases r1; cases r2
    exact hs pins s σ H _ _ v u Q I rx ry ⟨_, _, rfl, rfl, bk.same a rep_bl q⟩
  · exact q.elim
theorem op_isB {X : Cx} : OpR X (compareOp .Is) (fun x y H Q => ∃ b c, x = .bl b ∧ y = .bl c ∧ Q (.bl (b == c)) H) := by
  rintro pins s σ H x y v u Q I rx ry ⟨b, c, rfl, rfl, q⟩
  cases rx
  cases ry
  cases b <;> cases c <;> exact wpAny_pure ⟨.bl _, H, I, (by rfl), q⟩
theorem op_isnB {X : Cx} : OpR X (compareOp .IsNot) (fun x y H Q => ∃ b c, x = .bl b ∧ y = .bl c ∧ Q (.bl (b != c)) H) := by
  rintro pins s σ H x y v u Q I rx ry ⟨b, c, rfl, rfl, q⟩
  cases rx
  cases ry
  cases b <;> cases c <;> exact wpAny_pure ⟨.bl _, H, I, (by rfl), q⟩
theorem opIs : OpR X (compareOp .Is) (lowR X.K X.w (pCmp .Is)) := by
  rintro pins s σ H x y v u Q I rx ry ⟨S, G, x', y', Q', a, r1, r2, q, bk⟩
  cases y' <;> first | exact (show False from q).elim | skip
  · cases r2
    refine op_isN pins s σ H _ _ v u Q I rx ry ⟨rfl, ?_⟩
    have e : decide (x = V.non) = isNon x' := by
      cases x' <;> first | (cases r1; rfl) | (obtain ⟨p, vs, rfl, _⟩ := r1; rfl)
    rw [e]
    exact bk.same a rep_bl q
  · cases x' <;> first | exact (show False from q).elim | skip
    cases r1; cases r2
    exact op_isB pins s σ H _ _ v u Q I rx ry ⟨_, _, rfl, rfl, bk.same a rep_bl q⟩
theorem opIsNot : OpR X (compareOp .IsNot) (lowR X.K X.w (pCmp .IsNot)) := by
  rintro pins s σ H x y v u Q I rx ry ⟨S, G, x', y', Q', a, r1, r2, q, bk⟩
  cases y' <;> first | exact (show False from q).elim | skip
  · cases r2
    refine op_notN pins s σ H _ _ v u Q I rx ry ⟨rfl, ?_⟩
    have e : (!decide (x = V.non)) = !isNon x' := by
      cases x' <;> first | (cases r1; rfl) | (obtain ⟨p, vs, rfl, _⟩ := r1; rfl)
    rw [e]
    exact bk.same a rep_bl q
  · cases x' <;> first | exact (show False from q).elim | skip
    cases r1; cases r2
    exact op_isnB pins s σ H _ _ v u Q I rx ry ⟨_, _, rfl, rfl, bk.same a rep_bl q⟩
theorem flat_of {K : PySem.W.Frag} {w : World} {H : Hp} {x : PV} {u : V} (r : RepV K w H x u) (h : flatP x = true) : flatV u = true := by
  cases x <;> first | (cases r; rfl) | cases h
theorem feq_of {K : PySem.W.Frag} {w : World} {H : Hp} {x y : PV} {u v : V} (r1 : RepV K w H x u) (r2 : RepV K w H y v) (h1 : flatP x = true) (h2 : flatP y = true) : eqV u v = feq x y := by
  cases x <;> first | cases h1 | skip
  all_goals (cases r1; cases y <;> first | cases h2 | skip)
  all_goals (cases r2; rfl)
theorem flats_of {K : PySem.W.Frag} {w : World} {H : Hp} {x : PV} {u : V} (r : RepV K w H x u) (hx : flatP x = true) : ∀ (ys : List PV) (vs : List V), RepL K w H ys vs → ys.all flatP = true → vs.all flatV = true ∧ inV u vs = ys.any fun y => feq y x
  | [], _, l, _ => by cases l; exact ⟨rfl, rfl⟩
  | y :: ys, _, ⟨v, t, e, l1, l2⟩, h => by
    subst e
    rw [List.all_cons, Bool.and_eq_true] at h
    obtain ⟨a, b⟩ := flats_of r hx ys t l2 h.2
    refine ⟨by rw [List.all_cons, flat_of l1 h.1, a] <;> rfl, ?_⟩
    unfold inV at b ⊢
    rw [List.any_cons, List.any_cons, b, feq_of l1 r h.1 hx]
theorem shaped_list {ds : List PyData} (h : SeqAt.shaped (.tuple ds) = true) : SeqAt.shaped (.list ds) = true := h
theorem any_map {n : Nat} {G : PH} {d : PyData} (ys : List PV) : ((ys.map (datH G n)).any fun z => PyData.eqv z d) = ys.any fun y => PyData.eqv (datH G n y) d := by
  rw [List.any_map]; rfl
/-- in a list, a tuple -/
theorem in_seq {neg : Bool} {op : CmpOp} (hD : OpR X (compareOp op) (if neg = true then rNotInD X.K else rInD X.K)) (hF : OpR X (compareOp op) (rIn X.K neg)) (hDT : OpR X (compareOp op) (fun x y H Q => ∃ d ds, Dp X.K H x d ∧ Dp X.K H y (.tuple ds) ∧ SeqAt.shaped d = true ∧ SeqAt.shaped (.tuple ds) = true ∧ Q (.bl (if neg = true then !ds.any (fun z => PyData.eqv z d) else ds.any fun z => PyData.eqv z d)) H))
    {pins : List (Addr × Obj)} {s : Shared} {σ : St} {H : Hp} {x y : V} {v u : Value} {Q : VK} (I : Inv X pins σ H s) (rx : RelV x v) (ry : RelV y u) {S : Addr → Prop} {G : PH} {x' y' : PV} {ys : List PV} {Q' : VP} (a : At X.K X.w S G H) (r1 : RepV X.K X.w H x' x) (r2 : RepV X.K X.w H y' y)
    (hy : (∃ p vs, y = .ref p ∧ SqL X.K H p vs ∧ RepL X.K X.w H ys vs ∧ datH G 60 y' = .list (ys.map (datH G 59))) ∨ ∃ p vs, y = .ref p ∧ SqT X.K H p vs ∧ RepL X.K X.w H ys vs ∧ datH G 60 y' = .tuple (ys.map (datH G 59)))
    (q : pInS G x' y' ys fun b => Q' (.bl (if neg = true then !b else b)) G) (bk : Back X.K X.w S H Q' Q) : wpAny (model X.prog X.w) X.A (compareOp op v u) (EP X pins σ Q) X.xe s := by
  unfold pInS at q
  by_cases hs : (flatP x' && ys.all flatP) = true
  · rw [if_pos hs] at q
    rw [Bool.and_eq_true] at hs
    rcases hy with ⟨p, vs, rfl, h, l, _⟩ | ⟨p, vs, rfl, h, l, _⟩
    · obtain ⟨f1, f2⟩ := flats_of r1 hs.1 ys vs l hs.2
      exact hF pins s σ H _ _ v u Q I rx ry ⟨p, vs, rfl, .inl h, flat_of r1 hs.1, f1, by rw [f2]; cases neg <;> exact bk.same a rep_bl q⟩
    · obtain ⟨f1, f2⟩ := flats_of r1 hs.1 ys vs l hs.2
      exact hF pins s σ H _ _ v u Q I rx ry ⟨p, vs, rfl, .inr h, flat_of r1 hs.1, f1, by rw [f2]; cases neg <;> exact bk.same a rep_bl q⟩
  · rw [if_neg hs] at q
    obtain ⟨s1, s2, q⟩ := q
    have d2 := dp_sh a r2 s2
    rcases hy with ⟨p, vs, rfl, h, l, e⟩ | ⟨p, vs, rfl, h, l, e⟩
    · rw [e] at s2 d2
      refine hD pins s σ H _ _ v u Q I rx ry ?_
      cases neg
      · exact ⟨_, _, dp_sh a r1 s1, d2, s1, s2, by rw [any_map]; exact bk.same a rep_bl q⟩
      · exact ⟨_, _, dp_sh a r1 s1, d2, s1, s2, by rw [any_map]; exact bk.same a rep_bl q⟩
    · rw [e] at s2 d2
      exact hDT pins s σ H _ _ v u Q I rx ry ⟨_, _, dp_sh a r1 s1, d2, s1, s2, by rw [any_map]; cases neg <;> exact bk.same a rep_bl q⟩
theorem datH_tup {G : PH} {ys : List PV} : datH G 60 (.tup ys) = .tuple (ys.map (datH G 59)) := by rw [datH]
theorem datH_wl {G : PH} {ys : List PV} : datH G 60 (.wl ys) = .list (ys.map (datH G 59)) := by rw [datH]
theorem datH_ref {G : PH} {a : Addr} {ys : List PV} (e : G a = some (.lst ys)) : datH G 60 (.ref a) = .list (ys.map (datH G 59)) := by rw [datH, e]
theorem str_any : ∀ (ks : List Str) (vs : List V) (z : Str), ks.length = vs.length → ks.contains z = ((ks.zip vs).lookup z).isSome
  | [], [], _, _ => rfl
  | k :: ks, v :: vs, z, h => by
    rw [List.contains_cons, List.zip_cons_cons, List.lookup_cons]
    cases e : z == k with
    | true => simp
    | false => simpa using str_any ks vs z (by simpa using h)
theorem wd_has {K : PySem.W.Frag} {w : World} {d : Addr} {ks : List Str} {vs : List V} (h : WDt K w d ks vs) (z : Str) : ∃ r, PySem.W.nsIn K d z = some r ∧ r.isSome = ks.contains z := by
  obtain ⟨hl, _, h⟩ := h
  have := h z
  rw [str_any ks vs z hl]
  split at this
  · rename_i v e
    obtain ⟨u, e2, _⟩ := this
    exact ⟨_, e2, by rw [e] <;> rfl⟩
  · rename_i e
    exact ⟨_, this, by rw [e] <;> rfl⟩
section
variable {κ : Type} [DecidableEq κ] {K : PySem.W.Frag} {w : World} {H : Hp}
def RepD (K : PySem.W.Frag) (w : World) (H : Hp) (kvs : List (κ × PV)) (es : List (κ × V)) : Prop := Paired (fun (p : κ × PV) (q : κ × V) => p.1 = q.1 ∧ RepV K w H p.2 q.2) kvs es
theorem lk_dict {kvs : List (κ × PV)} {es : List (κ × V)} (r : RepD K w H kvs es) (k : κ) : (lkP kvs k = none ∧ valV es k = none) ∨ ∃ x v, lkP kvs k = some x ∧ valV es k = some v ∧ RepV K w H x v := by
  induction r with
  | nil => exact .inl ⟨rfl, rfl⟩
  | @cons p q ps qs h t ih =>
    obtain ⟨j, x⟩ := p
    obtain ⟨j2, v⟩ := q
    obtain ⟨e, rv⟩ := h
    simp only at e rv
    subst e
    unfold lkP
    by_cases ek : j = k
    · rw [if_pos ek, valV_pos (p := (j, v)) ek]; exact .inr ⟨x, v, rfl, rfl, rv⟩
    · rw [if_neg ek, valV_neg (p := (j, v)) ek]; exact ih
theorem any_dict {kvs : List (κ × PV)} {es : List (κ × V)} (r : RepD K w H kvs es) (k : κ) : (kvs.any fun kv => decide (kv.1 = k)) = es.any fun kv => decide (kv.1 = k) := by
  induction r with
  | nil => rfl
  | cons h t ih => rw [List.any_cons, List.any_cons, ih, h.1]
theorem pt_dict {kvs : List (κ × PV)} {es : List (κ × V)} (r : RepD K w H kvs es) (k : κ) {x : PV} {v : V} (rv : RepV K w H x v) : RepD K w H (ptP kvs k x) (putK es k v) := by
  unfold ptP putK
  rw [any_dict r k]
  split
  · have rr := r
    clear r
    revert rr
    intro r
    rename_i hh; clear hh
    induction r with
    | nil => exact .nil
    | @cons p q ps qs h t ih =>
      rw [List.map_cons, List.map_cons]
      refine .cons ?_ ih
      rw [h.1]
      split
      · rename_i e; exact ⟨rfl, rv⟩
      · exact h
  · exact Paired.snoc r ⟨rfl, rv⟩
theorem key_rep {y : PV} {k : Key} (e : keyP y = some k) {v : V} (r : RepV K w H y v) : v = kV k := by
  cases y <;> first | (cases e; exact r) | cases e
end
theorem isSome_dict {κ : Type} [DecidableEq κ] {K : PySem.W.Frag} {w : World} {H : Hp} {kvs : List (κ × PV)} {es : List (κ × V)} (r : RepD K w H kvs es) (k : κ) : (valV es k).isSome = (lkP kvs k).isSome := by
  rcases lk_dict r k with ⟨h1, h2⟩ | ⟨x, v, h1, h2, _⟩ <;> rw [h1, h2] <;> rfl
theorem opIn (hu : X.A.units + 65 < cLine) : OpR X (compareOp .In) (lowR X.K X.w (pCmp .In)) := by
  rintro pins s σ H x y v u Q I rx ry ⟨S, G, x', y', Q', a, r1, r2, q, bk⟩
  have q : pIn G x' y' (fun b => Q' (.bl b) G) := q
  have dt : OpR X (compareOp .In) (fun x y H Q => ∃ d ds, Dp X.K H x d ∧ Dp X.K H y (.tuple ds) ∧ SeqAt.shaped d = true ∧ SeqAt.shaped (.tuple ds) = true ∧ Q (.bl (if (false : Bool) = true then !ds.any (fun z => PyData.eqv z d) else ds.any fun z => PyData.eqv z d)) H) := by
    rintro pins s σ H x y v u Q I rx ry ⟨d, ds, hd, he, sd, se, q⟩
    obtain ⟨as, r1⟩ := Dp.reads I d x v hd rx
    obtain ⟨bs, r2⟩ := Dp.reads I (.tuple ds) y u he ry
    exact SeqAt.in_tuple_reads r2 r1 (SeqAt.canLay_of_shaped se) (SeqAt.canLay_of_shaped sd) (PyProof.Rows.room_in_shaped sd hu) ⟨.bl _, H, I, rfl, q⟩
  have go := fun {ys : List PV} hy (q : pInS G x' y' ys fun b => Q' (.bl b) G) => in_seq (X := X) (neg := false) (op := .In) (op_inD hu) op_in_seq dt I rx ry (ys := ys) a r1 r2 hy q bk
  unfold pIn at q
  split at q
  · obtain ⟨p, vs, rfl, t, l⟩ := r2
    exact go (.inr ⟨p, vs, rfl, t, l, datH_tup⟩) q
  · obtain ⟨p, vs, rfl, t, l⟩ := r2
    exact go (.inl ⟨p, vs, rfl, t.sq, l, datH_wl⟩) q
  · split at q
    · cases r1; cases r2
      exact op_in_str pins s σ H _ _ v u Q I rx ry ⟨_, _, rfl, rfl, bk.same a rep_bl q⟩
    · exact q.elim
  · obtain ⟨p, vs, rfl, t, l⟩ := r2
    obtain ⟨hl, q⟩ := q
    split at q
    · cases r1
      rename_i z _
      obtain ⟨r, e1, e2⟩ := wd_has t z
      obtain ⟨_, ⟨es, n, D⟩, _⟩ := t
      exact op_in_kd D pins s σ H _ _ v u Q I rx ry ⟨_, _, rfl, rfl, e1, by rw [e2]; exact bk.same a rep_bl q⟩
    · exact q.elim
  · cases r2
    split at q
    · rename_i e
      obtain ⟨vs, h, l⟩ := ref_lst a e
      exact go (.inl ⟨_, vs, rfl, SqL.of h, l, datH_ref e⟩) q
    · rename_i kvs e
      split at q <;> first | exact q.elim | skip
      rename_i k ek
      obtain ⟨es, h, l⟩ := a.ob _ _ e
      obtain rfl := key_rep ek r1
      obtain rfl := ry
      refine d_in (by omega) I (DGet.k (k := k) h) rx fun s3 I3 => ?_
      exact ⟨.bl ((valV es k).isSome), H, I3, rfl, by rw [isSome_dict l k]; exact bk.same a rep_bl q⟩
    · exact q.elim
  · exact q.elim
theorem opNotIn (hu : X.A.units + 65 < cLine) : OpR X (compareOp .NotIn) (lowR X.K X.w (pCmp .NotIn)) := by
  rintro pins s σ H x y v u Q I rx ry ⟨S, G, x', y', Q', a, r1, r2, q, bk⟩
  have q : pIn G x' y' (fun b => Q' (.bl (!b)) G) := q
  have dt : OpR X (compareOp .NotIn) (fun x y H Q => ∃ d ds, Dp X.K H x d ∧ Dp X.K H y (.tuple ds) ∧ SeqAt.shaped d = true ∧ SeqAt.shaped (.tuple ds) = true ∧ Q (.bl (if (true : Bool) = true then !ds.any (fun z => PyData.eqv z d) else ds.any fun z => PyData.eqv z d)) H) := by
    rintro pins s σ H x y v u Q I rx ry ⟨d, ds, hd, he, sd, se, q⟩
    obtain ⟨as, r1⟩ := Dp.reads I d x v hd rx
    obtain ⟨bs, r2⟩ := Dp.reads I (.tuple ds) y u he ry
    exact SeqAt.notIn_tuple_reads r2 r1 (SeqAt.canLay_of_shaped se) (SeqAt.canLay_of_shaped sd) (PyProof.Rows.room_in_shaped sd hu) ⟨.bl _, H, I, rfl, q⟩
  have go := fun {ys : List PV} hy (q : pInS G x' y' ys fun b => Q' (.bl (!b)) G) => in_seq (X := X) (neg := true) (op := .NotIn) (op_notInD hu) op_notIn_seq dt I rx ry (ys := ys) a r1 r2 hy q bk
  unfold pIn at q
  split at q
  · obtain ⟨p, vs, rfl, t, l⟩ := r2
    exact go (.inr ⟨p, vs, rfl, t, l, datH_tup⟩) q
  · obtain ⟨p, vs, rfl, t, l⟩ := r2
    exact go (.inl ⟨p, vs, rfl, t.sq, l, datH_wl⟩) q
  · split at q
    · cases r1; cases r2
      exact op_notin_str pins s σ H _ _ v u Q I rx ry ⟨_, _, rfl, rfl, bk.same a rep_bl q⟩
    · exact q.elim
  · obtain ⟨p, vs, rfl, t, l⟩ := r2
    obtain ⟨hl, q⟩ := q
    split at q
    · cases r1
      rename_i z _
      obtain ⟨r, e1, e2⟩ := wd_has t z
      obtain ⟨_, ⟨es, n, D⟩, _⟩ := t
      exact op_notIn_kd D pins s σ H _ _ v u Q I rx ry ⟨_, _, rfl, rfl, e1, by rw [e2]; exact bk.same a rep_bl q⟩
    · exact q.elim
  · cases r2
    split at q
    · rename_i e
      obtain ⟨vs, h, l⟩ := ref_lst a e
      exact go (.inl ⟨_, vs, rfl, SqL.of h, l, datH_ref e⟩) q
    · rename_i kvs e
      split at q <;> first | exact q.elim | skip
      rename_i k ek
      obtain ⟨es, h, l⟩ := a.ob _ _ e
      obtain rfl := key_rep ek r1
      obtain rfl := ry
      refine d_notIn (by omega) I (DGet.k (k := k) h) rx fun s3 I3 => ?_
      exact ⟨.bl (!(valV es k).isSome), H, I3, rfl, by rw [isSome_dict l k]; exact bk.same a rep_bl q⟩
    · exact q.elim
  · exact q.elim

/-- every comparison -/
theorem opCmp (hu : X.A.units + 65 < cLine) : ∀ op : CmpOp, OpR X (compareOp op) (lowR X.K X.w (pCmp op))
  | .Eq => opEq hu
  | .NotEq => opNe hu
  | .Lt => opOrd (f := fun i j => decide (i < j)) (g := fun a b => decide (a < b)) (fun _ _ _ _ => rfl) op_lt op_lt_str
  | .LtE => opOrd (f := fun i j => decide (i ≤ j)) (g := fun a b => !decide (b < a)) (fun _ _ _ _ => rfl) op_le op_le_str
  | .Gt => opOrd (f := fun i j => decide (j < i)) (g := fun a b => decide (b < a)) (fun _ _ _ _ => rfl) op_gt op_gt_str
  | .GtE => opOrd (f := fun i j => decide (j ≤ i)) (g := fun a b => !decide (a < b)) (fun _ _ _ _ => rfl) op_ge op_ge_str
  | .Is => opIs
  | .IsNot => opIsNot
  | .In => opIn hu
  | .NotIn => opNotIn hu
theorem at_rep {K : PySem.W.Frag} {w : World} {H : Hp} {xs : List PV} {vs : List V} (l : RepL K w H xs vs) {i : Int} {x : PV} (e : atI xs i = some x) : ∃ v, atI vs i = some v ∧ RepV K w H x v := by
  unfold atI at e ⊢
  rw [← l.length]
  cases h : ixN xs.length i with
  | none => rw [h] at e; cases e
  | some j =>
    rw [h] at e
    exact l.get (by simpa using e)
def rIxW (X : Cx) : R2 := fun x y H Q => ∃ (d : Addr) (ks : List Str) (vs : List V) (z : Str) (v : V), x = .ref d ∧ WDt X.K X.w d ks vs ∧ y = .str z ∧ (ks.zip vs).lookup z = some v ∧ Q v H
theorem ix_wd : IxR X (rIxW X) := by
  intro value slice pins s σ H x y v u Q I rx ry h hs
  obtain ⟨d, ks, vs, z, v0, rfl, ⟨_, ⟨es, n, D⟩, hz⟩, rfl, hl, q⟩ := h
  have e := hz z
  rw [hl] at e
  obtain ⟨u0, e1, rv⟩ := e
  exact ix_kdict value slice pins s σ H _ _ v u Q I rx ry ⟨d, z, v0, rfl, rfl, ⟨es, n, u0, D.at_, D.lit, e1, rv⟩, q⟩ hs
theorem lk_rep {K : PySem.W.Frag} {w : World} {H : Hp} {z : Str} {x : PV} : ∀ {ks : List Str} {xs : List PV} {vs : List V}, RepL K w H xs vs → (ks.zip xs).lookup z = some x → ∃ v, (ks.zip vs).lookup z = some v ∧ RepV K w H x v
  | [], _, _, _, e => by simp at e
  | k :: ks, [], _, l, e => by simp at e
  | k :: ks, y :: xs, _, ⟨v, r, rfl, a, b⟩, e => by
    rw [List.zip_cons_cons, List.lookup_cons] at e ⊢
    cases h : z == k with
    | true => rw [h] at e; cases e; exact ⟨v, rfl, a⟩
    | false => rw [h] at e; exact lk_rep b e
def rIxDk (X : Cx) : R2 := fun x y H Q => ∃ (a : Addr) (v : V), x = .ref a ∧ DGet H a y (some v) ∧ Q v H
theorem ix_dct (hu : X.A.units + 1 < cLine) : IxR X (rIxDk X) := by
  intro value slice pins s σ H x y v u Q I rx ry h hs
  obtain ⟨a, v0, rfl, g, q⟩ := h
  obtain rfl : v = Value.ref a := rx
  exact PyProof.Rows.tail_any (dict_typeIs I g) PySem.F.slot_dict_getitem.lookup (d_getItem hu I g ry fun w' s3 I3 rw' => ⟨v0, H, I3, rw', q⟩) hs
theorem ixP (hu : X.A.units + 1 < cLine) : IxR X (lowR X.K X.w pIdx) := by
  rintro value slice pins s σ H x y v u Q I rx ry ⟨S, G, x', y', Q', a, r1, r2, q, bk⟩ hs
  unfold pIdx at q
  split at q
  · obtain ⟨p, vs, rfl, t, l⟩ := r1
    split at q
    · cases r2
      split at q
      · rename_i e
        obtain ⟨v0, e1, rv⟩ := at_rep l e
        exact ix_tup value slice pins s σ H _ _ v u Q I rx ry ⟨p, vs, _, v0, rfl, rfl, t, e1, bk.same a rv q⟩ hs
      · exact q.elim
    · exact q.elim
  · obtain ⟨p, vs, rfl, t, l⟩ := r1
    split at q
    · cases r2
      split at q
      · rename_i e
        obtain ⟨v0, e1, rv⟩ := at_rep l e
        exact ix_list value slice pins s σ H _ _ v u Q I rx ry ⟨p, vs, _, v0, rfl, rfl, t.sq, e1, bk.same a rv q⟩ hs
      · exact q.elim
    · exact q.elim
  · cases r1
    split at q
    · cases r2
      obtain ⟨hz, q⟩ := q
      split at q
      · rename_i e
        exact ix_str value slice pins s σ H _ _ v u Q I rx ry ⟨_, _, _, rfl, rfl, hz, e, bk.same a rep_str q⟩ hs
      · exact q.elim
    · exact q.elim
  · obtain ⟨p, vs, rfl, t, l⟩ := r1
    obtain ⟨hl, q⟩ := q
    split at q
    · cases r2
      split at q
      · rename_i e
        obtain ⟨v0, e1, rv⟩ := lk_rep l e
        exact ix_wd value slice pins s σ H _ _ v u Q I rx ry ⟨p, _, vs, _, v0, rfl, t, rfl, e1, bk.same a rv q⟩ hs
      · exact q.elim
    · exact q.elim
  · cases r1
    split at q
    · rename_i e0
      obtain ⟨vs, h, l⟩ := ref_lst a e0
      split at q
      · cases r2
        split at q
        · rename_i e
          obtain ⟨v0, e1, rv⟩ := at_rep l e
          exact ix_list value slice pins s σ H _ _ v u Q I rx ry ⟨_, vs, _, v0, rfl, rfl, SqL.of h, e1, bk.same a rv q⟩ hs
        · exact q.elim
      · exact q.elim
    · rename_i kvs e0
      split at q <;> first | exact q.elim | skip
      rename_i k ek
      split at q <;> first | exact q.elim | skip
      rename_i x2 e2
      obtain ⟨es, h, l⟩ := a.ob _ _ e0
      obtain rfl := key_rep ek r2
      rcases lk_dict l k with ⟨h1, _⟩ | ⟨x3, v3, h1, h2, rv⟩
      · rw [h1] at e2; cases e2
      · rw [h1] at e2; cases e2
        exact ix_dct hu value slice pins s σ H _ _ v u Q I rx ry ⟨_, v3, rfl, by rw [← h2]; exact DGet.k h, bk.same a rv q⟩ hs
    · exact q.elim
  · exact q.elim
def lowSl (K : PySem.W.Frag) (w : World) : V → Option Int → Option Int → Hp → VK → Prop := fun x lo hi H Q => ∃ S G x' Q', At K w S G H ∧ RepV K w H x' x ∧ pSl x' lo hi G Q' ∧ Back K w S H Q' Q
theorem cut_rep {K : PySem.W.Frag} {w : World} {H : Hp} {xs : List PV} {vs : List V} (l : RepL K w H xs vs) (lo hi : Option Int) :
    RepL K w H ((xs.drop (HT.sIx xs.length 0 lo)).take (HT.sIx xs.length xs.length hi - HT.sIx xs.length 0 lo)) (cutV vs lo hi) := by
  unfold cutV
  rw [l.length]
  exact (l.drop _).take _
theorem slP : SlR X (lowSl X.K X.w) := by
  rintro pins s σ H x v vl vu lo hi sl Q I rx hs pl pu ⟨S, G, x', Q', a, r1, q, bk⟩
  unfold pSl at q
  split at q
  · obtain ⟨p, vs, rfl, t, l⟩ := r1
    refine sl_tupA pins s σ H _ v vl vu lo hi sl Q I rx hs pl pu ⟨p, vs, rfl, t, fun hw => ?_, fun _ => bk.newT a (cut_rep l lo hi) q⟩
    refine bk.same a (rep_tup t l) ?_
    rw [← l.length] at hw
    rw [hw.1, hw.2] at q
    simpa using q
  · cases r1
    exact sl_str pins s σ H _ v vl vu lo hi sl Q I rx hs pl pu ⟨_, rfl, q.1, bk.same a rep_str q.2⟩
  · cases r1
    split at q
    · rename_i e
      obtain ⟨vs, h, l⟩ := ref_lst a e
      exact sl_list pins s σ H _ v vl vu lo hi sl Q I rx hs pl pu ⟨_, vs, rfl, SqL.of h, bk.newL a (cut_rep l lo hi) q⟩
    · exact q.elim
  · exact q.elim
theorem empty_rep {K : PySem.W.Frag} {w : World} {H : Hp} {xs : List PV} {vs : List V} (l : RepL K w H xs vs) : xs.isEmpty = vs.isEmpty := by
  cases xs with
  | nil => cases l; rfl
  | cons x xs => obtain ⟨v, r, rfl, _⟩ := l; rfl
/-- truth, by values -/
theorem truP {S : Addr → Prop} {G : PH} {H : Hp} {x' : PV} {x : V} {Q : Bool → Prop} (a : At X.K X.w S G H) (r : RepV X.K X.w H x' x) (q : pTru x' G Q) : ∃ k, TruV X.K x H k ∧ Q k := by
  unfold pTru at q
  split at q
  · cases r; exact ⟨_, rfl, q⟩
  · cases r; exact ⟨_, rfl, q⟩
  · cases r; exact ⟨_, rfl, q⟩
  · cases r
    refine ⟨_, ⟨q.1, rfl⟩, ?_⟩
    have e : ∀ n : Nat, ((n : Int) != 0) = (n != 0) := fun n => by cases n with | zero => rfl | succ m => (simp only [bne]; rw [show ((((m + 1 : Nat) : Int) == 0) = false) from by rw [beq_eq_false_iff_ne]; omega, show ((m + 1 == 0) = false) from rfl])
    rw [e]; exact q.2
  · obtain ⟨p, vs, rfl, t, l⟩ := r
    exact ⟨_, .inr (.inl ⟨vs, t, rfl⟩), by rw [← empty_rep l]; exact q⟩
  · obtain ⟨p, vs, rfl, t, l⟩ := r
    exact ⟨_, .inl ⟨vs, t.sq, rfl⟩, by rw [← empty_rep l]; exact q⟩
  · cases r
    split at q
    · rename_i e
      obtain ⟨vs, h, l⟩ := ref_lst a e
      exact ⟨_, .inl ⟨vs, SqL.of h, rfl⟩, by rw [← empty_rep l]; exact q⟩
    · rename_i kvs e
      obtain ⟨es, h, l⟩ := a.ob _ _ e
      exact ⟨!es.isEmpty, .inr (.inr ⟨es, h, rfl⟩), by have : es.isEmpty = kvs.isEmpty := (by cases l <;> rfl); rw [this]; exact q⟩
    · exact q.elim
  · exact q.elim
end
end Fv

set_option Elab.async false
set_option linter.all false
set_option maxRecDepth 100000
set_option maxHeartbeats 1000000
namespace Fv
open PySem L2
/-- what a built-in's name stands for -/
def Bn.val : Bn → Value
  | .len => .builtin "len" | .abs => .builtin "abs" | .max => .builtin "max" | .min => .builtin "min" | .repr => .builtin "repr" | .all => .builtin "all" | .any => .builtin "any"
  | .toi => .type "int" | .srt => .builtin "sorted"
  | .str => .type "str" | .tuple => .type "tuple" | .list => .type "list"
theorem Bn.boot (b : Bn) : bootBuiltins b.name = some b.val := by cases b <;> decide +kernel
theorem noDict_of_canLay : ∀ d : PyData, d.canLay0 = true → d.hasDict = false := fun d h => by
  have : (∀ d : PyData, d.canLay0 = true → d.hasDict = false) ∧ ∀ ds : List PyData, PyData.canLayAll0 ds = true → PyData.hasDictAll ds = false := by
    refine ⟨fun d h => nd d h, fun ds h => nds ds h⟩
  exact this.1 d h
where
  nd : ∀ d : PyData, d.canLay0 = true → d.hasDict = false
    | .none, _ => rfl
    | .bool _, _ => rfl
    | .int _, _ => rfl
    | .str _, _ => rfl
    | .list xs, h => by simp only [PyData.hasDict]; exact nds xs (by simpa [PyData.canLay0] using h)
    | .tuple xs, h => by simp only [PyData.hasDict]; exact nds xs (by simpa [PyData.canLay0] using h)
    | .dict _, h => by simp [PyData.canLay0] at h
  nds : ∀ ds : List PyData, PyData.canLayAll0 ds = true → PyData.hasDictAll ds = false
    | [], _ => rfl
    | d :: ds, h => by
      have h' : d.canLay0 = true ∧ PyData.canLayAll0 ds = true := by simpa [PyData.canLayAll0] using h
      simp [PyData.hasDictAll, nd d h'.1, nds ds h'.2]
section
variable {X : Cx}
theorem one_of {K : PySem.W.Frag} {w : World} {H : Hp} {x : PV} {vs : List V} {us : List Value} (l : RepL K w H [x] vs) (r : Vals vs us) : ∃ v u, vs = [v] ∧ us = [u] ∧ RepV K w H x v ∧ RelV v u := by
  obtain ⟨v, t, rfl, a, b⟩ := l
  cases b
  obtain ⟨u, rfl, ru⟩ := vals1 r
  exact ⟨v, u, rfl, rfl, a, ru⟩
theorem bnLen : CallR X Bn.len.val (lowC X.K X.w (pBn .len)) := by
  rintro pins s σ H xs us Q I r ⟨S, G, xs', Q', a, l, q, bk⟩
  have q : bLen xs' G Q' := q
  unfold bLen at q
  split at q
  · rename_i x0 _
    obtain ⟨v, u, rfl, rfl, r1, ru⟩ := one_of l r
    split at q
    · rename_i n e
      by_cases isd : ∃ p kvs, x0 = .ref p ∧ G p = some (.dict kvs)
      · obtain ⟨p, kvs, rfl, e0⟩ := isd
        cases r1
        obtain rfl : u = Value.ref p := ru
        obtain ⟨es, h, l1⟩ := a.ob _ _ e0
        simp only [pLen, e0, Option.some.injEq] at e
        subst e
        exact d_len I (.inl h) fun t s' I' => ⟨.int es.length, H, I', ⟨t, rfl⟩, by rw [← Paired.length l1]; exact bk.same a rep_int q⟩
      refine call_len pins s σ H _ _ Q I r ⟨v, n, rfl, ?_, bk.same a rep_int q⟩
      unfold pLen at e
      split at e
      · obtain ⟨p, vs, rfl, t, l1⟩ := r1
        cases e
        exact .inr ⟨vs, t, l1.length⟩
      · obtain ⟨p, vs, rfl, t, l1⟩ := r1
        cases e
        exact .inl ⟨vs, t.sq, l1.length⟩
      · cases r1
        split at e
        · rename_i hz; cases e; exact ⟨hz, rfl⟩
        · cases e
      · cases r1
        split at e
        · rename_i e2
          cases e
          obtain ⟨vs, h, l1⟩ := ref_lst a e2
          exact .inl ⟨vs, SqL.of h, l1.length⟩
        · rename_i kvs e2
          exact (isd ⟨_, kvs, rfl, e2⟩).elim
        · cases e
      · cases e
    · exact q.elim
  · exact q.elim
theorem bnAbs : CallR X Bn.abs.val (lowC X.K X.w (pBn .abs)) := by
  rintro pins s σ H xs us Q I r ⟨S, G, xs', Q', a, l, q, bk⟩
  have q : bAbs xs' G Q' := q
  unfold bAbs at q
  split at q
  · obtain ⟨v, u, rfl, rfl, r1, ru⟩ := one_of l r
    cases r1
    exact call_abs pins s σ H _ _ Q I r ⟨_, rfl, bk.same a rep_int q⟩
  · exact q.elim
theorem two_int {K : PySem.W.Frag} {w : World} {H : Hp} {i j : Int} {vs : List V} (l : RepL K w H [.int i, .int j] vs) : vs = [.int i, .int j] := by
  obtain ⟨v, t, rfl, a, v2, t2, rfl, a2, b⟩ := l
  cases a; cases a2; cases b; rfl
theorem bnMax (hc : X.calm = true) : CallR X Bn.max.val (lowC X.K X.w (pBn .max)) := by
  rintro pins s σ H xs us Q I r ⟨S, G, xs', Q', a, l, q, bk⟩
  have q : bMax xs' G Q' := q
  unfold bMax at q
  split at q
  · have := two_int l
    subst this
    exact call_max2 hc pins s σ H _ _ Q I r ⟨_, _, rfl, bk.same a rep_int q⟩
  · exact q.elim
theorem bnMin (hc : X.calm = true) : CallR X Bn.min.val (lowC X.K X.w (pBn .min)) := by
  rintro pins s σ H xs us Q I r ⟨S, G, xs', Q', a, l, q, bk⟩
  have q : bMin xs' G Q' := q
  unfold bMin at q
  split at q
  · have := two_int l
    subst this
    exact call_min2 hc pins s σ H _ _ Q I r ⟨_, _, rfl, bk.same a rep_int q⟩
  · exact q.elim
theorem bnStr : CallR X Bn.str.val (lowC X.K X.w (pBn .str)) := by
  rintro pins s σ H xs us Q I r ⟨S, G, xs', Q', a, l, q, bk⟩
  have q : bStr xs' G Q' := q
  unfold bStr at q
  split at q
  · obtain ⟨v, u, rfl, rfl, r1, ru⟩ := one_of l r
    cases r1
    exact call_str_int pins s σ H _ _ Q I r ⟨_, rfl, q.1, bk.same a rep_str q.2⟩
  · obtain ⟨v, u, rfl, rfl, r1, ru⟩ := one_of l r
    cases r1
    exact SkE.call_str_str pins s σ H _ _ Q I r ⟨_, rfl, bk.same a rep_str q⟩
  · exact q.elim
theorem bnRepr (hg : X.A.guards = some []) (hu : X.A.units + 200 < cLine) : CallR X Bn.repr.val (lowC X.K X.w (pBn .repr)) := by
  rintro pins s σ H xs us Q I r ⟨S, G, xs', Q', a, l, q, bk⟩
  have q : bRepr xs' G Q' := q
  unfold bRepr at q
  split at q
  · rename_i x _
    obtain ⟨v, u, rfl, rfl, r1, ru⟩ := one_of l r
    obtain ⟨s1, s2, s3, q⟩ := q
    have d := dp_sh a r1 s1
    have dp := SeqAt.depth_of_shaped s1
    have nd := noDict_of_canLay _ (SeqAt.canLay_of_shaped s1)
    have q0 : Q (.str (datH G 60 x).shown) H := bk.same a rep_str q
    obtain ⟨as, rd⟩ := Dp.reads I _ _ _ d ru
    clear q
    revert rd q0 s3 s2 s1 dp nd d
    generalize datH G 60 x = dd
    intro s1 s2 s3 d dp nd q0 rd
    cases rd with
    | none => exact PySem.P.repr_of_none ⟨.str _, H, I.tok _, ⟨_, rfl⟩, by simpa [PyData.shown] using q0⟩
    | bool b => exact PySem.P.repr_of_bool ⟨.str _, H, I.tok _, ⟨_, rfl⟩, by simpa [PyData.shown] using q0⟩
    | int i t => exact PySem.P.repr_of_int (by simpa [PyData.showable] using s2) ⟨.str _, H, I.tok _, ⟨_, rfl⟩, by simpa [PyData.shown] using q0⟩
    | str z t => exact PySem.P.repr_of_str ⟨.str _, H, I.tok _, ⟨_, rfl⟩, by simpa [PyData.shown] using q0⟩ (by simpa [PyData.shown] using s3)
    | list ho hc hd hr => exact PySem.repr_of_reads' (Reads.list ho hc hd hr) s2 (PyData.noDict_hsm nd) hg (by omega) (fun _ _ e => e) (fun h' u tk hk => ⟨.str _, H, I.kept hk, ⟨_, rfl⟩, q0⟩) s3
    | tuple ho hc hd hr => exact PySem.repr_of_reads' (Reads.tuple ho hc hd hr) s2 (PyData.noDict_hsm nd) hg (by omega) (fun _ _ e => e) (fun h' u tk hk => ⟨.str _, H, I.kept hk, ⟨_, rfl⟩, q0⟩) s3
    | dict => simp [PyData.hasDict] at nd
  · exact q.elim
theorem bnTuple : CallR X Bn.tuple.val (lowC X.K X.w (pBn .tuple)) := by
  rintro pins s σ H xs us Q I r ⟨S, G, xs', Q', a, l, q, bk⟩
  have q : bTuple xs' G Q' := q
  unfold bTuple at q
  split at q
  · obtain ⟨v, u, rfl, rfl, r1, ru⟩ := one_of l r
    obtain ⟨p, vs, rfl, t, l1⟩ := r1
    exact call_tuple_of pins s σ H _ _ Q I r ⟨p, vs, rfl, .inr ⟨t, bk.same a (rep_tup t l1) q⟩⟩
  · obtain ⟨v, u, rfl, rfl, r1, ru⟩ := one_of l r
    cases r1
    split at q
    · rename_i e
      obtain ⟨vs, h, l1⟩ := ref_lst a e
      exact call_tuple_of pins s σ H _ _ Q I r ⟨_, vs, rfl, .inl ⟨SqL.of h, bk.newT a l1 q⟩⟩
    · exact q.elim
  · exact q.elim
theorem bnList : CallR X Bn.list.val (lowC X.K X.w (pBn .list)) := by
  rintro pins s σ H xs us Q I r ⟨S, G, xs', Q', a, l, q, bk⟩
  have q : bList xs' G Q' := q
  unfold bList at q
  split at q
  · obtain ⟨v, u, rfl, rfl, r1, ru⟩ := one_of l r
    obtain ⟨p, vs, rfl, t, l1⟩ := r1
    exact call_list_of pins s σ H _ _ Q I r ⟨p, vs, rfl, .inr t, bk.newL a l1 q⟩
  · obtain ⟨v, u, rfl, rfl, r1, ru⟩ := one_of l r
    cases r1
    split at q
    · rename_i e
      obtain ⟨vs, h, l1⟩ := ref_lst a e
      exact call_list_of pins s σ H _ _ Q I r ⟨_, vs, rfl, .inl (SqL.of h), bk.newL a l1 q⟩
    · exact q.elim
  · exact q.elim
theorem allB_rep {K : PySem.W.Frag} {w : World} {H : Hp} : ∀ {ys : List PV} {vs : List V} {bs : List Bool}, RepL K w H ys vs → allB ys = some bs → vs = bs.map V.bl
  | [], _, _, l, e => by cases l; cases e; rfl
  | y :: ys, _, bs, ⟨v, t, rfl, a, b⟩, e => by
    cases y <;> first | (unfold allB at e; cases e; done) | skip
    unfold allB at e
    cases a
    cases h : allB ys with
    | none => rw [h] at e; cases e
    | some bs' => rw [h] at e; cases e; rw [allB_rep b h]; rfl
theorem bnAll (hc : X.calm = true) : CallR X Bn.all.val (lowC X.K X.w (pBn .all)) := by
  rintro pins s σ H xs us Q I r ⟨S, G, xs', Q', a, l, q, bk⟩
  have q : bAll xs' G Q' := q
  unfold bAll at q
  split at q
  · obtain ⟨v, u, rfl, rfl, r1, ru⟩ := one_of l r
    cases r1
    split at q
    · rename_i e
      obtain ⟨vs, h, l1⟩ := ref_lst a e
      split at q
      · rename_i e2
        exact cr_all hc pins s σ H _ _ Q I r ⟨_, _, rfl, by rw [← allB_rep l1 e2]; exact SqL.of h, bk.same a rep_bl q⟩
      · exact q.elim
    · exact q.elim
  · exact q.elim
theorem bnAny (hc : X.calm = true) : CallR X Bn.any.val (lowC X.K X.w (pBn .any)) := by
  rintro pins s σ H xs us Q I r ⟨S, G, xs', Q', a, l, q, bk⟩
  have q : bAny xs' G Q' := q
  unfold bAny at q
  split at q
  · obtain ⟨v, u, rfl, rfl, r1, ru⟩ := one_of l r
    cases r1
    split at q
    · rename_i e
      obtain ⟨vs, h, l1⟩ := ref_lst a e
      split at q
      · rename_i e2
        exact cr_any hc pins s σ H _ _ Q I r ⟨_, _, rfl, by rw [← allB_rep l1 e2]; exact SqL.of h, bk.same a rep_bl q⟩
      · exact q.elim
    · exact q.elim
  · exact q.elim
theorem bnToi : CallR X Bn.toi.val (lowC X.K X.w (pBn .toi)) := by
  rintro pins s σ H xs us Q I r ⟨S, G, xs', Q', a, l, q, bk⟩
  have q : bToi xs' G Q' := q
  unfold bToi at q
  split at q
  · obtain ⟨v, u, rfl, rfl, r1, ru⟩ := one_of l r
    cases r1
    obtain ⟨q1, q2⟩ := q
    split at q2
    · rename_i n e
      exact call_int_str pins s σ H _ _ Q I r ⟨_, n, rfl, e, q1, bk.same a rep_int q2⟩
    · exact q2.elim
  · exact q.elim
theorem strsQ_rep {K : PySem.W.Frag} {w : World} {H : Hp} : ∀ {ys : List PV} {vs : List V} {zs : List Str}, RepL K w H ys vs → strsQ ys = some zs → vs = zs.map V.str
  | [], _, _, l, e => by cases l; cases e; rfl
  | y :: ys, _, zs, ⟨v, t, rfl, a, b⟩, e => by
    cases y <;> first | (unfold strsQ at e; cases e; done) | skip
    unfold strsQ at e
    cases a
    cases h : strsQ ys with
    | none => rw [h] at e; cases e
    | some zs' => rw [h] at e; cases e; rw [strsQ_rep b h]; rfl
theorem strsQ_back {K : PySem.W.Frag} {w : World} {H : Hp} : ∀ zs : List Str, RepL K w H (zs.map PV.str) (zs.map V.str)
  | [] => rfl
  | z :: zs => ⟨_, _, rfl, rfl, strsQ_back zs⟩
theorem bnSrt : CallR X Bn.srt.val (lowC X.K X.w (pBn .srt)) := by
  rintro pins s σ H xs us Q I r ⟨S, G, xs', Q', a, l, q, bk⟩
  have q : bSrt xs' G Q' := q
  unfold bSrt at q
  split at q
  · obtain ⟨v, u, rfl, rfl, r1, ru⟩ := one_of l r
    cases r1
    split at q
    · rename_i e
      obtain ⟨vs, h, l1⟩ := ref_lst a e
      split at q
      · rename_i zs e2
        exact cr_sortedS pins s σ H _ _ Q I r ⟨_, zs, rfl, by rw [← strsQ_rep l1 e2]; exact SqL.of h, q.1, fun ws p hp hs hn => bk.newL a (strsQ_back ws) (q.2 ws hp hs) p hn⟩
      · exact q.elim
    · exact q.elim
  · exact q.elim
theorem bnAnyOf (hc : X.calm = true) (hg : X.A.guards = some []) (hu : X.A.units + 200 < cLine) : ∀ b : Bn, CallR X b.val (lowC X.K X.w (pBn b))
  | .len => bnLen
  | .abs => bnAbs
  | .max => bnMax hc
  | .min => bnMin hc
  | .str => bnStr
  | .repr => bnRepr hg hu
  | .tuple => bnTuple
  | .list => bnList
  | .all => bnAll hc
  | .any => bnAny hc
  | .toi => bnToi
  | .srt => bnSrt
end
end Fv

set_option Elab.async false
set_option linter.all false
set_option maxRecDepth 100000
set_option maxHeartbeats 1000000
namespace Fv
open PySem L2
theorem pEq_mono {G : PH} {x y : PV} {P P' : Bool → Prop} (h : pEq G x y P) (k : ∀ b, P b → P' b) : pEq G x y P' := by
  unfold pEq at h ⊢
  split at h
  · rename_i e; rw [if_pos e]; exact k _ h
  · rename_i e; rw [if_neg e]; exact ⟨h.1, h.2.1, k _ h.2.2⟩
theorem pInS_mono {G : PH} {x c : PV} {ys : List PV} {P P' : Bool → Prop} (h : pInS G x c ys P) (k : ∀ b, P b → P' b) : pInS G x c ys P' := by
  unfold pInS at h ⊢
  split at h
  · rename_i e; rw [if_pos e]; exact k _ h
  · rename_i e; rw [if_neg e]; exact ⟨h.1, h.2.1, k _ h.2.2⟩
theorem pIn_mono {G : PH} {x c : PV} {P P' : Bool → Prop} (h : pIn G x c P) (k : ∀ b, P b → P' b) : pIn G x c P' := by
  cases c <;> first | exact pInS_mono h k | exact (show False from h).elim | skip
  · cases x <;> first | exact k _ h | exact (show False from h).elim
  · rename_i a
    unfold pIn at h ⊢
    dsimp only at h ⊢
    split at h
    · exact pInS_mono h k
    · split at h
      · exact k _ h
      · exact h.elim
    · exact h.elim
  · refine ⟨h.1, ?_⟩
    have h2 := h.2
    cases x <;> first | exact k _ h2 | exact (show False from h2).elim
theorem pLt_mono {f : Int → Int → Bool} {g : List Nat → List Nat → Bool} {x y : PV} {P P' : Bool → Prop} (h : pLt f g x y P) (k : ∀ b, P b → P' b) : pLt f g x y P' := by
  unfold pLt at h ⊢
  split at h
  · exact k _ h
  · exact k _ h
  · exact h.elim
theorem pIs_mono {x y : PV} {f : PV → Bool} {g : Bool → Bool → Bool} {P P' : Bool → Prop} (h : pIsN f g x y P) (k : ∀ b, P b → P' b) : pIsN f g x y P' := by
  unfold pIsN at h ⊢
  split at h
  · exact k _ h
  · split at h
    · exact k _ h
    · exact h.elim
  · exact h.elim
theorem pCmpB_mono : ∀ {op : CmpOp} {G : PH} {x y : PV} {P P' : Bool → Prop} (h : pCmpB op G x y P) (k : ∀ b, P b → P' b), pCmpB op G x y P'
  | .Eq, G, x, y, P, P', h, k => pEq_mono (P' := P') h k
  | .NotEq, G, x, y, P, P', h, k => pEq_mono (P := fun b => P (!b)) (P' := fun b => P' (!b)) h fun b q => k _ q
  | .In, G, x, y, P, P', h, k => pIn_mono (P' := P') h k
  | .NotIn, G, x, y, P, P', h, k => pIn_mono (P := fun b => P (!b)) (P' := fun b => P' (!b)) h fun b q => k _ q
  | .Lt, G, x, y, P, P', h, k => pLt_mono (f := fun i j => decide (i < j)) (g := fun a b => decide (a < b)) (P := P) (P' := P') h k
  | .LtE, G, x, y, P, P', h, k => pLt_mono (f := fun i j => decide (i ≤ j)) (g := fun a b => !decide (b < a)) (P := P) (P' := P') h k
  | .Gt, G, x, y, P, P', h, k => pLt_mono (f := fun i j => decide (j < i)) (g := fun a b => decide (b < a)) (P := P) (P' := P') h k
  | .GtE, G, x, y, P, P', h, k => pLt_mono (f := fun i j => decide (j ≤ i)) (g := fun a b => !decide (a < b)) (P := P) (P' := P') h k
  | .Is, G, x, y, P, P', h, k => pIs_mono (f := isNon) (g := fun b c => b == c) (P := P) (P' := P') h k
  | .IsNot, G, x, y, P, P', h, k => pIs_mono (f := fun x => !isNon x) (g := fun b c => b != c) (P := P) (P' := P') h k
theorem pTru_mono {x : PV} {G : PH} {P P' : Bool → Prop} (h : pTru x G P) (k : ∀ b, P b → P' b) : pTru x G P' := by
  cases x <;> first | exact k _ h | exact ⟨h.1, k _ h.2⟩ | exact (show False from h).elim | skip
  rename_i a
  unfold pTru at h ⊢
  dsimp only at h ⊢
  split at h
  · exact k _ h
  · exact k _ h
  · exact h.elim

section
variable {X : Cx} {W : WX} {a b c e : Expr} {pos : Pos} {ta tb tc : TPE}
theorem plain_ix : ∀ b : Expr, (match b with | .Slice .. => false | _ => true) = true → PlainIx b := fun b h => by
  cases b <;> first | (intro _ _; rfl) | cases h
theorem plain_test : ∀ e : Expr, (match e with | .UnaryOp .. => false | .BoolOp .. => false | .IfExp .. => false | .Compare .. => false | _ => true) = true → ∀ env whole, isTrue e env whole = (do let v ← whole; standAt e.pos; holding [v] (truthy v)) := fun e h env whole => by
  cases e <;> first | rfl | cases h
theorem no_star : ∀ (e : Expr) (es : List Expr) (env : Env), (match e with | .Starred .. => false | _ => true) = true → starEach (e :: es) env = (false, eval e env) :: starEach es env := fun e es env h => by
  cases e <;> first | rfl | cases h
theorem pe_idxP (hu : X.A.units + 1 < cLine) (ha : PE X a (low X.K X.w W ta)) (hb : PE X b (low X.K X.w W tb)) (hs : PlainIx b) : PE X (.Subscript a b pos) (low X.K X.w W (wOp pIdx ta tb)) := by
  refine imp_e (pe_ix (ixP hu) ha hb hs) ?_
  rintro σ H Q ⟨S, σ', G, W', Q', s, t, bk⟩
  refine low_bind s t fun x v G1 H1 st s1 r1 t1 => ?_
  refine low_bind s1 t1 fun y u G2 H2 st2 s2 r2 t2 => ?_
  exact ⟨S, G2, x, y, Q', s2.at_, r1.mono st2.toStay, r2, t2, bk.next (st.trans st2)⟩
def lowO (K : PySem.W.Frag) (w : World) (W : WX) (t : PSt → PH → (Option Int → PH → Prop) → PX → Prop) : TO := fun σ H Q => ∃ S σ' G W' Q', Si K w W S σ' σ G H W' ∧ t σ' G Q' W' ∧ ∀ o G1 H1, Step S H H1 → At K w S G1 H1 → Q' o G1 → Q o H1
theorem po_noneP : L2.PO X none (lowO X.K X.w W fun _ G Q _ => Q none G) := by
  refine ⟨fun pins s σ H Q I h => po_none.run pins s σ H Q I ?_⟩
  obtain ⟨S, σ', G, W', Q', s, t, bk⟩ := h
  exact bk _ _ _ Step.refl s.at_ t
theorem po_someP (h : PE X e (low X.K X.w W ta)) : L2.PO X (some e) (lowO X.K X.w W fun σ G Q W => ta σ G (fun x G1 => match x with | .int i => Q (some i) G1 | _ => False) W) := by
  refine ⟨fun pins s σ H Q I hw => (po_some h).run pins s σ H Q I ?_⟩
  obtain ⟨S, σ', G, W', Q', s, t, bk⟩ := hw
  refine low_bind s t fun x v G1 H1 st s1 r1 t1 => ?_
  cases x <;> first | exact (show False from t1).elim | skip
  cases r1
  exact ⟨_, rfl, bk _ _ _ st s1.at_ t1⟩
theorem pe_slP {lo hi : Option Expr} {p2 : Pos} {tl th : PSt → PH → (Option Int → PH → Prop) → PX → Prop} (ha : PE X a (low X.K X.w W ta)) (hl : L2.PO X lo (lowO X.K X.w W tl)) (hh : L2.PO X hi (lowO X.K X.w W th)) :
    PE X (.Subscript a (.Slice lo hi none p2) pos) (low X.K X.w W fun σ G Q W => ta σ G (fun x G1 => tl σ G1 (fun l G2 => th σ G2 (fun h G3 => pSl x l h G3 Q) W) W) W) := by
  refine imp_e (pe_slice slP ha hl hh) ?_
  rintro σ H Q ⟨S, σ', G, W', Q', s, t, bk⟩
  refine low_bind s t fun x v G1 H1 st s1 r1 t1 => ?_
  refine ⟨S, σ', G1, W', _, s1, t1, fun l G2 H2 st2 a2 t2 => ?_⟩
  refine ⟨S, σ', G2, W', _, s1.next st2 a2, t2, fun h G3 H3 st3 a3 t3 => ?_⟩
  exact ⟨S, G3, x, Q', a3, r1.mono (st2.trans st3).toStay, t3, bk.next (st.trans (st2.trans st3))⟩
theorem pe_oneP {op : BoolOp} {t : TPE} (h : PE X a (low X.K X.w W t)) : PE X (.BoolOp op [a] pos) (low X.K X.w W t) := pe_one h
theorem pe_andP {rest : List Expr} (ha : PE X a (low X.K X.w W ta)) (hb : PE X (.BoolOp .And (b :: rest) pos) (low X.K X.w W tb)) :
    PE X (.BoolOp .And (a :: b :: rest) pos) (low X.K X.w W fun σ G Q W => ta σ G (fun x G1 => pTru x G1 fun k => if k = true then tb σ G1 Q W else Q x G1) W) := by
  refine imp_e (pe_andT ha hb) ?_
  rintro σ H Q ⟨S, σ', G, W', Q', s, t, bk⟩
  refine low_bind s t fun x v G1 H1 st s1 r1 t1 => ?_
  obtain ⟨k, hk, t1⟩ := truP s1.at_ r1 t1
  refine ⟨k, hk, ?_⟩
  cases k with
  | true => exact ⟨S, σ', G1, W', Q', s1, by simpa using t1, bk.next st⟩
  | false => exact bk x v G1 H1 st s1.at_ r1 (by simpa using t1)
theorem pe_orP {rest : List Expr} (ha : PE X a (low X.K X.w W ta)) (hb : PE X (.BoolOp .Or (b :: rest) pos) (low X.K X.w W tb)) :
    PE X (.BoolOp .Or (a :: b :: rest) pos) (low X.K X.w W fun σ G Q W => ta σ G (fun x G1 => pTru x G1 fun k => if k = true then Q x G1 else tb σ G1 Q W) W) := by
  refine imp_e (pe_orT ha hb) ?_
  rintro σ H Q ⟨S, σ', G, W', Q', s, t, bk⟩
  refine low_bind s t fun x v G1 H1 st s1 r1 t1 => ?_
  obtain ⟨k, hk, t1⟩ := truP s1.at_ r1 t1
  refine ⟨k, hk, ?_⟩
  cases k with
  | true => exact bk x v G1 H1 st s1.at_ r1 (by simpa using t1)
  | false => exact ⟨S, σ', G1, W', Q', s1, by simpa using t1, bk.next st⟩
theorem pe_noP (ha : PE X a (low X.K X.w W ta)) : PE X (.UnaryOp .Not a pos) (low X.K X.w W fun σ G Q W => ta σ G (fun x G1 => pTru x G1 fun k => Q (.bl (!k)) G1) W) := by
  refine imp_e (pe_notT ha) ?_
  rintro σ H Q ⟨S, σ', G, W', Q', s, t, bk⟩
  refine low_bind s t fun x v G1 H1 st s1 r1 t1 => ?_
  obtain ⟨k, hk, t1⟩ := truP s1.at_ r1 t1
  exact ⟨k, hk, bk (.bl (!k)) _ G1 H1 st s1.at_ rfl t1⟩
theorem pe_negP (ha : PE X a (low X.K X.w W ta)) : PE X (.UnaryOp .USub a pos) (low X.K X.w W (wUn (fun x G Q => match x with | .int i => Q (.int (-i)) G | _ => False) ta)) := by
  refine imp_e (pe_un un_neg ha) ?_
  rintro σ H Q ⟨S, σ', G, W', Q', s, t, bk⟩
  refine low_bind s t fun x v G1 H1 st s1 r1 t1 => ?_
  cases x <;> first | exact (show False from t1).elim | skip
  cases r1
  exact ⟨_, rfl, bk (.int _) _ G1 H1 st s1.at_ rfl t1⟩
theorem pe_chainP {o1 o2 : CmpOp} (hu : X.A.units + 65 < cLine) (ha : PE X a (low X.K X.w W ta)) (hb : PE X b (low X.K X.w W tb)) (hc : PE X c (low X.K X.w W tc)) (hm : lastMarks [o1, o2] [b, c] = false) :
    PE X (.Compare a [o1, o2] [b, c] pos) (low X.K X.w W fun σ G Q W => ta σ G (fun x G1 => tb σ G1 (fun y G2 => pCmpB o1 G2 x y fun k => if k = true then tc σ G2 (fun z G3 => pCmp o2 y z G3 Q) W else Q (.bl false) G2) W) W) := by
  refine imp_e (pe_chain (opCmp hu o1) (opCmp hu o2) ha hb hc hm) ?_
  rintro σ H Q ⟨S, σ', G, W', Q', s, t, bk⟩
  refine low_bind s t fun x v G1 H1 st s1 r1 t1 => ?_
  refine low_bind s1 t1 fun y u G2 H2 st2 s2 r2 t2 => ?_
  refine ⟨S, G2, x, y, fun z G3 => ∃ k, z = .bl k ∧ G3 = G2 ∧ (if k = true then tc σ' G2 (fun z G3 => pCmp o2 y z G3 Q') W' else Q' (.bl false) G2), s2.at_, r1.mono st2.toStay, r2, pCmpB_mono t2 fun k q => ⟨k, rfl, rfl, q⟩, ?_⟩
  rintro z v3 G3 H3 st3 a3 r3 ⟨k, rfl, rfl, q⟩
  cases r3
  refine ⟨k, rfl, ?_⟩
  have s3 := s2.next st3 a3
  cases k with
  | true =>
    rw [if_pos rfl] at q ⊢
    refine low_bind s3 q fun z w' G4 H4 st4 s4 r4 t4 => ?_
    exact ⟨S, G4, y, z, Q', s4.at_, r2.mono (st3.trans st4).toStay, r4, t4, bk.next (st.trans (st2.trans (st3.trans st4)))⟩
  | false =>
    rw [if_neg Bool.false_ne_true] at q ⊢
    exact bk (.bl false) _ G3 H3 (st.trans (st2.trans st3)) a3 rfl q
theorem pt_eP (ha : PE X a (low X.K X.w W ta)) (he : ∀ whole, isTrue a X.env whole = (do let v ← whole; standAt a.pos; holding [v] (truthy v))) : PT X a (lowT X.K X.w W fun σ G Q W => ta σ G (fun x G1 => pTru x G1 fun k => Q k G1) W) := by
  refine imp_t (pt_truth ha he) ?_
  rintro σ H Q ⟨S, σ', G, W', Q', s, t, bk⟩
  refine low_bind s t fun x v G1 H1 st s1 r1 t1 => ?_
  obtain ⟨k, hk, t1⟩ := truP s1.at_ r1 t1
  exact ⟨k, hk, bk k G1 H1 st s1.at_ t1⟩
theorem pt_cmpP {op : CmpOp} (hu : X.A.units + 65 < cLine) (ha : PE X a (low X.K X.w W ta)) (hb : PE X b (low X.K X.w W tb)) (hm : behindInMarks op b = false) :
    PT X (.Compare a [op] [b] pos) (lowT X.K X.w W fun σ G Q W => ta σ G (fun x G1 => tb σ G1 (fun y G2 => pCmpB op G2 x y fun k => Q k G2) W) W) := by
  refine imp_t (pt_cmpR (opCmp hu op) ha hb hm) ?_
  rintro σ H Q ⟨S, σ', G, W', Q', s, t, bk⟩
  refine low_bind s t fun x v G1 H1 st s1 r1 t1 => ?_
  refine low_bind s1 t1 fun y u G2 H2 st2 s2 r2 t2 => ?_
  refine ⟨S, G2, x, y, fun z G3 => ∃ k, z = .bl k ∧ Q' k G3, s2.at_, r1.mono st2.toStay, r2, pCmpB_mono t2 fun k q => ⟨k, rfl, q⟩, ?_⟩
  rintro z v3 G3 H3 st3 a3 r3 ⟨k, rfl, q⟩
  cases r3
  exact ⟨k, rfl, bk k G3 H3 (st.trans (st2.trans st3)) a3 q⟩
theorem pt_chainP {o1 o2 : CmpOp} (hu : X.A.units + 65 < cLine) (ha : PE X a (low X.K X.w W ta)) (hb : PE X b (low X.K X.w W tb)) (hc : PE X c (low X.K X.w W tc)) (hm : lastMarks [o1, o2] [b, c] = false) :
    PT X (.Compare a [o1, o2] [b, c] pos) (lowT X.K X.w W fun σ G Q W => ta σ G (fun x G1 => tb σ G1 (fun y G2 => pCmpB o1 G2 x y fun k => if k = true then tc σ G2 (fun z G3 => pCmpB o2 G3 y z fun k2 => Q k2 G3) W else Q false G2) W) W) := by
  refine imp_t (pt_chain (opCmp hu o1) (opCmp hu o2) ha hb hc hm) ?_
  rintro σ H Q ⟨S, σ', G, W', Q', s, t, bk⟩
  refine low_bind s t fun x v G1 H1 st s1 r1 t1 => ?_
  refine low_bind s1 t1 fun y u G2 H2 st2 s2 r2 t2 => ?_
  refine ⟨S, G2, x, y, fun z G3 => ∃ k, z = .bl k ∧ G3 = G2 ∧ (if k = true then tc σ' G2 (fun z G3 => pCmpB o2 G3 y z fun k2 => Q' k2 G3) W' else Q' false G2), s2.at_, r1.mono st2.toStay, r2, pCmpB_mono t2 fun k q => ⟨k, rfl, rfl, q⟩, ?_⟩
  rintro z v3 G3 H3 st3 a3 r3 ⟨k, rfl, rfl, q⟩
  cases r3
  refine ⟨k, rfl, ?_⟩
  have s3 := s2.next st3 a3
  cases k with
  | true =>
    rw [if_pos rfl] at q ⊢
    refine low_bind s3 q fun z w' G4 H4 st4 s4 r4 t4 => ?_
    refine ⟨S, G4, y, z, fun z G5 => ∃ k, z = .bl k ∧ Q' k G5, s4.at_, r2.mono (st3.trans st4).toStay, r4, pCmpB_mono t4 fun k q => ⟨k, rfl, q⟩, ?_⟩
    rintro z v5 G5 H5 st5 a5 r5 ⟨k, rfl, q⟩
    cases r5
    exact ⟨k, rfl, bk k G5 H5 (st.trans (st2.trans (st3.trans (st4.trans st5)))) a5 q⟩
  | false =>
    rw [if_neg Bool.false_ne_true] at q ⊢
    exact ⟨false, rfl, bk false G3 H3 (st.trans (st2.trans st3)) a3 q⟩
variable {t1 t2 : TPT} {rest : List Expr}
def cAnd (t u : TPT) : TPT := fun σ G Q W => t σ G (fun k G1 => if k = true then u σ G1 Q W else Q false G1) W
def cOr (t u : TPT) : TPT := fun σ G Q W => t σ G (fun k G1 => if k = true then Q true G1 else u σ G1 Q W) W
theorem low_and : ∀ σ H Q, lowT X.K X.w W (cAnd t1 t2) σ H Q → tAnd (lowT X.K X.w W t1) (lowT X.K X.w W t2) σ H Q := by
  rintro σ H Q ⟨S, σ', G, W', Q', s, t, bk⟩
  refine ⟨S, σ', G, W', _, s, t, fun k G1 H1 st a1 q => ?_⟩
  cases k with
  | true => exact ⟨S, σ', G1, W', Q', s.next st a1, by simpa using q, fun b G2 H2 st2 a2 q2 => bk b G2 H2 (st.trans st2) a2 q2⟩
  | false => exact bk false G1 H1 st a1 (by simpa using q)
theorem low_or : ∀ σ H Q, lowT X.K X.w W (cOr t1 t2) σ H Q → tOr (lowT X.K X.w W t1) (lowT X.K X.w W t2) σ H Q := by
  rintro σ H Q ⟨S, σ', G, W', Q', s, t, bk⟩
  refine ⟨S, σ', G, W', _, s, t, fun k G1 H1 st a1 q => ?_⟩
  cases k with
  | true => exact bk true G1 H1 st a1 (by simpa using q)
  | false => exact ⟨S, σ', G1, W', Q', s.next st a1, by simpa using q, fun b G2 H2 st2 a2 q2 => bk b G2 H2 (st.trans st2) a2 q2⟩
theorem pw_andP (ha : PT X a (lowT X.K X.w W t1)) (hb : L2.PW X (.BoolOp .And (b :: rest) pos) (lowT X.K X.w W t2)) : L2.PW X (.BoolOp .And (a :: b :: rest) pos) (lowT X.K X.w W (cAnd t1 t2)) := imp_w (pw_and ha hb) low_and
theorem pw_orP (ha : PT X a (lowT X.K X.w W t1)) (hb : L2.PW X (.BoolOp .Or (b :: rest) pos) (lowT X.K X.w W t2)) : L2.PW X (.BoolOp .Or (a :: b :: rest) pos) (lowT X.K X.w W (cOr t1 t2)) := imp_w (pw_or ha hb) low_or
theorem pt_notP (ha : PT X a (lowT X.K X.w W t1)) : PT X (.UnaryOp .Not a pos) (lowT X.K X.w W fun σ G Q W => t1 σ G (fun k G1 => Q (!k) G1) W) := by
  refine imp_t (pt_not ha) ?_
  rintro σ H Q ⟨S, σ', G, W', Q', s, t, bk⟩
  exact ⟨S, σ', G, W', _, s, t, fun k G1 H1 st a1 q => bk (!k) G1 H1 st a1 q⟩
end
end Fv

set_option Elab.async false
set_option linter.all false
set_option maxRecDepth 100000
set_option maxHeartbeats 1000000
namespace Fv
open PySem L2
def noStarE (e : Expr) : Bool := match e with | .Starred .. => false | _ => true
theorem plain_args : ∀ (es : List Expr) (env : Env) (pos : Pos), es.all noStarE = true → (backTo pos (starEach es env)).any (·.1) = false
  | [], _, _, _ => rfl
  | e :: es, env, pos, h => by
    rw [List.all_cons, Bool.and_eq_true] at h
    rw [no_star e es env h.1]
    show (false || (backTo pos (starEach es env)).any (·.1)) = false
    rw [plain_args es env pos h.2]; rfl
section
variable {X : Cx} {W : WX} {a b c e : Expr} {p pos : Pos} {ta tb tc : TPE} {es : List Expr} {t : TPA}
/-- a built-in, called by its name -/
theorem pe_bltP {f : Bn} (hc : CallR X f.val (lowC X.K X.w (pBn f))) (hg : Gl X f.name) (hm : X.mg f.name = none) (ha : PA X (e :: es) (lowA X.K X.w W t)) (hp : (e :: es).all noStarE = true) :
    PE X (.Call (.Name f.name p) (e :: es) [] pos) (low X.K X.w W fun σ G Q W => t σ G (fun vs G1 => pBn f vs G1 Q) W) := by
  have h2 : noStarE e = true ∧ es.all noStarE = true := by simpa using hp
  have n1 : f.name ≠ "__name__" := by cases f <;> decide
  have n2 : (f.name == ("__debug__" : Str)) = false := by cases f <;> decide
  have key : PE X (.Call (.Name f.name p) (e :: es) [] pos) (tCB (lowC X.K X.w (pBn f)) (lowA X.K X.w W t)) := by
    have hb := f.boot
    have : (∃ id, f.val = .builtin id) ∨ ∃ T, f.val = .type T := by cases f <;> first | exact .inl ⟨_, rfl⟩ | exact .inr ⟨_, rfl⟩
    rcases this with ⟨id, ev⟩ | ⟨T, ev⟩
    · rw [ev] at hc hb
      exact pe_callB hc hg hm hb ha n1 n2 (no_star e es X.env h2.1) (plain_args es X.env pos h2.2)
    · rw [ev] at hc hb
      exact pe_callTy hc hg hm hb ha n1 n2 (no_star e es X.env h2.1) (plain_args es X.env pos h2.2)
  refine imp_e key ?_
  rintro σ H Q ⟨S, σ', G, W', Q', s, t, bk⟩
  exact ⟨S, σ', G, W', _, s, t, fun xs vs G1 H1 st a1 r q => ⟨S, G1, xs, Q', a1, r, q, bk.next st⟩⟩
/-- isinstance, a built-in class -/
def isiTys : List (String × Str) := [("tuple", "tuple"), ("int", "int"), ("bool", "bool"), ("str", "str"), ("list", "list"), ("dict", "dict")]
theorem isi_boot : ∀ q ∈ isiTys, bootBuiltins q.2 = some (.type q.1) ∧ q.2 ≠ "__name__" ∧ (q.2 == ("__debug__" : Str)) = false := by
  intro q h
  simp only [isiTys, List.mem_cons, List.not_mem_nil, or_false] at h
  rcases h with rfl | rfl | rfl | rfl | rfl | rfl <;> exact ⟨by decide +kernel, by decide, by decide⟩
theorem ty_rep {S : Addr → Prop} {G : PH} {H : Hp} (a : At X.K X.w S G H) {x : PV} {v : V} (r : RepV X.K X.w H x v) {u : String} (e : tyOf G x = some (.inl u)) : TyX X.K H v (.type u) := by
  cases x <;> first | (cases r; cases e; exact .base (by constructor)) | skip
  · rename_i p
    cases r
    unfold tyOf at e
    dsimp only at e
    split at e <;> cases e
    · rename_i xs e1
      obtain ⟨vs, h, _⟩ := ref_lst a e1
      exact .base (.lst h)
    · rename_i kvs e1
      obtain ⟨es, h, _⟩ := a.ob p _ e1
      exact .base (.dK h)
    · rename_i kvs e1
      obtain ⟨es, h, _⟩ := a.ob p _ e1
      exact .base (.dT h)
  · cases e
  · obtain ⟨p, vs, rfl, t, _⟩ := r
    cases e
    rcases t with (t | ⟨o, t⟩) | ⟨o, its, n, hk, hc, _⟩
    · exact .base (.tup t)
    · exact .fTuple t
    · exact .kTuple hk hc
  · obtain ⟨p, vs, rfl, t, _⟩ := r
    cases e
    rcases t with ⟨o, t⟩ | ⟨o, its, n, hk, hc, _⟩
    · exact .base (.frz t)
    · exact .kList hk hc
  · obtain ⟨p, vs, rfl, ⟨_, ⟨es, n, D⟩, _⟩, _⟩ := r
    cases e
    exact .kDict D.at_ rfl
theorem pe_isiP {T : String} {z : Str} {p2 : Pos} (hz : (T, z) ∈ isiTys) (hg : Gl X "isinstance") (hm : X.mg "isinstance" = none) (hgT : Gl X z) (hmT : X.mg z = none) (ha : PE X a (low X.K X.w W ta)) (hs : noStarE a = true) :
    PE X (.Call (.Name "isinstance" p) [a, .Name z p2] [] pos) (low X.K X.w W (wUn (pIsi T) ta)) := by
  obtain ⟨h1, h2, h3⟩ := isi_boot _ hz
  have hb : PE X (.Name z p2) (tC (.ty T)) := pe_bltn hgT hmT h1 (show RelV (.ty T) (.type T) from rfl) h2 h3
  refine imp_e (pe_callB call_isi hg hm (by decide +kernel) (pa_cons ha (pa_cons hb pa_nil (by rfl)) (no_star a _ X.env hs)) (by decide) (by decide) (no_star a _ X.env hs) (by rfl)) ?_
  rintro σ H Q ⟨S, σ', G, W', Q', s, t, bk⟩
  refine low_bind s t fun x v G1 H1 st s1 r1 t1 => ?_
  unfold pIsi at t1
  split at t1
  · rename_i u e1
    split at t1
    · rename_i k e2
      exact ⟨v, .ty T, .type u, .type T, k, rfl, .ty T, ty_rep s1.at_ r1 e1, kit_ty e2, bk (.bl k) _ G1 H1 st s1.at_ rfl t1⟩
    · exact t1.elim
  · exact t1.elim
def RepKw (K : PySem.W.Frag) (w : World) (H : Hp) (kws : List (Str × PV)) (kvs : List (Str × V)) : Prop := RepF K w H kws kvs
def lowF (K : PySem.W.Frag) (w : World) (sp : List PV → List (Str × PV) → PH → VP → PC → Prop) : List V → List (Str × V) → Hp → VK → XK → Prop := fun vs kvs H Q E =>
  ∃ S G xs kws Q' P', At K w S G H ∧ RepL K w H xs vs ∧ RepF K w H kws kvs ∧ sp xs kws G Q' P' ∧ Back K w S H Q' Q ∧
    ∀ cls fs d G1 H1, Step S H H1 → At K w S G1 H1 → XRep K w H1 d fs → P' cls fs G1 → E cls d H1
structure Good (k : Nat) (A : Around) : Prop where
  room : Room (2 * k) A
  gd : A.guards = some []
theorem Good.mono {j k : Nat} {A : Around} (g : Good k A) (h : j ≤ k) : Good j A := ⟨g.room.mono (by omega), g.gd⟩
/-- inside a def's body -/
structure GoodB (k : Nat) (A : Around) : Prop where
  room : Room (2 * k + 1) A
  gd : A.guards = some []
theorem GoodB.good {k : Nat} {A : Around} (g : GoodB k A) : Good k A := ⟨g.room.mono (by omega), g.gd⟩
theorem GoodB.hu {k : Nat} {A : Around} (g : GoodB k A) : A.units + 200 < cLine := by have := g.room.un; omega
theorem GoodB.make {k : Nat} {A : Around} (g : GoodB k A) (C : Addr) (us : List Value) (kw : List (Str × Value)) : Good k (A.under (.builtin "type.__call__" ⟨.ref C :: us, kw⟩)) := ⟨g.room.make C us kw, g.gd⟩
theorem Good.hu {k : Nat} {A : Around} (g : Good k A) : A.units + 200 < cLine := by have := g.room.un; omega
def KwV (kvs : List (Str × V)) (kw : List (Str × Value)) : Prop := Paired (fun (p : Str × V) (q : Str × Value) => p.1 = q.1 ∧ RelV p.2 q.2) kvs kw
/-- the def at f keeps sp, by at most k calls one in another -/
def FnP (P : Program) (w : World) (K : PySem.W.Frag) (mg : Str → Option Value) (base : Heap) (k : Nat) (f : Addr) (sp : List PV → List (Str × PV) → PH → VP → PC → Prop) : Prop :=
  ∀ (A : Around) (outer : List Env) (s : Shared) (H : Hp) (us : List Value) (kw : List (Str × Value)) (vs : List V) (kvs : List (Str × V)) (Q : VK) (E : XK), Good k A → Env0 P w K mg base A outer s H → Vals vs us → KwV kvs kw →
    lowF K w sp vs kvs H Q E → codeAny (model P w) A (.call (.ref f) ⟨us, kw⟩) (CR (L2.CX P w) outer P w H s Q E) s
theorem FnP.mono {P : Program} {w : World} {K : PySem.W.Frag} {mg : Str → Option Value} {base : Heap} {j k : Nat} {f : Addr} {sp} (F : FnP P w K mg base j f sp) (h : j ≤ k) : FnP P w K mg base k f sp :=
  fun A outer s H us kw vs kvs Q E g => F A outer s H us kw vs kvs Q E (g.mono h)
theorem run_fnP {k : Nat} {f : Addr} {sp : List PV → List (Str × PV) → PH → VP → PC → Prop} (F : FnP X.prog X.w X.K X.mg X.base k f sp) (g : Good k X.A) (tk : Takes X W) {pins : List (Addr × Obj)} {s : Shared} {σ : St} {H : Hp} {us : List Value} {kw : List (Str × Value)} {vs : List V} {kvs : List (Str × V)} {Q : VK}
    (I : Inv X pins σ H s) (r : Vals vs us) (rk : KwV kvs kw) (h : lowF X.K X.w sp vs kvs H Q (fun cls d H' => W cls d σ H')) : wpAny (model X.prog X.w) X.A (call (.ref f) us kw) (EP X pins σ Q) X.xe s := by
  refine wpAny_call (codeAny_mono (F X.A X.stack s H us kw vs kvs Q _ g I.env0 r rk h) fun r s' hq => ?_)
  cases r with
  | error e => exact tk e s' (XE.of_call I (fun cls d H' h => h) hq)
  | ok fl =>
    cases fl with
    | ret u => exact I.after hq
    | next => exact False.elim hq
    | brk => exact False.elim hq
    | cont => exact False.elim hq
/-- the values of keywords -/
def lowK (K : PySem.W.Frag) (w : World) (W : WX) (t : TPA) : TA := lowA K w W t
theorem pk_nilP : PK X [] (lowA X.K X.w W wNil) := ⟨fun pos pins s σ H Q I h => pk_nil.run pos pins s σ H Q I (by
  obtain ⟨S, σ', G, W', Q', s, t, bk⟩ := h
  exact bk [] [] G H Step.refl s.at_ rfl t)⟩
theorem pk_consP {nm : Option Str} {kpos : Pos} {kws : List Keyword} {tr : TPA} (ha : PE X e (low X.K X.w W ta)) (hr : PK X kws (lowA X.K X.w W tr)) : PK X (⟨nm, e, kpos⟩ :: kws) (lowA X.K X.w W (wCons ta tr)) :=
  ⟨fun pos pins s σ H Q I h => (pk_cons ha hr).run pos pins s σ H Q I (by
    obtain ⟨S, σ', G, W', Q', s, t, bk⟩ := h
    refine low_bind s t fun x v G1 H1 st s1 r1 t1 => ?_
    refine ⟨S, σ', G1, W', _, s1, t1, fun xs vs G2 H2 st2 a2 r2 t2 => ?_⟩
    exact bk (x :: xs) (v :: vs) G2 H2 (st.trans st2) a2 ⟨v, vs, rfl, r1.mono st2.toStay, r2⟩ t2)⟩
theorem kw_rep {K : PySem.W.Frag} {w : World} {H : Hp} : ∀ (ks : List Str) {zs : List PV} {vs : List V}, RepL K w H zs vs → RepF K w H (ks.zip zs) (ks.zip vs)
  | [], _, _, _ => by simp [RepF]; exact .nil
  | k :: ks, [], _, l => by cases l; simp [RepF]; exact .nil
  | k :: ks, z :: zs, _, ⟨v, r, rfl, a, b⟩ => .cons ⟨rfl, a⟩ (kw_rep ks b)
theorem kw_val : ∀ (ks : List Str) {vs : List V} {us : List Value}, Vals vs us → KwV (ks.zip vs) (ks.zip us)
  | [], _, _, _ => by simp [KwV]; exact .nil
  | k :: ks, [], _, l => by cases l; simp [KwV]; exact .nil
  | k :: ks, v :: vs, _, .cons r t => .cons ⟨rfl, r⟩ (kw_val ks t)
def kwNames (kws : List Keyword) : List Str := kws.filterMap (·.arg)
theorem kw_names {pos : Pos} {env : Env} : ∀ kws : List Keyword, (backToKw pos (keywordEach kws env)).filterMap (·.1) = kwNames kws
  | [] => rfl
  | ⟨n, v, p⟩ :: r => by
    have ih := kw_names (pos := pos) (env := env) r
    unfold kwNames at ih ⊢
    show (((n, (do let v ← eval v env; standAt pos; pure v)) :: backToKw pos (keywordEach r env))).filterMap (·.1) = _
    cases n with
    | none => simpa using ih
    | some x => simpa using ih
theorem kw_all {pos : Pos} {env : Env} : ∀ kws : List Keyword, (kws.all fun k => k.arg.isSome) = true → (backToKw pos (keywordEach kws env)).all (·.1.isSome) = true ∧ (backToKw pos (keywordEach kws env)).any (·.1.isNone) = false
  | [], _ => ⟨rfl, rfl⟩
  | ⟨n, v, p⟩ :: r, h => by
    have h2 : n.isSome = true ∧ (r.all fun k => k.arg.isSome) = true := by simpa using h
    obtain ⟨h3, h4⟩ := kw_all (pos := pos) (env := env) r h2.2
    obtain ⟨x, rfl⟩ := Option.isSome_iff_exists.mp h2.1
    exact ⟨by show (true && (backToKw pos (keywordEach r env)).all (·.1.isSome)) = true; rw [h3]; rfl, by show (false || (backToKw pos (keywordEach r env)).any (·.1.isNone)) = false; rw [h4]; rfl⟩
theorem step2P {k : Nat} {f : Addr} {kws : List Keyword} {tk : TPA} {sp : List PV → List (Str × PV) → PH → VP → PC → Prop} (F : FnP X.prog X.w X.K X.mg X.base k f sp) (g : Good k X.A) (tkx : Takes X W) (hkw : PK X kws (lowA X.K X.w W tk))
    {pins : List (Addr × Obj)} {s1 : Shared} {σ : St} {H : Hp} {Q : VK} {S : Addr → Prop} {σ' : PSt} {G : PH} {W' : PX} {Q' : VP} (si : Si X.K X.w W S σ' σ G H W') (bk : Back X.K X.w S H Q' Q)
    (us : List Value) (vs : List V) (xs : List PV) (G1 : PH) (H1 : Hp) (I1 : Inv X pins σ H1 s1) (rv : Vals vs us) (st1 : Step S H H1) (a1 : At X.K X.w S G1 H1) (rl : RepL X.K X.w H1 xs vs)
    (q1 : tk σ' G1 (fun zs G2 => sp xs ((kwNames kws).zip zs) G2 Q' fun c fs G3 => W' c fs σ' G3) W') :
    wpAny (model X.prog X.w) X.A (evalAll ((backToKw pos (keywordEach kws X.env)).map (·.2))) (fun ks s₂ => X.K.In s₂.heap ∧ wpAny (model X.prog X.w) X.A (call (.ref f) ([] ++ us) (((backToKw pos (keywordEach kws X.env)).filterMap (·.1)).zip ks)) (EP X pins σ Q) X.xe s₂) X.xe s1 := by
  refine thn (hkw.run pos pins s1 σ H1 (fun zs H2 => ∃ G2 zs', Step S H1 H2 ∧ At X.K X.w S G2 H2 ∧ RepL X.K X.w H2 zs' zs ∧ sp xs ((kwNames kws).zip zs') G2 Q' fun c fs G3 => W' c fs σ' G3) I1
    ⟨S, σ', G1, W', _, si.next st1 a1, q1, fun zs' zs G2 H2 st2 a2 r2 q2 => ⟨G2, zs', st2, a2, r2, q2⟩⟩) fun ws s2 ⟨zs, H2, I2, rz, G2, zs', st2, a2, r2, q2⟩ => ⟨I2.kIn, ?_⟩
  rw [kw_names]
  refine run_fnP F g tkx I2 (vs := vs) rv (kw_val _ rz) ⟨S, G2, xs, _, Q', _, a2, rl.mono st2.toStay, kw_rep _ r2, q2, bk.next (st1.trans st2), fun cls fs d G3 H3 st3 a3 x3 q3 => ?_⟩
  exact si.wx cls fs d σ' σ G3 H3 ((st1.trans st2).trans st3) a3 (si.sl.mono ((st1.trans st2).trans st3).toStay) x3 q3
theorem pe_callP {k : Nat} {x : Str} {f : Addr} {kws : List Keyword} {tk : TPA} {sp : List PV → List (Str × PV) → PH → VP → PC → Prop} (F : FnP X.prog X.w X.K X.mg X.base k f sp) (g : Good k X.A) (tkx : Takes X W) (hg : Gl X x) (hm : X.mg x = some (.ref f)) (hk : PySem.W.keepIn X.K (.ref f) = true)
    (hdb : (x == ("__debug__" : Str)) = false) (ha : PA X (e :: es) (lowA X.K X.w W t)) (hkw : PK X kws (lowA X.K X.w W tk)) (hp : (e :: es).all noStarE = true) (hn : (kws.all fun k => k.arg.isSome) = true) :
    PE X (.Call (.Name x p) (e :: es) kws pos) (low X.K X.w W (wCall sp (kwNames kws) t tk)) := by
  refine ⟨fun pins s σ H Q I h => ?_⟩
  obtain ⟨S, σ', G, W', Q', si, t1, bk⟩ := h
  refine wpAny_Call_Name_kw (ld_glob I hg hm ?_ hdb)
  obtain ⟨n1, n2⟩ := kw_all (pos := pos) (env := X.env) kws hn
  have h2 : noStarE e = true ∧ es.all noStarE = true := by simpa using hp
  refine PySem.W.callWith_KW (h₀ := X.base) I.ok.mod.kin hk n1 ?_ (by rw [n2, Bool.or_false]; exact plain_args (e :: es) X.env pos hp) (no_star e es X.env h2.1)
  refine thn (ha.run pos pins s σ H (fun vs H1 => ∃ G1 xs, Step S H H1 ∧ At X.K X.w S G1 H1 ∧ RepL X.K X.w H1 xs vs ∧ tk σ' G1 (fun zs G2 => sp xs ((kwNames kws).zip zs) G2 Q' fun c fs G3 => W' c fs σ' G3) W') I
    ⟨S, σ', G, W', _, si, t1, fun xs vs G1 H1 st1 a1 r1 q1 => ⟨G1, xs, st1, a1, r1, q1⟩⟩) fun us s1 ⟨vs, H1, I1, rv, G1, xs, st1, a1, rl, q1⟩ => ?_
  exact step2P F g tkx hkw si bk us vs xs G1 H1 I1 rv st1 a1 rl q1
theorem pe_callP0 {k : Nat} {x : Str} {f : Addr} {kws : List Keyword} {tk : TPA} {sp : List PV → List (Str × PV) → PH → VP → PC → Prop} (F : FnP X.prog X.w X.K X.mg X.base k f sp) (g : Good k X.A) (tkx : Takes X W) (hg : Gl X x) (hm : X.mg x = some (.ref f)) (hk : PySem.W.keepIn X.K (.ref f) = true)
    (hdb : (x == ("__debug__" : Str)) = false) (hkw : PK X kws (lowA X.K X.w W tk)) (hn : (kws.all fun k => k.arg.isSome) = true) :
    PE X (.Call (.Name x p) [] kws pos) (low X.K X.w W (wCall sp (kwNames kws) wNil tk)) := by
  refine ⟨fun pins s σ H Q I h => ?_⟩
  obtain ⟨S, σ', G, W', Q', si, t1, bk⟩ := h
  refine wpAny_Call_Name_kw (ld_glob I hg hm ?_ hdb)
  obtain ⟨n1, n2⟩ := kw_all (pos := pos) (env := X.env) kws hn
  refine PySem.W.callWith_KW0 (h₀ := X.base) I.ok.mod.kin hk n1 ?_ (by rw [n2]; rfl)
  exact step2P F g tkx hkw si bk [] [] [] G H I .nil Step.refl si.at_ rfl t1
end
end Fv

set_option Elab.async false
set_option linter.all false
set_option maxRecDepth 100000
set_option maxHeartbeats 1000000
namespace Fv
open PySem L2
section
variable (K : PySem.W.Frag) (w : World)
/-- the slots outside sl are as they were -/
def Out (sl : List Nat) (σ τ : St) : Prop := τ.length = σ.length ∧ ∀ j, j ∉ sl → τ[j]? = σ[j]?
def lowG (W : WX) (sl : List Nat) (t : TPG) : TG := fun v σ H N => ∃ S σ' G W' x N', Si K w W S σ' σ G H W' ∧ RepV K w H x v ∧ t x σ' G N' W' ∧
  ∀ τ' τ G1 H1, Step S H H1 → At K w S G1 H1 → RepS K w H1 τ' τ → Out sl σ τ → N' τ' G1 → N τ H1
def lowGs (W : WX) (sl : List Nat) (t : List PV → PSt → PH → (PSt → PH → Prop) → PX → Prop) : TGs := fun vs σ H N => ∃ S σ' G W' xs N', Si K w W S σ' σ G H W' ∧ RepL K w H xs vs ∧ t xs σ' G N' W' ∧
  ∀ τ' τ G1 H1, Step S H H1 → At K w S G1 H1 → RepS K w H1 τ' τ → Out sl σ τ → N' τ' G1 → N τ H1
/-- the iterator J gives the items xs while kp stands, from H0 on -/
def ItOk (H0 : Hp) (J : L2.It) (xs : List PV) (kp : Keep) : Prop := ∀ S G H, Stay H0 H → At K w S G H → Kept kp G → ∀ i : Nat,
  (i < xs.length → J.go i H ∧ ∀ x H', J.yld i H x H' → ∃ y, xs[i]? = some y ∧ Step S H H' ∧ At K w S G H' ∧ RepV K w H' y x) ∧ (xs.length = i → J.stop i H)
def lowI (W : WX) (t : TPI) : TI := fun σ H R => ∃ S σ' G W' Q', Si K w W S σ' σ G H W' ∧ t σ' G Q' W' ∧ ∀ xs kp G1 H1 J, Step S H H1 → At K w S G1 H1 → ItOk K w H1 J xs kp → Q' xs kp G1 → R J H1
end
theorem Out.refl {sl : List Nat} {σ : St} : Out sl σ σ := ⟨rfl, fun _ _ => rfl⟩
theorem Out.trans {s1 s2 s3 : List Nat} {σ τ ρ : St} (a : Out s1 σ τ) (b : Out s2 τ ρ) (h1 : ∀ j ∈ s1, j ∈ s3) (h2 : ∀ j ∈ s2, j ∈ s3) : Out s3 σ ρ :=
  ⟨b.1.trans a.1, fun j hj => (b.2 j fun z => hj (h2 j z)).trans (a.2 j fun z => hj (h1 j z))⟩
theorem Out.set {i : Nat} {σ : St} {v : Option V} : Out [i] σ (σ.set i v) := ⟨by simp, fun j hj => by rw [List.getElem?_set_ne]; simpa using fun e => hj (by simp [e])⟩
theorem Out.mono {s1 s2 : List Nat} {σ τ : St} (a : Out s1 σ τ) (h : ∀ j ∈ s1, j ∈ s2) : Out s2 σ τ := ⟨a.1, fun j hj => a.2 j fun z => hj (h j z)⟩
section
variable {X : Cx} {W : WX} {a b c e tg : Expr} {p pos : Pos} {ta tb tc : TPE} {es : List Expr} {t : TPA}
theorem imp_g {t t' : TG} (h : PG X tg t) (k : ∀ v σ H Q, t' v σ H Q → t v σ H Q) : PG X tg t' := ⟨fun pins s σ H v u Q I r q => h.run pins s σ H v u Q I r (k v σ H Q q)⟩
theorem imp_gs {t t' : TGs} (h : PGs X es t) (k : ∀ v σ H Q, t' v σ H Q → t v σ H Q) : PGs X es t' := ⟨fun pins s σ H v u Q I r q => h.run pins s σ H v u Q I r (k v σ H Q q)⟩
theorem imp_i {t t' : TI} (h : PI X tg e t) (k : ∀ σ H Q, t' σ H Q → t σ H Q) : PI X tg e t' := ⟨fun pins s σ H Q I q => h.run pins s σ H Q I (k σ H Q q)⟩
theorem pg_nameP {i : Nat} {x : Str} (hN : X.N.Nodup) (hi : X.N[i]? = some x) (hx : Loc X.env.scope x) (hf : X.fn x = true ∨ X.env.scope.names.lookup x = some .local) : PG X (.Name x pos) (lowG X.K X.w W [i] (wName i)) := by
  refine imp_g (pg_name hN hi hx hf) ?_
  rintro v σ H N ⟨S, σ', G, W', x', N', s, r, t, k⟩
  exact k _ _ G H Step.refl s.at_ (s.sl.set i r) Out.set t
theorem pgs_nilP : PGs X [] (lowGs X.K X.w W [] wGNil) := by
  refine imp_gs pgs_nil ?_
  rintro vs σ H N ⟨S, σ', G, W', xs, N', s, r, t, k⟩
  obtain ⟨rfl, t⟩ := t
  cases r
  exact ⟨rfl, k _ _ G H Step.refl s.at_ s.sl Out.refl t⟩
theorem asg_each : ∀ (e : Expr) (es : List Expr) (env : Env), noStarE e = true → assignEach (e :: es) env = (false, assign e env) :: assignEach es env := fun e es env h => by
  cases e <;> first | rfl | cases h
theorem asg_len : ∀ (es : List Expr) (env : Env), es.all noStarE = true → (assignEach es env).length = es.length ∧ (assignEach es env).findIdx? (·.1) = none
  | [], _, _ => ⟨rfl, rfl⟩
  | e :: es, env, h => by
    have h2 : noStarE e = true ∧ es.all noStarE = true := by simpa using h
    obtain ⟨h3, h4⟩ := asg_len es env h2.2
    rw [asg_each e es env h2.1]
    refine ⟨by simp [h3], ?_⟩
    rw [List.findIdx?_cons]
    simp [h4]
theorem pgs_consP {s1 s2 : List Nat} {t1 : TPG} {t2} (he : noStarE e = true) (h1 : PG X e (lowG X.K X.w W s1 t1)) (h2 : PGs X es (lowGs X.K X.w W s2 t2)) : PGs X (e :: es) (lowGs X.K X.w W (s1 ++ s2) (wGCons t1 t2)) := by
  refine imp_gs (pgs_cons h1 h2 (by rw [asg_each e es X.env he] <;> rfl)) ?_
  rintro vs σ H N ⟨S, σ', G, W', xs, N', s, r, t, k⟩
  cases xs with
  | nil => exact (show False from t).elim
  | cons x xs =>
    obtain ⟨v, r0, rfl, r1, r2⟩ := r
    refine ⟨v, r0, rfl, S, σ', G, W', x, _, s, r1, t, fun τ' τ G1 H1 st a1 rs o1 q => ?_⟩
    refine ⟨S, τ', G1, W', xs, N', (s.next st a1).slots rs, r2.mono st.toStay, q, fun ρ' ρ G2 H2 st2 a2 rs2 o2 q2 => ?_⟩
    exact k ρ' ρ G2 H2 (st.trans st2) a2 rs2 (o1.trans o2 (fun j h => List.mem_append_left _ h) fun j h => List.mem_append_right _ h) q2
theorem pg_tupP {k n : Nat} {sl : List Nat} {t2} (hc : X.calm = true) (h : PGs X es (lowGs X.K X.w W sl t2)) (hn : es.length = n) (hs : es.all noStarE = true) :
    PG X (.Tuple es k pos) (lowG X.K X.w W sl fun v σ G Q W => match v with
      | .tup xs => xs.length = n ∧ t2 xs σ G Q W
      | .ref a => match G a with
        | some (.lst xs) => xs.length = n ∧ t2 xs σ G Q W
        | _ => False
      | _ => False) := by
  refine ⟨fun pins s0 σ H v u N I rv hw => ?_⟩
  obtain ⟨S, σ', G, W', x', N', s, r, t, k⟩ := hw
  cases x' <;> first | exact (show False from t).elim | skip
  · rename_i p
    cases r
    obtain rfl : u = Value.ref p := rv
    dsimp only at t
    split at t <;> first | exact t.elim | skip
    rename_i xs e1
    obtain ⟨vs, h1, l⟩ := ref_lst s.at_ e1
    obtain ⟨its, rv2, hl, hz⟩ := I.list (SqL.of h1)
    have el := (asg_len es X.env hs).1.trans hn
    rw [PySem.arm_assign_Tuple]
    refine wpAny_bind (wpAny_standAt ?_)
    unfold unpack
    rw [(asg_len es X.env hs).2, el]
    have en : n = its.toArray.size := by rw [List.size_toArray, ← rv2.length, ← l.length]; exact t.1.symm
    rw [en]
    refine wpAny_bind (wpAny_holding (PySem.W.kun_itemsOf (I.ok.hd hc) hl.isList fun h' hx => ?_))
    have I1 : Inv X pins σ H { s0 with heap := h' } := I.kept (t' := s0.toks) fun b o e => hx b o (Nat.ne_of_lt (Heap.lt_size e)) e
    exact h.run pins _ σ H vs _ N I1 (by simpa using rv2) ⟨S, σ', G, W', xs, N', s, l, t.2, k⟩
  · rename_i xs
    refine (pg_tup hc h ((asg_len es X.env hs).1.trans hn) (asg_len es X.env hs).2).run pins s0 σ H v u N I rv ?_
    obtain ⟨q, vs, rfl, hq, l⟩ := r
    exact ⟨q, vs, rfl, hq, by rw [← l.length]; exact t.1, S, σ', G, W', xs, N', s, l, t.2, k⟩
def wSub (to ti : TPE) : TPG := fun v σ G Q W => to σ G (fun x G1 => ti σ G1 (fun y G2 => pSet x y v G2 fun G3 => Q σ G3) W) W
def lowSet (K : PySem.W.Frag) (w : World) : TSet := fun o i v H N => ∃ S G o' i' v' N', At K w S G H ∧ RepV K w H o' o ∧ RepV K w H i' i ∧ RepV K w H v' v ∧ pSet o' i' v' G N' ∧ ∀ G1 H1, Step S H H1 → At K w S G1 H1 → N' G1 → N H1
theorem setP (hu : X.A.units + 1 < cLine) : PSet X (lowSet X.K X.w) := by
  rintro pins s σ H o i v u1 u2 u3 Q I r1 r2 r3 ⟨S, G, o', i', v', N', a, q1, q2, q3, t, k⟩
  unfold pSet at t
  split at t
  · cases q1
    split at t
    · rename_i e
      obtain ⟨vs, h, l⟩ := ref_lst a e
      split at t
      · cases q2
        split at t
        · rename_i n j e2
          rw [l.length] at e2
          refine set_list pins s σ H _ _ v u1 u2 u3 Q I r1 r2 r3 ⟨_, _, _, j, rfl, rfl, h, e2, ?_⟩
          have st := a.step_put (o := .lst (vs.set j v)) e
          exact k _ _ st (a.put (u := .lst _) e ⟨_, upd_same, (l.set j q3).mono st.toStay⟩) t
        · exact t.elim
      · exact t.elim
    · rename_i kvs e
      split at t <;> first | exact t.elim | skip
      rename_i kk ek
      obtain ⟨es, h, l⟩ := a.ob _ _ e
      obtain rfl := key_rep ek q2
      have st := a.step_put (o := .dK (putK es kk v)) e
      refine set_dict hu pins s σ H _ _ v u1 u2 u3 Q I r1 r2 r3 ⟨_, _, rfl, DPut.k (k := kk) h (by rw [← Paired.length l]; exact t.1), ?_⟩
      exact k _ _ st (a.put (u := .dict _) e ⟨_, upd_same, PairedMap (pt_dict l kk q3) fun _ _ z => ⟨z.1, z.2.mono st.toStay⟩⟩) t.2
    · exact t.elim
  · exact t.elim
theorem pg_subP (hu : X.A.units + 1 < cLine) (hs : (match b with | .Slice .. => false | _ => true) = true) (ha : PE X a (low X.K X.w W ta)) (hb : PE X b (low X.K X.w W tb)) : PG X (.Subscript a b pos) (lowG X.K X.w W [] (wSub ta tb)) := by
  refine imp_g (pg_sub ha hb (setP hu) (by cases b <;> first | (intro v; rfl) | rfl | cases hs)) ?_
  rintro v σ H N ⟨S, σ', G, W', x', N', s, r, t, k⟩
  refine low_bind s t fun o ov G1 H1 st s1 r1 t1 => ?_
  refine low_bind s1 t1 fun i iv G2 H2 st2 s2 r2 t2 => ?_
  exact ⟨S, G2, o, i, x', _, s2.at_, r1.mono st2.toStay, r2, r.mono (st.trans st2).toStay, t2, fun G3 H3 st3 a3 q => k _ _ G3 H3 ((st.trans st2).trans st3) a3 (s.sl.mono ((st.trans st2).trans st3).toStay) Out.refl q⟩
def iAny (K : PySem.W.Frag) (tl : TE) : TI := fun σ H R => tl σ H fun x H1 => (∃ a, x = .ref a ∧ (∃ xs, SqL K H1 a xs) ∧ R (Itl K a) H1) ∨ (∃ a, x = .ref a ∧ (∃ xs, SqT K H1 a xs) ∧ R (Itt K a) H1) ∨ ∃ z, x = .str z ∧ R (Its z) H1
theorem pi_any {l : Expr} {tl : TE} (hl : PE X l tl) : PI X tg l (iAny X.K tl) := by
  refine ⟨fun pins s σ H R I h => ?_⟩
  refine thn (hl.run pins s σ H _ I h) fun v s1 ⟨x, H1, I1, r1, q1⟩ => ?_
  have fpk : ∀ b ∈ [s1.heap.objs.size], FpOk X pins H1 b := fun b hb => by
    have e : b = s1.heap.objs.size := by simpa using hb
    subst e
    exact I1.fpOk (Nat.le_refl _) (I1.hok.fresh (Nat.le_refl _))
  rcases q1 with ⟨a, e, ⟨xs, hq⟩, q⟩ | ⟨a, e, ⟨xs, hq⟩, q⟩ | ⟨z, ez, q⟩
  · subst e
    cases r1
    obtain ⟨its, rv, p, hz⟩ := I1.list hq
    exact wpAny_pyIter_list p.isList ⟨s1.heap.objs.size, [s1.heap.objs.size], _, _, H1, rfl, I1.kept (t' := s1.toks) fun b o e => Heap.get?_push_of_some _ e, turn_list a _, ⟨_, Heap.get?_push_size _ rfl, rfl, rfl⟩, fpk, q⟩
  · subst e
    cases r1
    obtain ⟨its, rv, p, hz⟩ := I1.tuple hq
    exact wpAny_pyIter_tuple (show s1.heap.IsTuple a its.toArray from p) ⟨s1.heap.objs.size, [s1.heap.objs.size], _, _, H1, rfl, I1.kept (t' := s1.toks) fun b o e => Heap.get?_push_of_some _ e, turn_tuple a _, ⟨_, Heap.get?_push_size _ rfl, rfl, rfl⟩, fpk, q⟩
  · subst ez
    obtain ⟨t, rfl⟩ := r1
    cases ha : z.cps.all (· < 128)
    · exact wpAny_pyIter_wide ha (pi_one (tk := s1.toks) I1 _ (turn_str _ z t "str_iterator" (.inr rfl)) ⟨_, Heap.get?_push_size _ rfl, rfl, rfl⟩ q)
    · exact wpAny_pyIter_ascii ha (pi_one (tk := s1.toks) I1 _ (turn_str _ z t "str_ascii_iterator" (.inl rfl)) ⟨_, Heap.get?_push_size _ rfl, rfl, rfl⟩ q)
end
end Fv
namespace Fv
open PySem PySem.Spec PySem.Calls PyProof.Rows L2
theorem unpack_star {prog : Program} {w : World} {A : Around} {E : Value → Shared → Prop} {s : Shared} {t : Addr} {items : List Value} {Q : List Value → Shared → Prop} (hh : A.handled = none) (ht : IsTup s.heap t items.toArray) {x : Value} {rest : List Value} (hx : items = x :: rest) (hz : items.length ≤ sizeLine)
    (h : ∀ (h' : Heap) (tk : Nat), (∀ b u, s.heap.get? b = some u → h'.get? b = some u) → Q [x, .ref h'.objs.size] { s with heap := h'.push { cls := .type "list", data := .seq rest.toArray }, toks := tk }) : wpAny (model prog w) A (unpackItems (.ref t) 2 (some 1)) Q E s := by
  have hlt : t ≠ s.heap.objs.size := by obtain ⟨o, ho, _⟩ := ht; exact Nat.ne_of_lt (Heap.lt_size ho)
  have hsz : items.toArray.size = rest.length + 1 := by rw [hx]; simp
  unfold unpackItems
  refine wpAny_bind ?_
  unfold notIterableAtAll
  refine wpAny_bind (wpAny_specialOf ht.typeIs slot_tuple_iter.lookup ?_)
  refine wpAny_pure ?_
  simp only [Bool.false_eq_true, if_false]
  refine wpAny_bind (wpAny_holding (iter_tuple ht ?_))
  refine wpAny_bind (wpAny_holding (draw_tuple hlt 1 0 _ _ ⟨_, Heap.get?_push_size _ rfl, rfl, rfl⟩ (ht.push _) (by omega) fun h₁ hit₁ hs₁ => ?_))
  have ht₁ : IsTup h₁ t items.toArray := (ht.push _).extBut hs₁.extBut hlt
  rw [Nat.zero_add] at hit₁
  have hit₁' := hit₁
  obtain ⟨oi, hoi, _⟩ := hit₁'
  have ht₁' := ht₁
  obtain ⟨ol, hol, _⟩ := ht₁'
  have e1 : (items.toArray.toList.drop 0).take 1 = [x] := by rw [hx]; simp
  have e2 : items.toArray.toList.drop 1 = rest := by rw [hx]; simp
  rw [e1]
  rw [if_neg (by simp)]
  refine wpAny_bind (wpAny_holding (PySem.W.kun_collect (s := { s with heap := h₁ }) (T := "tuple_iterator") (.inr (.inr (.inr rfl))) (Walks.tuple (A := A.in1) hh s.heap.objs.size t hlt items.toArray) (fun j u st => st.1.typeIs) (k := 1) (by omega) ⟨hit₁, ht₁⟩ (Heap.lt_size hoi) (Heap.lt_size hol) (fun h₂ tk hk => ?_) (by simpa using hz)))
  rw [e2]
  show wpAny _ _ (if rest.length < 2 - 1 - 1 then _ else _) _ _ _
  rw [if_neg (by omega)]
  show wpAny _ _ (newList (rest.take (rest.length - (2 - 1 - 1))) >>= fun d => pure ([x] ++ [d] ++ rest.drop (rest.length - (2 - 1 - 1)))) _ _ _
  have e3 : rest.take (rest.length - (2 - 1 - 1)) = rest := by simp
  have e4 : rest.drop (rest.length - (2 - 1 - 1)) = [] := by simp
  rw [e3, e4]
  refine wpAny_bind (wpAny_newList (wpAny_pure ?_) (by rw [hx] at hz; simp at hz; omega))
  exact h h₂ tk fun b u e => by
    have hb : b ≠ s.heap.objs.size := Nat.ne_of_lt (Heap.lt_size e)
    exact hk b u hb (hs₁.extBut b u hb (Heap.get?_push_of_some _ e))
theorem unpack_starL {prog : Program} {w : World} {A : Around} {E : Value → Shared → Prop} {s : Shared} {t : Addr} {items : List Value} {Q : List Value → Shared → Prop} (hh : A.handled = none) (ht : s.heap.IsList t items.toArray) {x : Value} {rest : List Value} (hx : items = x :: rest) (hz : items.length ≤ sizeLine)
    (h : ∀ (h' : Heap) (tk : Nat), (∀ b u, s.heap.get? b = some u → h'.get? b = some u) → Q [x, .ref h'.objs.size] { s with heap := h'.push { cls := .type "list", data := .seq rest.toArray }, toks := tk }) : wpAny (model prog w) A (unpackItems (.ref t) 2 (some 1)) Q E s := by
  have hlt : t ≠ s.heap.objs.size := by obtain ⟨o, ho, _⟩ := ht; exact Nat.ne_of_lt (Heap.lt_size ho)
  have hsz : items.toArray.size = rest.length + 1 := by rw [hx]; simp
  unfold unpackItems
  refine wpAny_bind ?_
  unfold notIterableAtAll
  refine wpAny_bind (wpAny_specialOf ht.typeIs slot_list_iter.lookup ?_)
  refine wpAny_pure ?_
  simp only [Bool.false_eq_true, if_false]
  refine wpAny_bind (wpAny_holding (wpAny_pyIter_list ht ?_))
  refine wpAny_bind (wpAny_holding (PySem.W.kun_draw hlt 1 0 _ _ ⟨_, Heap.get?_push_size _ rfl, rfl, rfl⟩ (ht.push _) (by omega) fun h₁ hit₁ hs₁ => ?_))
  have ht₁ : h₁.IsList t items.toArray := (ht.push _).extBut hs₁.extBut hlt
  rw [Nat.zero_add] at hit₁
  have hit₁' := hit₁
  obtain ⟨oi, hoi, _⟩ := hit₁'
  have ht₁' := ht₁
  obtain ⟨ol, hol, _⟩ := ht₁'
  have e1 : (items.toArray.toList.drop 0).take 1 = [x] := by rw [hx]; simp
  have e2 : items.toArray.toList.drop 1 = rest := by rw [hx]; simp
  rw [e1]
  rw [if_neg (by simp)]
  refine wpAny_bind (wpAny_holding (PySem.W.kun_collect (s := { s with heap := h₁ }) (T := "list_iterator") (.inr (.inr (.inl rfl))) (Walks.list (A := A.in1) hh s.heap.objs.size t hlt items.toArray) (fun j u st => st.1.typeIs) (k := 1) (by omega) ⟨hit₁, ht₁⟩ (Heap.lt_size hoi) (Heap.lt_size hol) (fun h₂ tk hk => ?_) (by simpa using hz)))
  rw [e2]
  show wpAny _ _ (if rest.length < 2 - 1 - 1 then _ else _) _ _ _
  rw [if_neg (by omega)]
  show wpAny _ _ (newList (rest.take (rest.length - (2 - 1 - 1))) >>= fun d => pure ([x] ++ [d] ++ rest.drop (rest.length - (2 - 1 - 1)))) _ _ _
  have e3 : rest.take (rest.length - (2 - 1 - 1)) = rest := by simp
  have e4 : rest.drop (rest.length - (2 - 1 - 1)) = [] := by simp
  rw [e3, e4]
  refine wpAny_bind (wpAny_newList (wpAny_pure ?_) (by rw [hx] at hz; simp at hz; omega))
  exact h h₂ tk fun b u e => by
    have hb : b ≠ s.heap.objs.size := Nat.ne_of_lt (Heap.lt_size e)
    exact hk b u hb (hs₁.extBut b u hb (Heap.get?_push_of_some _ e))
theorem asg_one {t : Expr} {r : List Expr} {env : Env} (h : noStarE t = true) : assignEach (t :: r) env = (false, assign t env) :: assignEach r env := by
  cases t <;> first | rfl | (exact absurd h (by intro z; cases z))
theorem asg_two {t1 t2 : Expr} {sp : Pos} {env : Env} (h1 : noStarE t1 = true) (h2 : noStarE t2 = true) : (assignEach [t1, .Starred t2 sp] env) = [(false, assign t1 env), (true, assign t2 env)] ∧ (assignEach [t1, t2] env) = [(false, assign t1 env), (false, assign t2 env)] := by
  constructor
  · rw [asg_one h1]; rfl
  · rw [asg_one h1, asg_one h2]; rfl
section
variable {X : Cx} {W : WX}
theorem pg_headP {t1 t2 : Expr} {sp pos : Pos} {k : Nat} {sl : List Nat} {tt} (hc : X.calm = true) (h : PGs X [t1, t2] (lowGs X.K X.w W sl tt)) (h1 : noStarE t1 = true) (h2 : noStarE t2 = true) :
    PG X (.Tuple [t1, .Starred t2 sp] k pos) (lowG X.K X.w W sl fun v σ G Q W => match v with
      | .tup (x :: xs) => ∀ p, G p = none → tt [x, .ref p] σ (pu G p (.lst xs)) Q W
      | .ref a => match G a with
        | some (.lst (x :: xs)) => ∀ p, G p = none → tt [x, .ref p] σ (pu G p (.lst xs)) Q W
        | _ => False
      | _ => False) := by
  refine ⟨fun pins s σ H v u Q I r hw => ?_⟩
  obtain ⟨S, σ', G, W', x', N', si, rx, t, k⟩ := hw
  split at t <;> first | exact t.elim | skip
  · rename_i x xs
    obtain ⟨q, vs, rfl, hq, l⟩ := rx
    obtain rfl : u = Value.ref q := r
    obtain ⟨its, rv, ht, hz⟩ := I.tuple hq
    obtain ⟨v1, vr, rfl, rl, rr⟩ := l
    cases rv with
    | cons r1 rs =>
      rename_i u1 us
      obtain ⟨ea, eb⟩ := asg_two (sp := sp) (env := X.env) h1 h2
      rw [assign_Tuple]
      refine wpAny_bind (wpAny_standAt ?_)
      unfold unpack
      rw [ea]
      refine wpAny_bind (wpAny_holding (unpack_star (I.ok.hd hc) ht rfl (by have := rs.length; simp at hz ⊢; omega) fun h' tk hk => ?_))
      have I1 : Inv X pins σ H { s with heap := h', toks := tk } := I.kept hk
      have hn : H h'.objs.size = none := I1.hok.fresh (Nat.le_refl _)
      have hlen : vr.length ≤ sizeLine := by
        have := rs.length
        simp at hz
        omega
      have I2 : Inv X pins σ (upd H h'.objs.size (.lst vr)) { s with heap := h'.push { cls := .type "list", data := .seq us.toArray }, toks := tk } :=
        I1.laid (t' := tk) (fun b o e => Heap.get?_push_of_some _ e) (Nat.le_refl _) ⟨hlen, us, 0, rs, Heap.get?_push_size _ rfl⟩
      have st : Step S H (upd H h'.objs.size (.lst vr)) := si.at_.step_new hn
      have a2 : At X.K X.w S (pu G h'.objs.size (.lst xs)) (upd H h'.objs.size (.lst vr)) := si.at_.new (u := .lst xs) hn ⟨vr, upd_same, rr.mono st.toStay⟩
      have key := h.run pins _ σ _ [v1, .ref h'.objs.size] [u1, .ref h'.objs.size] Q I2 (.cons r1 (.cons rfl .nil))
        ⟨S, σ', pu G h'.objs.size (.lst xs), W', [x, .ref h'.objs.size], N', si.next st a2, ⟨v1, _, rfl, rl.mono st.toStay, ⟨.ref _, _, rfl, rfl, rfl⟩⟩, t _ (si.at_.free hn), fun τ' τ G1 H1 st1 a1 r1 o q => k τ' τ G1 H1 (st.trans st1) a1 r1 o q⟩
      rw [eb] at key
      exact key
  · rename_i q
    split at t <;> first | exact t.elim | skip
    rename_i x xs e1
    cases rx
    obtain rfl : u = Value.ref q := r
    obtain ⟨vs, h1q, l⟩ := ref_lst si.at_ e1
    obtain ⟨its, rv, htl, hz⟩ := I.list (SqL.of h1q)
    have ht := htl.isList
    obtain ⟨v1, vr, rfl, rl, rr⟩ := l
    cases rv with
    | cons r1 rs =>
      rename_i u1 us
      obtain ⟨ea, eb⟩ := asg_two (sp := sp) (env := X.env) h1 h2
      rw [assign_Tuple]
      refine wpAny_bind (wpAny_standAt ?_)
      unfold unpack
      rw [ea]
      refine wpAny_bind (wpAny_holding (unpack_starL (I.ok.hd hc) ht rfl (by have := rs.length; simp at hz ⊢; omega) fun h' tk hk => ?_))
      have I1 : Inv X pins σ H { s with heap := h', toks := tk } := I.kept hk
      have hn : H h'.objs.size = none := I1.hok.fresh (Nat.le_refl _)
      have hlen : vr.length ≤ sizeLine := by
        have := rs.length
        simp at hz
        omega
      have I2 : Inv X pins σ (upd H h'.objs.size (.lst vr)) { s with heap := h'.push { cls := .type "list", data := .seq us.toArray }, toks := tk } :=
        I1.laid (t' := tk) (fun b o e => Heap.get?_push_of_some _ e) (Nat.le_refl _) ⟨hlen, us, 0, rs, Heap.get?_push_size _ rfl⟩
      have st : Step S H (upd H h'.objs.size (.lst vr)) := si.at_.step_new hn
      have a2 : At X.K X.w S (pu G h'.objs.size (.lst xs)) (upd H h'.objs.size (.lst vr)) := si.at_.new (u := .lst xs) hn ⟨vr, upd_same, rr.mono st.toStay⟩
      have key := h.run pins _ σ _ [v1, .ref h'.objs.size] [u1, .ref h'.objs.size] Q I2 (.cons r1 (.cons rfl .nil))
        ⟨S, σ', pu G h'.objs.size (.lst xs), W', [x, .ref h'.objs.size], N', si.next st a2, ⟨v1, _, rfl, rl.mono st.toStay, ⟨.ref _, _, rfl, rfl, rfl⟩⟩, t _ (si.at_.free hn), fun τ' τ G1 H1 st1 a1 r1 o q => k τ' τ G1 H1 (st.trans st1) a1 r1 o q⟩
      rw [eb] at key
      exact key
end
end Fv

set_option Elab.async false
set_option linter.all false
set_option maxRecDepth 100000
set_option maxHeartbeats 1000000
namespace Fv
open PySem L2
section
variable {K : PySem.W.Frag} {w : World}
theorem ok_tup {H0 : Hp} {a : Addr} {xs : List PV} {vs : List V} (h : SqT K H0 a vs) (l : RepL K w H0 xs vs) : ItOk K w H0 (Itt K a) xs [] := by
  intro S G H st at_ _ i
  have h' := st.sqT h
  have l' := l.mono st
  refine ⟨fun hi => ⟨?_, ?_⟩, fun hi => ⟨vs, h', by rw [← l.length]; exact Nat.le_of_eq hi⟩⟩
  · have hv : i < vs.length := by rw [← l.length]; exact hi
    exact ⟨vs, vs[i], h', by simp [hv]⟩
  · rintro x H' ⟨e, k⟩
    rw [e]
    obtain ⟨v, h1, h2⟩ := l'.get (i := i) (x := xs[i]) (by simp [hi])
    rw [k vs h'] at h1
    cases h1
    exact ⟨xs[i], by simp [hi], Step.refl, at_, h2⟩
theorem ok_sq {H0 : Hp} {a : Addr} {xs : List PV} {kp : Keep} (h : ∀ S G H, Stay H0 H → At K w S G H → Kept kp G → ∃ vs, SqL K H a vs ∧ RepL K w H xs vs) : ItOk K w H0 (Itl K a) xs kp := by
  intro S G H st at_ kk i
  obtain ⟨vs, h', l'⟩ := h S G H st at_ kk
  refine ⟨fun hi => ⟨?_, ?_⟩, fun hi => ⟨vs, h', by rw [← l'.length]; exact Nat.le_of_eq hi⟩⟩
  · have hv : i < vs.length := by rw [← l'.length]; exact hi
    exact ⟨vs, vs[i], h', by simp [hv]⟩
  · rintro x H' ⟨e, k⟩
    rw [e]
    obtain ⟨v, h1, h2⟩ := l'.get (i := i) (x := xs[i]) (by simp [hi])
    rw [k vs h'] at h1
    cases h1
    exact ⟨xs[i], by simp [hi], Step.refl, at_, h2⟩
theorem rangeP_len (lo : Int) (n : Nat) : (rangeP lo n).length = n := by simp [rangeP]
theorem rangeP_get {lo : Int} {n i : Nat} (h : i < n) : (rangeP lo n)[i]? = some (.int (lo + i)) := by simp [rangeP, h]
theorem ok_rng {H0 : Hp} {lo : Int} {n : Nat} : ItOk K w H0 (Itr lo n) (rangeP lo n) [] := by
  intro S G H st at_ _ i
  rw [rangeP_len]
  refine ⟨fun hi => ⟨hi, ?_⟩, fun hi => Nat.le_of_eq hi⟩
  rintro x H' ⟨e, rfl⟩
  rw [e]
  exact ⟨.int (lo + i), rangeP_get hi, Step.refl, at_, rfl⟩
end
section
variable {X : Cx} {W : WX} {a b c e tg : Expr} {p pos : Pos} {ta tb tc : TPE} {es : List Expr} {t : TPA}
def wGen (ta : TPE) : TPI := fun σ G R W => ta σ G (fun x G1 => match x with
      | .tup xs => R xs [] G1
      | .wl xs => R xs [] G1
      | .str z => R (signsP z) [] G1
      | .ref a => match G1 a with
        | some (.lst xs) => R xs [(a, .lst xs)] G1
        | _ => False
      | _ => False) W
theorem signsP_get {z : Str} {i : Nat} : (signsP z)[i]? = (z.cps[i]?).map fun c => PV.str ⟨#[c]⟩ := by
  unfold signsP; rw [List.getElem?_map]; simp
theorem ok_str {K : PySem.W.Frag} {w : World} {H0 : Hp} {z : Str} : ItOk K w H0 (Its z) (signsP z) [] := by
  intro S G H st at_ _ i
  have hl : (signsP z).length = z.cps.size := by simp [signsP]
  rw [hl]
  refine ⟨fun hi => ⟨hi, ?_⟩, fun hi => Nat.le_of_eq hi⟩
  rintro x H' ⟨e, c, hc, rfl⟩
  rw [e]
  exact ⟨.str ⟨#[c]⟩, by rw [signsP_get, hc]; rfl, Step.refl, at_, rfl⟩
theorem pi_genP (h : PE X e (low X.K X.w W ta)) : PI X tg e (lowI X.K X.w W (wGen ta)) := by
  refine imp_i (pi_any h) ?_
  rintro σ H R ⟨S, σ', G, W', Q', s, t, k⟩
  refine low_bind s t fun x v G1 H1 st s1 r1 t1 => ?_
  cases x <;> first | exact (show False from t1).elim | skip
  · rename_i z
    cases r1
    exact .inr (.inr ⟨z, rfl, k _ [] G1 H1 _ st s1.at_ ok_str t1⟩)
  · rename_i p
    cases r1
    dsimp only at t1
    split at t1
    · rename_i xs e1
      obtain ⟨vs, h1, l⟩ := ref_lst s1.at_ e1
      refine .inl ⟨p, rfl, ⟨vs, SqL.of h1⟩, k xs _ G1 H1 _ st s1.at_ (ok_sq fun S2 G2 H2 st2 a2 kk => ?_) t1⟩
      obtain ⟨us, h2, l2⟩ := ref_lst a2 (kk _ (List.mem_singleton.mpr rfl))
      exact ⟨us, SqL.of h2, l2⟩
    · exact t1.elim
  · rename_i xs
    obtain ⟨q, vs, rfl, hq, l⟩ := r1
    exact .inr (.inl ⟨q, rfl, ⟨vs, hq⟩, k xs [] G1 H1 _ st s1.at_ (ok_tup hq l) t1⟩)
  · rename_i xs
    obtain ⟨q, vs, rfl, hq, l⟩ := r1
    exact .inl ⟨q, rfl, ⟨vs, hq.sq⟩, k xs [] G1 H1 _ st s1.at_ (ok_sq fun S2 G2 H2 st2 a2 _ => ⟨vs, (st2.fz hq).sq, l.mono st2⟩) t1⟩
theorem pi_rngP1 (hg : Gl X "range") (hm : X.mg "range" = none) (ha : PE X a (low X.K X.w W ta)) (hs : noStarE a = true) : PI X tg (.Call (.Name "range" p) [a] [] pos) (lowI X.K X.w W fun σ G R W => ta σ G (fun x G1 => match x with
      | .int j => -(2 ^ 62) ≤ j ∧ j < 2 ^ 62 ∧ R (rangeP 0 j.toNat) [] G1
      | _ => False) W) := by
  refine imp_i (pi_range1 hg hm (pa_cons ha pa_nil (no_star a [] X.env hs)) (no_star a [] X.env hs)) ?_
  rintro σ H R ⟨S, σ', G, W', Q', s, t, k⟩
  refine low_bind s t fun x v G1 H1 st s1 r1 t1 => ?_
  cases x <;> first | exact (show False from t1).elim | skip
  cases r1
  exact ⟨_, rfl, t1.1, t1.2.1, k _ _ G1 H1 _ st s1.at_ ok_rng t1.2.2⟩
theorem pi_rngP2 (hg : Gl X "range") (hm : X.mg "range" = none) (ha : PE X a (low X.K X.w W ta)) (hb : PE X b (low X.K X.w W tb)) (hs : noStarE a = true) (hs2 : noStarE b = true) : PI X tg (.Call (.Name "range" p) [a, b] [] pos) (lowI X.K X.w W fun σ G R W => ta σ G (fun x G1 => tb σ G1 (fun y G2 => match x, y with
      | .int i, .int j => (-(2 ^ 62) ≤ i ∧ i < 2 ^ 62 ∧ -(2 ^ 62) ≤ j ∧ j < 2 ^ 62) ∧ R (rangeP i (j - i).toNat) [] G2
      | _, _ => False) W) W) := by
  refine imp_i (pi_range2 hg hm (pa_cons ha (pa_cons hb pa_nil (no_star b [] X.env hs2)) (no_star a [b] X.env hs)) (by rw [no_star a [b] X.env hs, no_star b [] X.env hs2]; rfl) (no_star b [] X.env hs2)) ?_
  rintro σ H R ⟨S, σ', G, W', Q', s, t, k⟩
  refine low_bind s t fun x v G1 H1 st s1 r1 t1 => ?_
  refine low_bind s1 t1 fun y u G2 H2 st2 s2 r2 t2 => ?_
  cases x <;> first | exact (show False from t2).elim | skip
  cases y <;> first | exact (show False from t2).elim | skip
  cases r1
  cases r2
  exact ⟨_, _, rfl, t2.1, k _ _ G2 H2 _ (st.trans st2) s2.at_ ok_rng t2.2⟩
theorem wipe_in {σ : St} {j : Nat} : ∀ {vs : List Nat}, j ∈ vs → j < σ.length → (wipe σ vs)[j]? = some none
  | [], h, _ => by simp at h
  | v :: vs, h, hl => by
    unfold wipe
    by_cases e : v = j
    · subst e
      rw [List.getElem?_set_self (by rw [wipe_length]; exact hl)]
    · rw [List.getElem?_set_ne e]
      exact wipe_in (by rcases List.mem_cons.mp h with h | h; exact absurd h.symm e; exact h) hl
theorem wipe_out' {σ : St} {i : Nat} : ∀ {vs : List Nat}, i ∉ vs → (wipe σ vs)[i]? = σ[i]?
  | [], _ => rfl
  | v :: vs, h => by
    have h1 : v ≠ i := fun e => h (by rw [e]; exact List.mem_cons_self)
    unfold wipe
    rw [List.getElem?_set_ne h1]
    exact wipe_out' fun m => h (List.mem_cons_of_mem _ m)
theorem wipe_same {σ τ : St} {vs sl : List Nat} (o : Out sl (wipe σ vs) τ) (h : ∀ j ∈ sl, j ∈ vs) : wipe τ vs = wipe σ vs := by
  have hl : τ.length = σ.length := by rw [o.1, wipe_length]
  apply List.ext_getElem?
  intro j
  by_cases hj : j ∈ vs
  · by_cases h2 : j < σ.length
    · rw [wipe_in hj h2, wipe_in hj (by rw [hl]; exact h2)]
    · rw [List.getElem?_eq_none (by rw [wipe_length]; omega), List.getElem?_eq_none (by rw [wipe_length]; omega)]
  · rw [wipe_out' hj, o.2 j fun z => hj (h j z), wipe_out' hj]
theorem wipe_rep {K : PySem.W.Frag} {w : World} {H : Hp} {σ' : PSt} {σ : St} (r : RepS K w H σ' σ) : ∀ vs : List Nat, RepS K w H (wipeP σ' vs) (wipe σ vs)
  | [] => r
  | v :: vs => by
    have ih := wipe_rep r vs
    unfold wipeP wipe
    refine ⟨by simp [ih.1], fun j x e => ?_⟩
    by_cases hj : v = j
    · subst hj
      by_cases h2 : v < (wipeP σ' vs).length
      · rw [List.getElem?_set_self h2] at e; cases e
      · rw [List.getElem?_eq_none (by simpa using h2)] at e; cases e
    · rw [List.getElem?_set_ne hj] at e ⊢
      exact ih.2 j x e
theorem stayH {K : PySem.W.Frag} {S : Addr → Prop} {H H1 : Hp} (s : Step S H H1) : Stay H H1 := s.toStay
/-- hiding one more object -/
theorem At.hide {K : PySem.W.Frag} {w : World} {S : Addr → Prop} {G : PH} {H : Hp} (a : At K w S G H) {D : Addr} {o : HO} (h : H D = none) : At K w (fun b => S b ∨ b = D) G (upd H D o) := by
  have a1 := a.silent (o := o) h
  refine ⟨fun b hb => ?_, a1.ob⟩
  rcases hb with hb | rfl
  · exact a1.hid b hb
  · exact ⟨a.free h, by rw [upd_same]; simp⟩
theorem At.show {K : PySem.W.Frag} {w : World} {S : Addr → Prop} {G : PH} {H : Hp} {D : Addr} (a : At K w (fun b => S b ∨ b = D) G H) (hD : ¬ S D) {o : PO} (r : RepO K w H D o) : At K w S (pu G D o) H := by
  refine ⟨fun b hb => ?_, fun b u e => ?_⟩
  · have hne : b ≠ D := by rintro rfl; exact hD hb
    rw [pu_ne hne]
    exact a.hid b (.inl hb)
  · by_cases hb : b = D
    · subst hb; rw [pu_same] at e; cases e; exact r
    · rw [pu_ne hb] at e; exact a.ob b u e
theorem low_lc {W : WX} {wi : TPI} {g : TPG} {sl : List Nat} {tt : TPT} {te : TPE} {vs : List Nat} (hsl : ∀ j ∈ sl, j ∈ vs) :
    ∀ σ H Q, low X.K X.w W (fun σ G Q W => wi σ G (fun xs kp G1 => lcL kp g tt te (wipeP σ vs) xs [] G1 fun acc G2 => ∀ D, G2 D = none → Q (.ref D) (pu G2 D (.lst acc))) W) σ H Q →
      tLc (lowI X.K X.w W wi) (lowG X.K X.w (fun _ _ _ _ => False) sl g) (lowT X.K X.w (fun _ _ _ _ => False) tt) (low X.K X.w (fun _ _ _ _ => False) te) vs σ H Q := by
  rintro σ H Q ⟨S, σ', G, W', Q', s, t, bk⟩
  refine ⟨S, σ', G, W', _, s, t, fun xs kp G1 H1 J st1 a1 ok q => ?_⟩
  intro D hD
  have hS : ¬ S D := fun z => (a1.hid D z).2 hD
  have stD : Step (fun b => S b) H1 (upd H1 D (.lst [])) := a1.step_new hD
  refine ⟨fun i m Hx => m = xs.length - i ∧ i ≤ xs.length ∧ ∃ Gx acc accV, Step S H1 Hx ∧ At X.K X.w (fun b => S b ∨ b = D) Gx Hx ∧ Hx D = some (.lst accV) ∧ RepL X.K X.w Hx acc accV ∧
      lcL kp g tt te (wipeP σ' vs) (xs.drop i) acc Gx fun acc G2 => ∀ D, G2 D = none → Q' (.ref D) (pu G2 D (.lst acc)),
    ⟨xs.length, by simp, Nat.zero_le _, G1, [], [], stD, a1.hide hD, upd_same, rfl, q⟩, ?_⟩
  rintro i m Hx ⟨rfl, hi, Gx, acc, accV, stx, ax, eD, lD, qx⟩
  have si : ∀ {σ2' σ2 G2 H2}, At X.K X.w (fun b => S b ∨ b = D) G2 H2 → RepS X.K X.w H2 σ2' σ2 → Si X.K X.w (fun _ _ _ _ => False) (fun b => S b ∨ b = D) σ2' σ2 G2 H2 noX := fun a2 r2 => ⟨a2, r2, fun _ _ _ _ _ _ _ _ _ _ _ z => z⟩
  by_cases hlt : i < xs.length
  · have ed : xs.drop i = xs[i] :: xs.drop (i + 1) := List.drop_eq_getElem_cons hlt
    rw [ed] at qx
    obtain ⟨kk, qx⟩ := qx
    obtain ⟨go, yl⟩ := (ok _ Gx Hx stx.toStay ax kk i).1 hlt
    refine .inr ⟨go, fun H' => ∃ G' acc accV, Step S H1 H' ∧ At X.K X.w (fun b => S b ∨ b = D) G' H' ∧ H' D = some (.lst accV) ∧ RepL X.K X.w H' acc accV ∧
      lcL kp g tt te (wipeP σ' vs) (xs.drop (i + 1)) acc G' fun acc G2 => ∀ D, G2 D = none → Q' (.ref D) (pu G2 D (.lst acc)), fun H' h => ⟨xs.length - (i + 1), by omega, rfl, hlt, h⟩, fun x H' hy => ?_⟩
    obtain ⟨y, ey, sty, ay, ry⟩ := yl x H' hy
    have : y = xs[i] := by rw [List.getElem?_eq_getElem hlt] at ey; exact (Option.some.inj ey).symm
    subst this
    have eD1 : H' D = some (.lst accV) := (sty.hid D (.inr rfl)).trans eD
    have wS : ∀ {A B : Hp}, Step (fun b => S b ∨ b = D) A B → Step S A B := fun z => ⟨z.toStay, fun b hb => z.hid b (.inl hb)⟩
    refine ⟨_, wipeP σ' vs, Gx, noX, _, _, si ay (wipe_rep (s.sl.mono ((st1.trans (stx.trans (wS sty))).toStay)) vs), ry, qx, fun τ' τ G2 H2 st2 a2 r2 o2 q2 => ⟨wipe_same o2 hsl, ?_⟩⟩
    refine ⟨_, τ', G2, noX, _, si a2 r2, q2, fun b G3 H3 st3 a3 q3 => ?_⟩
    have stz := wS (sty.trans (st2.trans st3))
    have eD3 : H3 D = some (.lst accV) := ((st2.trans st3).hid D (.inr rfl)).trans eD1
    cases b with
    | false =>
      rw [if_neg Bool.false_ne_true] at q3
      refine L2.iteF ?_
      exact ⟨G3, acc, accV, stx.trans stz, a3, eD3, lD.mono stz.toStay, q3⟩
    | true =>
      rw [if_pos rfl] at q3
      refine L2.iteT ?_
      refine ⟨_, τ', G3, noX, _, si a3 (r2.mono st3.toStay), q3, fun y v G4 H4 st4 a4 r4 q4 => ?_⟩
      have eD4 : H4 D = some (.lst accV) := (st4.hid D (.inr rfl)).trans eD3
      have st5 : Step S H4 (upd H4 D (.lst (accV ++ [v]))) := Step.put eD4 trivial hS
      have l4 := lD.mono (stz.trans (wS st4)).toStay
      refine ⟨accV, eD4, by rw [← lD.length]; exact q4.1, G4, acc ++ [y], accV ++ [v], stx.trans (stz.trans ((wS st4).trans st5)), ?_, upd_same, (l4.app (RepL.one r4)).mono st5.toStay, q4.2⟩
      refine ⟨fun b hb => ⟨(a4.hid b hb).1, ?_⟩, fun b u e => ?_⟩
      · by_cases hb2 : b = D
        · subst hb2; rw [upd_same]; simp
        · rw [upd_ne hb2]; exact (a4.hid b hb).2
      · have hb2 : b ≠ D := by rintro rfl; rw [(a4.hid _ (.inr rfl)).1] at e; cases e
        exact (a4.ob b u e).mono st5.toStay (upd_ne hb2)
  · have e : i = xs.length := by omega
    subst e
    rw [List.drop_length] at qx
    obtain ⟨kk, qx⟩ := qx
    refine .inl ⟨(ok _ Gx Hx stx.toStay ax kk _).2 rfl, ?_⟩
    exact bk (.ref D) _ _ _ (st1.trans stx) (ax.show hS (o := .lst acc) ⟨accV, eD, lD⟩) rfl (qx D (ax.hid D (.inr rfl)).1)
end
end Fv
namespace Fv
open PySem L2
def plainBase (o : Expr) : Bool := match o with
  | .Call (.Name _ _) [] [] _ => false
  | _ => true
theorem base_ok {o : Expr} {f : Str} {env : Env} {w : Sem Value} (h : plainBase o = true) : attributeBase o f env w = w := by
  unfold attributeBase
  split
  · rename_i id p pos; cases h
  · rfl
theorem ev_meth {o : Expr} {name : Str} {args : List Expr} {kws : List Keyword} {apos pos : Pos} {env : Env} (hb : plainBase o = true) (hl : (apos.endLine == pos.line) = true)
    (hf : methodCallForm (args.length + kws.length) (backTo pos (starEach args env)) (backToKw pos (keywordEach kws env)) = true) :
    eval (.Call (.Attribute o name apos) args kws pos) env = (do
      let ov ← eval o env
      standAt apos.atName
      let (f, first) ← holding [ov] (getMethod ov name (do return (← importBound o env).getD true))
      callWith pos f first (backTo pos (starEach args env)) (backToKw pos (keywordEach kws env))) := by
  rw [PySem.arm_eval_Call, base_ok hb]
  unfold methodCall calleeOf methodCallPos
  simp only [hf, hl, Bool.not_true, Bool.false_or, if_true]
  rfl
theorem all_not {α : Type} : ∀ {l : List (Bool × α)}, l.any (·.1) = false → l.all (fun x => !x.1) = true
  | [], _ => rfl
  | x :: xs, h => by
    rw [List.any_cons, Bool.or_eq_false_iff] at h
    rw [List.all_cons, h.1, all_not h.2]; rfl
theorem form_ok {args : List Expr} {kws : List Keyword} {pos : Pos} {env : Env} (hp : args.all noStarE = true) (hn : (kws.all fun k => k.arg.isSome) = true) (hl : args.length + kws.length < 29) :
    methodCallForm (args.length + kws.length) (backTo pos (starEach args env)) (backToKw pos (keywordEach kws env)) = true := by
  unfold methodCallForm
  rw [all_not (plain_args args env pos hp), (kw_all (pos := pos) (env := env) kws hn).1]
  simp only [Bool.true_and, decide_eq_true_eq]
  split <;> omega
section
variable {K : PySem.W.Frag} {w : World} {H : Hp}
theorem flds_get : ∀ {fs : List (Str × PV)} {vs : List (Str × V)}, Paired (fun (p : Str × PV) (q : Str × V) => p.1 = q.1 ∧ RepV K w H p.2 q.2) fs vs → ∀ f, (fs.lookup f = none ∧ vs.lookup f = none) ∨ ∃ x v, fs.lookup f = some x ∧ vs.lookup f = some v ∧ RepV K w H x v
  | _, _, .nil, f => .inl ⟨rfl, rfl⟩
  | (g, x) :: fs, (g2, v) :: vs, .cons ⟨e, r⟩ t, f => by
    simp only at e r
    subst e
    rw [List.lookup_cons, List.lookup_cons]
    cases f == g with
    | true => exact .inr ⟨x, v, rfl, rfl, r⟩
    | false => exact flds_get t f
theorem flds_put {x : PV} {v : V} (r : RepV K w H x v) (f : Str) : ∀ {fs : List (Str × PV)} {vs : List (Str × V)}, Paired (fun (p : Str × PV) (q : Str × V) => p.1 = q.1 ∧ RepV K w H p.2 q.2) fs vs →
    Paired (fun (p : Str × PV) (q : Str × V) => p.1 = q.1 ∧ RepV K w H p.2 q.2) (putP f x fs) (putF f v vs)
  | _, _, .nil => .cons ⟨rfl, r⟩ .nil
  | (g, y) :: fs, (g2, u) :: vs, .cons ⟨e, q⟩ t => by
    simp only at e q
    subst e
    unfold putP putF
    split
    · exact .cons ⟨rfl, r⟩ t
    · exact .cons ⟨rfl, q⟩ (flds_put r f t)
end
section
variable {X : Cx} {W : WX} {o : Orc} {e ob value : Expr} {es : List Expr} {f m : Str} {pos apos p : Pos} {te tv : TPE} {t : TPA}
theorem pe_fldP (hn : ∀ c, o.tb.nof c f = true → ∃ C, KCls X.K c C ∧ Cls X.K C ∧ NoAttr X.K C f) (he : PE X e (low X.K X.w W te)) (hb : plainBase e = true) : PE X (.Attribute e f pos) (low X.K X.w W (wUn (pFld o f) te)) := by
  refine imp_e (pe_fld he (base_ok hb)) ?_
  rintro σ H Q ⟨S, σ', G, W', Q', s, t, bk⟩
  refine low_bind s t fun x v G1 H1 st s1 r1 t1 => ?_
  unfold pFld at t1
  split at t1 <;> first | exact t1.elim | skip
  rename_i a
  cases r1
  split at t1 <;> first | exact t1.elim | skip
  rename_i c fs e1
  split at t1 <;> first | exact t1.elim | skip
  rename_i y e2
  obtain ⟨t1, t2⟩ := t1
  obtain ⟨C, k, cl, na⟩ := hn c t1
  obtain ⟨C2, dx, vs, k2, h, pr⟩ := s1.at_.ob a _ e1
  cases k.one k2
  rcases flds_get pr f with ⟨z, _⟩ | ⟨x, v, z1, z2, z3⟩
  · rw [z] at e2; cases e2
  · rw [z1] at e2; cases e2
    exact ⟨a, C, dx, vs, v, rfl, h, cl, na, z2, bk _ _ _ _ st s1.at_ z3 t2⟩
theorem ps_setfP (hn : ∀ c, o.tb.nof c f = true → ∃ C, KCls X.K c C ∧ Cls X.K C ∧ NoAttr X.K C f) (ho : PE X ob (low X.K X.w W te)) (hv : PE X value (low X.K X.w W tv)) (hs : swapsWith value (some (.Attribute ob f apos)) pos.line X.env = pure false) :
    PS X (.Assign [.Attribute ob f apos] value pos) (lowS X.K X.w W fun D σ G => tv σ G (fun v G1 => te σ G1 (fun x G2 => pSetF o f x v G2 fun G3 => D.nx σ G3) D.ex) D.ex) := by
  refine imp_s (ps_fld ho hv hs) ?_
  rintro D σ H ⟨S, σ', G, D', s, q, b⟩
  refine low_bind s q fun y v G1 H1 st s1 r1 t1 => ?_
  refine low_bind s1 t1 fun x u G2 H2 st2 s2 r2 t2 => ?_
  unfold pSetF at t2
  split at t2 <;> first | exact t2.elim | skip
  rename_i a
  cases r2
  split at t2 <;> first | exact t2.elim | skip
  rename_i c fs e1
  obtain ⟨t2, t3, t4⟩ := t2
  obtain ⟨C, k, cl, na⟩ := hn c t2
  obtain ⟨C2, dx, vs, k2, h, pr⟩ := s2.at_.ob a _ e1
  cases k.one k2
  have sp : Step S H2 (upd H2 a (.ins C dx (putF f v vs))) := s2.at_.step_put e1
  have hl : vs.length < 1000 := by rw [← pr.length]; exact t3
  refine ⟨a, C, dx, vs, rfl, h, cl, na, hl, b.nx _ _ _ _ (st.trans (st2.trans sp)) (s2.at_.put (u := .ins c (putP f y fs)) e1 ⟨C, dx, _, k, upd_same, PairedMap (flds_put (r1.mono st2.toStay) f pr) fun _ _ z => ⟨z.1, z.2.mono sp.toStay⟩⟩) (s2.sl.mono sp.toStay) t4⟩
theorem pe_dctP : PE X (.Dict [] [] pos) (low X.K X.w W fun _ G Q _ => ∀ p, G p = none → Q (.ref p) (pu G p (.dict []))) := by
  refine imp_e pe_dnewK ?_
  rintro σ H Q ⟨S, σ', G, W', Q', s, t, bk⟩ p hp
  exact bk (.ref p) _ _ _ (s.at_.step_new hp) (s.at_.new (u := .dict []) hp ⟨[], upd_same, .nil⟩) rfl (t p (s.at_.free hp))
theorem on_lst {S : Addr → Prop} {G : PH} {H : Hp} (a : At X.K X.w S G H) {x : PV} {v : V} (r : RepV X.K X.w H x v) (h : onLst x G) : tyV X.K "list" v H := by
  unfold onLst at h
  split at h <;> first | exact h.elim | skip
  cases r
  split at h <;> first | exact h.elim | skip
  rename_i q xs e
  obtain ⟨vs, hv, _⟩ := a.ob _ _ e
  exact .inl ⟨rfl, vs, .inl (.inl hv)⟩

theorem meth_step {k : Nat} {f : Addr} {kws : List Keyword} {tk : TPA} {sp : List PV → List (Str × PV) → PH → VP → PC → Prop} (F : FnP X.prog X.w X.K X.mg X.base k f sp) (g : Good k X.A) (tkx : Takes X W) (hkw : PK X kws (lowA X.K X.w W tk))
    {pins : List (Addr × Obj)} {s1 : Shared} {σ : St} {H : Hp} {Q : VK} {S : Addr → Prop} {σ' : PSt} {G : PH} {W' : PX} {Q' : VP} (si : Si X.K X.w W S σ' σ G H W') (bk : Back X.K X.w S H Q' Q) {a : Addr}
    (us : List Value) (vs : List V) (xs : List PV) (G1 : PH) (H1 : Hp) (I1 : Inv X pins σ H1 s1) (rv : Vals vs us) (st1 : Step S H H1) (a1 : At X.K X.w S G1 H1) (rl : RepL X.K X.w H1 xs vs)
    (q1 : tk σ' G1 (fun zs G2 => sp (.ref a :: xs) ((kwNames kws).zip zs) G2 Q' fun c fs G3 => W' c fs σ' G3) W') :
    wpAny (model X.prog X.w) X.A (evalAll ((backToKw pos (keywordEach kws X.env)).map (·.2))) (fun ks s₂ => X.K.In s₂.heap ∧ wpAny (model X.prog X.w) X.A (call (.ref f) ([.ref a] ++ us) (((backToKw pos (keywordEach kws X.env)).filterMap (·.1)).zip ks)) (EP X pins σ Q) X.xe s₂) X.xe s1 := by
  refine thn (hkw.run pos pins s1 σ H1 (fun zs H2 => ∃ G2 zs', Step S H1 H2 ∧ At X.K X.w S G2 H2 ∧ RepL X.K X.w H2 zs' zs ∧ sp (.ref a :: xs) ((kwNames kws).zip zs') G2 Q' fun c fs G3 => W' c fs σ' G3) I1
    ⟨S, σ', G1, W', _, si.next st1 a1, q1, fun zs' zs G2 H2 st2 a2 r2 q2 => ⟨G2, zs', st2, a2, r2, q2⟩⟩) fun ws s2 ⟨zs, H2, I2, rz, G2, zs', st2, a2, r2, q2⟩ => ⟨I2.kIn, ?_⟩
  rw [kw_names]
  refine run_fnP F g tkx I2 (vs := .ref a :: vs) (.cons rfl rv) (kw_val _ rz) ⟨S, G2, .ref a :: xs, _, Q', _, a2, ⟨.ref a, vs, rfl, rfl, rl.mono st2.toStay⟩, kw_rep _ r2, q2, bk.next (st1.trans st2), fun cls fs d G3 H3 st3 a3 x3 q3 => ?_⟩
  exact si.wx cls fs d σ' σ G3 H3 ((st1.trans st2).trans st3) a3 (si.sl.mono ((st1.trans st2).trans st3).toStay) x3 q3
theorem meth_at {k : Nat} (hn : ∀ c q, o.tb.mt c m = some q → ∃ C f, KCls X.K c C ∧ Cls X.K C ∧ Meth X.K C m f ∧ FnP X.prog X.w X.K X.mg X.base k f (o.fn q)) {pins : List (Addr × Obj)} {s1 : Shared} {σ : St} {H1 : Hp} {S : Addr → Prop} {G1 : PH} {x : PV} {v : V} {u : Value} {R : Str → Prop} {pl : Sem Bool} {Q : Value × List Value → Shared → Prop}
    (I1 : Inv X pins σ H1 s1) (a1 : At X.K X.w S G1 H1) (r : RepV X.K X.w H1 x v) (ru : RelV v u) (h : pMth o m x G1 R)
    (go : ∀ a f q, x = .ref a → PySem.W.keepIn X.K (.ref f) = true → FnP X.prog X.w X.K X.mg X.base k f (o.fn q) → R q → Q (.ref f, [.ref a]) s1) : wpAny (model X.prog X.w) X.A (getMethod u m pl) Q X.xe s1 := by
  unfold pMth at h
  split at h <;> first | exact h.elim | skip
  rename_i a
  cases r
  obtain rfl : u = Value.ref a := ru
  split at h <;> first | exact h.elim | skip
  rename_i c fs e1
  obtain ⟨h1, h2⟩ := h
  split at h2 <;> first | exact h2.elim | skip
  rename_i q e2
  obtain ⟨C, f, kc, cl, mt, F⟩ := hn c q e2
  obtain ⟨C2, dx, vs, k2, hh, pr⟩ := a1.ob a _ e1
  cases kc.one k2
  have hl : vs.lookup m = none := by
    rcases flds_get pr m with ⟨_, z⟩ | ⟨x, v, z1, _, _⟩
    · exact z
    · rw [z1] at h1; cases h1
  exact getmeth_ok I1 hh cl mt hl (go a f q rfl mt.kp F h2)
/-- a method of an object, called -/
theorem pe_methP {k : Nat} {kws : List Keyword} {tk : TPA} (hn : ∀ c q, o.tb.mt c m = some q → ∃ C f, KCls X.K c C ∧ Cls X.K C ∧ Meth X.K C m f ∧ FnP X.prog X.w X.K X.mg X.base k f (o.fn q)) (g : Good k X.A) (tkx : Takes X W)
    (ho : PE X ob (low X.K X.w W te)) (ha : PA X (e :: es) (lowA X.K X.w W t)) (hkw : PK X kws (lowA X.K X.w W tk)) (hp : (e :: es).all noStarE = true) (hk : (kws.all fun k => k.arg.isSome) = true) (hb : plainBase ob = true) (hl : (apos.endLine == pos.line) = true) (hc : (e :: es).length + kws.length < 29) :
    PE X (.Call (.Attribute ob m apos) (e :: es) kws pos) (low X.K X.w W fun σ G Q W => te σ G (fun x G1 => pMth o m x G1 fun q => t σ G1 (fun vs G2 => tk σ G2 (fun zs G3 => o.fn q (x :: vs) ((kwNames kws).zip zs) G3 Q fun c fs G4 => W c fs σ G4) W) W) W) := by
  refine ⟨fun pins s σ H Q I h => ?_⟩
  obtain ⟨S, σ', G, W', Q', si, t1, bk⟩ := h
  refine PySem.W.methodCall_KW (thn (ho.run pins s σ H (fun v H1 => ∃ x G1, Step S H H1 ∧ At X.K X.w S G1 H1 ∧ RepV X.K X.w H1 x v ∧ pMth o m x G1 fun q => t σ' G1 (fun vs G2 => tk σ' G2 (fun zs G3 => o.fn q (x :: vs) ((kwNames kws).zip zs) G3 Q' fun c fs G4 => W' c fs σ' G4) W') W') I
    ⟨S, σ', G, W', _, si, t1, fun x v G1 H1 st1 a1 r1 q1 => ⟨x, G1, st1, a1, r1, q1⟩⟩) fun u s1 ⟨v, H1, I1, ru, x, G1, st1, a1, r1, q1⟩ => ?_) (ev_meth hb hl (form_ok hp hk hc))
  refine meth_at hn I1 a1 r1 ru q1 fun a f q ex kf F q2 => ?_
  subst ex
  obtain ⟨n1, n2⟩ := kw_all (pos := pos) (env := X.env) kws hk
  have h2 : noStarE e = true ∧ es.all noStarE = true := by simpa using hp
  refine PySem.W.callWith_KW (first := [.ref a]) (h₀ := X.base) I1.ok.mod.kin kf n1 ?_ (by rw [n2, Bool.or_false]; exact plain_args (e :: es) X.env pos hp) (no_star e es X.env h2.1)
  refine thn (ha.run pos pins s1 σ H1 (fun vs H2 => ∃ G2 xs, Step S H1 H2 ∧ At X.K X.w S G2 H2 ∧ RepL X.K X.w H2 xs vs ∧ tk σ' G2 (fun zs G3 => o.fn q (.ref a :: xs) ((kwNames kws).zip zs) G3 Q' fun c fs G4 => W' c fs σ' G4) W') I1
    ⟨S, σ', G1, W', _, si.next st1 a1, q2, fun xs vs G2 H2 st2 a2 r2 q2 => ⟨G2, xs, st2, a2, r2, q2⟩⟩) fun us s2 ⟨vs, H2, I2, rv, G2, xs, st2, a2, rl, q3⟩ => ?_
  exact meth_step F g tkx hkw si bk us vs xs G2 H2 I2 rv (st1.trans st2) a2 rl q3
theorem pe_methP0 {k : Nat} {kws : List Keyword} {tk : TPA} (hn : ∀ c q, o.tb.mt c m = some q → ∃ C f, KCls X.K c C ∧ Cls X.K C ∧ Meth X.K C m f ∧ FnP X.prog X.w X.K X.mg X.base k f (o.fn q)) (g : Good k X.A) (tkx : Takes X W)
    (ho : PE X ob (low X.K X.w W te)) (hkw : PK X kws (lowA X.K X.w W tk)) (hk : (kws.all fun k => k.arg.isSome) = true) (hb : plainBase ob = true) (hl : (apos.endLine == pos.line) = true) (hc : kws.length < 29) :
    PE X (.Call (.Attribute ob m apos) [] kws pos) (low X.K X.w W fun σ G Q W => te σ G (fun x G1 => pMth o m x G1 fun q => wNil σ G1 (fun vs G2 => tk σ G2 (fun zs G3 => o.fn q (x :: vs) ((kwNames kws).zip zs) G3 Q fun c fs G4 => W c fs σ G4) W) W) W) := by
  refine ⟨fun pins s σ H Q I h => ?_⟩
  obtain ⟨S, σ', G, W', Q', si, t1, bk⟩ := h
  refine PySem.W.methodCall_KW (thn (ho.run pins s σ H (fun v H1 => ∃ x G1, Step S H H1 ∧ At X.K X.w S G1 H1 ∧ RepV X.K X.w H1 x v ∧ pMth o m x G1 fun q => tk σ' G1 (fun zs G3 => o.fn q [x] ((kwNames kws).zip zs) G3 Q' fun c fs G4 => W' c fs σ' G4) W') I
    ⟨S, σ', G, W', _, si, t1, fun x v G1 H1 st1 a1 r1 q1 => ⟨x, G1, st1, a1, r1, q1⟩⟩) fun u s1 ⟨v, H1, I1, ru, x, G1, st1, a1, r1, q1⟩ => ?_) (ev_meth hb hl (form_ok rfl hk (by simpa using hc)))
  refine meth_at hn I1 a1 r1 ru q1 fun a f q ex kf F q2 => ?_
  subst ex
  obtain ⟨n1, n2⟩ := kw_all (pos := pos) (env := X.env) kws hk
  refine PySem.W.callWith_KW0 (first := [.ref a]) (h₀ := X.base) I1.ok.mod.kin kf n1 ?_ (by rw [n2]; rfl)
  exact meth_step F g tkx hkw si bk [] [] [] G1 H1 I1 .nil st1 a1 rfl q2

theorem run_makeP {k : Nat} {f C : Addr} {sp : List PV → List (Str × PV) → PH → VP → PC → Prop} (M : Mk X.K C f) (F : FnP X.prog X.w X.K X.mg X.base k f sp) (hr : GoodB k X.A) (tkx : Takes X W) {pins : List (Addr × Obj)} {s : Shared} {σ : St} {H : Hp} {us : List Value} {kw : List (Str × Value)} {vs : List V} {kvs : List (Str × V)} {Q : VK}
    (I : Inv X pins σ H s) (r : Vals vs us) (rk : KwV kvs kw)
    (h : ∀ x dx, H x = none → H dx = none → dx ≠ x → lowF X.K X.w sp (.ref x :: vs) kvs (upd (upd H dx (.own x)) x (.ins C dx [])) (fun v H2 => v = .non ∧ Q (.ref x) H2) (fun cls d H' => W cls d σ H')) :
    wpAny (model X.prog X.w) X.A (call (.ref C) us kw) (EP X pins σ Q) X.xe s := by
  have hq := h (s.heap.objs.size + 1) s.heap.objs.size (I.hok.fresh (Nat.le_succ _)) (I.hok.fresh (Nat.le_refl _)) (Nat.ne_of_lt (Nat.lt_succ_self _))
  have I2 := Inv.made (C := C) I
  refine wpAny_call (make_map (f := f) I.kIn M.makes M.init (beq_iff_eq.mp M.fn) (codeAny_mono (F _ X.stack _ _ (Value.ref (s.heap.objs.size + 1) :: us) kw _ kvs _ _ (hr.make C us kw) (I2.env0.make C us kw) (.cons (show RelV (.ref _) _ from rfl) r) rk hq) fun r s' hq' => ?_))
  cases r with
  | error e => exact tkx e s' (XE.of_call I2 (fun cls d H' h => h) hq')
  | ok fl =>
    cases fl with
    | ret u =>
      obtain ⟨v, H', I3, rv, ev, q3⟩ := I2.after hq'
      subst ev
      exact ⟨rv, ⟨V.ref (s.heap.objs.size + 1), H', I3, rfl, q3⟩⟩
    | next => exact False.elim hq'
    | brk => exact False.elim hq'
    | cont => exact False.elim hq'
/-- an object of a class of the text -/
theorem new_low {k : Nat} {c : Str} {C f : Addr} {q : Str} {S : Addr → Prop} {G : PH} {H : Hp} {xs : List PV} {kws : List (Str × PV)} {vs : List V} {kvs : List (Str × V)} {Q' : VP} {Q : VK} {P : PC} {E : XK} (kc : KCls X.K c C) (a : At X.K X.w S G H) (rl : RepL X.K X.w H xs vs) (rk : RepF X.K X.w H kws kvs)
    (hq : ∀ p, G p = none → o.fn q (.ref p :: xs) kws (pu G p (.ins c [])) (fun v G1 => v = .non ∧ Q' (.ref p) G1) P) (bk : Back X.K X.w S H Q' Q)
    (he : ∀ cls fs d G1 H1, Step S H H1 → At X.K X.w S G1 H1 → XRep X.K X.w H1 d fs → P cls fs G1 → E cls d H1) :
    ∀ x dx, H x = none → H dx = none → dx ≠ x → lowF X.K X.w (o.fn q) (.ref x :: vs) kvs (upd (upd H dx (.own x)) x (.ins C dx [])) (fun v H2 => v = .non ∧ Q (.ref x) H2) E := by
  intro x dx hx hd hne
  have s1 : Step S H (upd H dx (.own x)) := a.step_new hd
  have a1 : At X.K X.w S G (upd H dx (.own x)) := a.silent hd
  have hx1 : upd H dx (.own x) x = none := by rw [upd_ne (Ne.symm hne)]; exact hx
  have s2 : Step S (upd H dx (.own x)) (upd (upd H dx (.own x)) x (.ins C dx [])) := a1.step_new hx1
  have st := s1.trans s2
  refine ⟨S, pu G x (.ins c []), .ref x :: xs, kws, fun v G1 => v = .non ∧ Q' (.ref x) G1, P, a1.new (u := .ins c []) hx1 ⟨C, dx, [], kc, upd_same, .nil⟩, ⟨.ref x, vs, rfl, rfl, rl.mono st.toStay⟩, PairedMap rk fun _ _ z => ⟨z.1, z.2.mono st.toStay⟩, hq x (a.free hx), fun v u G1 H1 st1 a1 r1 q1 => ?_, fun cls fs d G1 H1 st1 a1 x1 q1 => he cls fs d G1 H1 (st.trans st1) a1 x1 q1⟩
  obtain ⟨rfl, q1⟩ := q1
  exact ⟨r1, bk (.ref x) _ _ _ (st.trans st1) a1 rfl q1⟩
theorem new_step {k : Nat} {c : Str} {C f : Addr} {q : Str} {kws : List Keyword} {tk : TPA} (M : Mk X.K C f) (kc : KCls X.K c C) (F : FnP X.prog X.w X.K X.mg X.base k f (o.fn q)) (g : GoodB k X.A) (tkx : Takes X W) (hkw : PK X kws (lowA X.K X.w W tk))
    {pins : List (Addr × Obj)} {s1 : Shared} {σ : St} {H : Hp} {Q : VK} {S : Addr → Prop} {σ' : PSt} {G : PH} {W' : PX} {Q' : VP} (si : Si X.K X.w W S σ' σ G H W') (bk : Back X.K X.w S H Q' Q)
    (us : List Value) (vs : List V) (xs : List PV) (G1 : PH) (H1 : Hp) (I1 : Inv X pins σ H1 s1) (rv : Vals vs us) (st1 : Step S H H1) (a1 : At X.K X.w S G1 H1) (rl : RepL X.K X.w H1 xs vs)
    (q1 : tk σ' G1 (fun zs G2 => pNew o c q xs ((kwNames kws).zip zs) G2 Q' fun c fs G3 => W' c fs σ' G3) W') :
    wpAny (model X.prog X.w) X.A (evalAll ((backToKw pos (keywordEach kws X.env)).map (·.2))) (fun ks s₂ => X.K.In s₂.heap ∧ wpAny (model X.prog X.w) X.A (call (.ref C) ([] ++ us) (((backToKw pos (keywordEach kws X.env)).filterMap (·.1)).zip ks)) (EP X pins σ Q) X.xe s₂) X.xe s1 := by
  refine thn (hkw.run pos pins s1 σ H1 (fun zs H2 => ∃ G2 zs', Step S H1 H2 ∧ At X.K X.w S G2 H2 ∧ RepL X.K X.w H2 zs' zs ∧ pNew o c q xs ((kwNames kws).zip zs') G2 Q' fun c fs G3 => W' c fs σ' G3) I1
    ⟨S, σ', G1, W', _, si.next st1 a1, q1, fun zs' zs G2 H2 st2 a2 r2 q2 => ⟨G2, zs', st2, a2, r2, q2⟩⟩) fun ws s2 ⟨zs, H2, I2, rz, G2, zs', st2, a2, r2, q2⟩ => ⟨I2.kIn, ?_⟩
  rw [kw_names]
  unfold pNew at q2
  refine run_makeP M F g tkx I2 (vs := vs) rv (kw_val _ rz) (new_low (k := k) (f := f) (xs := xs) kc a2 (rl.mono st2.toStay) (kw_rep _ r2) q2 (bk.next (st1.trans st2)) fun cls fs d G3 H3 st3 a3 x3 q3 => ?_)
  exact si.wx cls fs d σ' σ G3 H3 ((st1.trans st2).trans st3) a3 (si.sl.mono ((st1.trans st2).trans st3).toStay) x3 q3
theorem pe_newP {k : Nat} {c : Str} {C f : Addr} {q : Str} {kws : List Keyword} {tk : TPA} (M : Mk X.K C f) (kc : KCls X.K c C) (F : FnP X.prog X.w X.K X.mg X.base k f (o.fn q)) (g : GoodB k X.A) (tkx : Takes X W) (hg : Gl X c) (hm : X.mg c = some (.ref C))
    (hdb : (c == ("__debug__" : Str)) = false) (ha : PA X (e :: es) (lowA X.K X.w W t)) (hkw : PK X kws (lowA X.K X.w W tk)) (hp : (e :: es).all noStarE = true) (hn : (kws.all fun k => k.arg.isSome) = true) :
    PE X (.Call (.Name c p) (e :: es) kws pos) (low X.K X.w W fun σ G Q W => t σ G (fun vs G1 => tk σ G1 (fun zs G2 => pNew o c q vs ((kwNames kws).zip zs) G2 Q fun c fs G4 => W c fs σ G4) W) W) := by
  refine ⟨fun pins s σ H Q I h => ?_⟩
  obtain ⟨S, σ', G, W', Q', si, t1, bk⟩ := h
  refine wpAny_Call_Name_kw (ld_glob I hg hm ?_ hdb)
  obtain ⟨n1, n2⟩ := kw_all (pos := pos) (env := X.env) kws hn
  have h2 : noStarE e = true ∧ es.all noStarE = true := by simpa using hp
  refine PySem.W.callWith_KW (h₀ := X.base) I.ok.mod.kin M.kp n1 ?_ (by rw [n2, Bool.or_false]; exact plain_args (e :: es) X.env pos hp) (no_star e es X.env h2.1)
  refine thn (ha.run pos pins s σ H (fun vs H1 => ∃ G1 xs, Step S H H1 ∧ At X.K X.w S G1 H1 ∧ RepL X.K X.w H1 xs vs ∧ tk σ' G1 (fun zs G2 => pNew o c q xs ((kwNames kws).zip zs) G2 Q' fun c fs G3 => W' c fs σ' G3) W') I
    ⟨S, σ', G, W', _, si, t1, fun xs vs G1 H1 st1 a1 r1 q1 => ⟨G1, xs, st1, a1, r1, q1⟩⟩) fun us s1 ⟨vs, H1, I1, rv, G1, xs, st1, a1, rl, q1⟩ => ?_
  exact new_step M kc F g tkx hkw si bk us vs xs G1 H1 I1 rv st1 a1 rl q1
theorem pe_appP (ho : PE X ob (low X.K X.w W te)) (ha : PE X e (low X.K X.w W tv)) (hb : plainBase ob = true) (hl : (apos.endLine == pos.line) = true) (hs : noStarE e = true) :
    PE X (.Call (.Attribute ob "append" apos) [e] [] pos) (low X.K X.w W fun σ G Q W => te σ G (fun a G1 => onLst a G1 ∧ tv σ G1 (fun v G2 => pApp a v G2 Q) W) W) := by
  refine imp_e (pe_bm PySem.F.plainAttrs_list PySem.F.slot_list_append PySem.F.type_list_append mt_append ho (pa_consP ha pa_nilP (no_star e [] X.env hs)) (base_ok hb) ?_ hl (no_star e [] X.env hs) rfl) ?_
  · have := form_ok (args := [e]) (kws := []) (pos := pos) (env := X.env) (by simp [hs]) rfl (by simp)
    exact this
  · rintro σ H Q ⟨S, σ', G, W', Q', s, t, bk⟩
    refine low_bind s t fun x v G1 H1 st s1 r1 t1 => ?_
    refine ⟨on_lst s1.at_ r1 t1.1, ?_⟩
    refine ⟨S, σ', G1, W', fun ys G2 => match ys with
      | [y] => pApp x y G2 Q'
      | _ => False, s1, t1.2, fun ys us G2 H2 st2 a2 r2 q2 => ?_⟩
    dsimp only at q2
    split at q2 <;> first | exact q2.elim | skip
    rename_i y
    obtain ⟨u, r, rfl, ry, rfl⟩ := r2
    unfold pApp at q2
    split at q2 <;> first | exact q2.elim | skip
    rename_i a
    cases r1
    split at q2 <;> first | exact q2.elim | skip
    rename_i xs e1
    obtain ⟨vs, hv, rl⟩ := a2.ob _ _ e1
    have sp : Step S H2 (upd H2 a (.lst (vs ++ [u]))) := a2.step_put e1
    exact ⟨a, vs, u, rfl, rfl, hv, by rw [← rl.length]; exact q2.1, bk .non .non _ _ (st.trans (st2.trans sp)) (a2.put (u := .lst (xs ++ [y])) e1 ⟨_, upd_same, (rl.app (RepL.one ry)).mono sp.toStay⟩) rfl q2.2⟩
theorem pe_poplP (ho : PE X ob (low X.K X.w W te)) (hb : plainBase ob = true) (hl : (apos.endLine == pos.line) = true) :
    PE X (.Call (.Attribute ob "pop" apos) [] [] pos) (low X.K X.w W fun σ G Q W => te σ G (fun a G1 => pPopl a G1 Q) W) := by
  refine imp_e (pe_bm0 PySem.F.plainAttrs_list PySem.F.slot_list_pop PySem.F.type_list_pop mt_pop ho (base_ok hb) hl) ?_
  rintro σ H Q ⟨S, σ', G, W', Q', s, t, bk⟩
  refine low_bind s t fun x v G1 H1 st s1 r1 t1 => ?_
  unfold pPopl at t1
  split at t1 <;> first | exact t1.elim | skip
  rename_i a
  cases r1
  split at t1 <;> first | exact t1.elim | skip
  rename_i xs e1
  split at t1 <;> first | exact t1.elim | skip
  rename_i y e2
  obtain ⟨vs, hv, rl⟩ := s1.at_.ob _ _ e1
  obtain ⟨u, hu, ru⟩ := rl.get e2
  have sp : Step S H1 (upd H1 a (.lst vs.dropLast)) := s1.at_.step_put e1
  refine ⟨.inl ⟨rfl, vs, .inl (.inl hv)⟩, a, vs, u, rfl, rfl, hv, by rw [← rl.length]; exact hu, ?_⟩
  refine bk y u _ _ (st.trans sp) (s1.at_.put (u := .lst xs.dropLast) e1 ⟨_, upd_same, ?_⟩) (ru.mono sp.toStay) t1
  have := (rl.take (xs.length - 1)).mono sp.toStay
  have e3 : vs.dropLast = vs.take (xs.length - 1) := by rw [List.dropLast_eq_take, rl.length]
  rw [← e3, ← List.dropLast_eq_take] at this
  exact this
theorem pa_starP {sp_ : Pos} (he : PE X e (low X.K X.w W te)) (hr : PA X es (lowA X.K X.w W t)) : PA X (.Starred e sp_ :: es) (lowA X.K X.w W fun σ G Q W => te σ G (fun x G1 => match x with
      | .tup xs => t σ G1 (fun ys G2 => Q (xs ++ ys) G2) W
      | .ref a => match G1 a with
        | some (.lst xs) => t σ G1 (fun ys G2 => Q (xs ++ ys) G2) W
        | _ => False
      | _ => False) W) := by
  refine imp_a (StX.pa_star he hr) ?_
  rintro σ H Q ⟨S, σ', G, W', Q', s, q, bk⟩
  refine low_bind s q fun x v G1 H1 st s1 r1 t1 => ?_
  have go : ∀ (p : Addr) (xs : List PV) (vs : List V), v = .ref p → (SqT X.K H1 p vs ∨ SqL X.K H1 p vs) → RepL X.K X.w H1 xs vs → t σ' G1 (fun ys G2 => Q' (xs ++ ys) G2) W' → ∃ p xs, v = V.ref p ∧ (SqT X.K H1 p xs ∨ SqL X.K H1 p xs) ∧ lowA X.K X.w W t σ H1 fun ys H2 => Q (xs ++ ys) H2 :=
    fun p xs vs ev h rl q => ⟨p, vs, ev, h, S, σ', G1, W', _, s1, q, fun ys us G2 H2 st2 a2 r2 q2 => bk _ _ _ _ (st.trans st2) a2 ((rl.mono st2.toStay).app r2) q2⟩
  split at t1 <;> first | exact t1.elim | skip
  · obtain ⟨p, vs, rfl, h, rl⟩ := r1
    exact go p _ vs rfl (.inl h) rl t1
  · rename_i a
    cases r1
    split at t1 <;> first | exact t1.elim | skip
    rename_i xs e1
    obtain ⟨vs, h, rl⟩ := s1.at_.ob _ _ e1
    exact go a xs vs rfl (.inr (.inl (.inl h))) rl t1
/-- cases, one after the other -/
structure PM (X : Cx) (cs : List MatchCase) (t : V → TS) : Prop where
  run : ∀ (pins : List (Addr × Obj)) (s : Shared) (σ : St) (H : Hp) (D : Ends) (v : V) (u : Value) (first : Bool), Inv X pins σ H s → RelV v u → t v D σ H → wpAny (model X.prog X.w) X.A (matchCases cs X.env u first) (SP X pins D) X.xe s
theorem ps_mat {cs : List MatchCase} {t : V → TS} {ta : TE} (he : PE X e ta) (h : PM X cs t) : PS X (.Match e cs pos) (fun D σ H => ta σ H fun v H1 => t v D σ H1) := by
  refine ⟨fun pins s σ H D I q => ?_⟩
  refine wpAny_Match (thn (he.run pins s σ H _ I q) fun u s1 ⟨v, H1, I1, r, q1⟩ => ?_)
  exact h.run pins s1 σ H1 D v u true I1 r q1
/-- a low reading of cases -/
def lowM (K : PySem.W.Frag) (w : World) (W : WX) (t : PV → TPS) : V → TS := fun v D σ H => ∃ S σ' G D' x, Si K w W S σ' σ G H D'.ex ∧ RepV K w H x v ∧ t x D' σ' G ∧ Ba K w S H D' D
theorem pm_nilP : PM X [] (lowM X.K X.w W fun _ D σ G => D.nx σ G) := by
  refine ⟨fun pins s σ H D v u first I r q => ?_⟩
  obtain ⟨S, σ', G, D', x, si, rx, q, b⟩ := q
  exact wpAny_matchCases_nil ⟨σ, H, I, b.nx _ _ _ _ Step.refl si.at_ si.sl q⟩
theorem pm_anyP {body : List Stmt} {rest : List MatchCase} {tb : TPS} {p1 : Pos} (hb : PSs X body (lowS X.K X.w W tb)) : PM X (⟨.MatchAs none none p1, none, body⟩ :: rest) (lowM X.K X.w W fun _ D σ G => tb D σ G) := by
  refine ⟨fun pins s σ H D v u first I r q => ?_⟩
  obtain ⟨S, σ', G, D', x, si, rx, q, b⟩ := q
  refine wpAny_matchCases_cons (wpAny_matchPattern_Capture ?_)
  exact wpAny_assignInOrder_none (hb.run pins s σ H D I ⟨S, σ', G, D', si, q, b⟩)
theorem pm_strP {body : List Stmt} {rest : List MatchCase} {tb : TPS} {tr : PV → TPS} {y : Str} {j : Nat} {p1 p2 : Pos} (hu : X.A.units + 65 < cLine) (hb : PSs X body (lowS X.K X.w W tb)) (hr : PM X rest (lowM X.K X.w W tr)) :
    PM X (⟨.MatchValue (.Constant (.str y) j p2) p1, none, body⟩ :: rest) (lowM X.K X.w W fun v D σ G => pEq G v (.str y) fun k => if k = true then tb D σ G else tr v D σ G) := by
  refine ⟨fun pins s σ H D v u first I r q => ?_⟩
  obtain ⟨S, σ', G, D', x, si, rx, q, b⟩ := q
  refine wpAny_matchCases_cons (wpAny_matchPattern_Value ?_)
  refine thn (pe_str.run pins s σ H (fun c H1 => c = .str y ∧ H1 = H) I ⟨rfl, rfl⟩) fun c s1 ⟨cv, H1, I1, rc, ec, eH⟩ => ?_
  subst ec eH
  refine thn (opCmp hu .Eq pins s1 σ H1 v (.str y) u c (fun z H2 => ∃ k, z = .bl k ∧ Step S H1 H2 ∧ At X.K X.w S G H2 ∧ (if k = true then tb D' σ' G else tr x D' σ' G)) I1 r rc
    ⟨S, G, x, .str y, fun z G1 => ∃ k, z = .bl k ∧ G1 = G ∧ (if k = true then tb D' σ' G else tr x D' σ' G), si.at_, rx, rfl, ?_, fun z zv G1 H2 st a rz qz => ?_⟩) fun c2 s2 ⟨z, H2, I2, rz, k, ez, st, a, qk⟩ => ?_
  · show pEq G x (.str y) fun b => ∃ k, PV.bl b = .bl k ∧ G = G ∧ (if k = true then tb D' σ' G else tr x D' σ' G)
    unfold pEq at q ⊢
    split at q
    · rw [if_pos (by assumption)]; exact ⟨_, rfl, rfl, q⟩
    · rw [if_neg (by assumption)]; exact ⟨q.1, q.2.1, _, rfl, rfl, q.2.2⟩
  · obtain ⟨k, rfl, rfl, qk⟩ := qz
    exact ⟨k, rz, st, a, qk⟩
  · subst ez
    obtain rfl : c2 = Value.bool k := rz
    refine wpAny_pure ?_
    have si2 := si.next st a
    cases k with
    | true =>
      rw [if_pos rfl]
      rw [if_pos rfl] at qk
      exact wpAny_assignInOrder_none (hb.run pins s2 σ H2 D I2 ⟨S, σ', G, D', si2, qk, b.next st⟩)
    | false =>
      rw [if_neg Bool.false_ne_true]
      rw [if_neg Bool.false_ne_true] at qk
      exact hr.run pins s2 σ H2 D v u false I2 r ⟨S, σ', G, D', x, si2, rx.mono st.toStay, qk, b.next st⟩
end
end Fv
namespace Fv
open PySem PySem.Spec PySem.Calls PyProof.Rows L2
open Sem (wp)
open AutoSeq1 (wpAny_loadPart')
theorem meets_enum_tup (l : Addr) (items : Array Value) (n : Nat) (dct : Option Addr) (sl : Array (Option Value)) :
    Meets (Builtin.«enumerate.__new__» ⟨[.type "enumerate", .ref l], []⟩) (fun _ R s => s.heap.get? l = some { cls := .type "tuple", dict := dct, data := .seq items n, slots := sl } ∧
      R (.ok (.ret (.ref (s.heap.push { cls := .type "tuple_iterator", data := .fields #[.ref l, .int 0 0] }).objs.size)))
        { s with heap := (s.heap.push { cls := .type "tuple_iterator", data := .fields #[.ref l, .int 0 0] }).push { cls := .type "enumerate", data := .fields #[.none, .bool false, .ref s.heap.objs.size, rawInt 0, .none, .none] } }) :=
  .of_wp fun prog w A R s h => by
    obtain ⟨hp, g, d, tk, os⟩ := s; obtain ⟨hl, h⟩ := h
    have hsub := sub_enumerate
    have hL : Heap.IsTuple (Shared.heap ⟨hp, g, d, tk, os⟩) l items := ⟨_, hl, rfl, n, rfl⟩
    wp_walk using wpAny_loadPart' hl
    refine wpAny_stack_any fun st => wpAny_pure ?_
    split
    · rename_i c _ _ _ _ _
      cases (c == Value.type "enumerate")
      · wp_walk using wpAny_loadPart' hl, wpAny_pyIter_tuple hL
        exact ⟨_, rfl, h⟩
      · wp_walk using wpAny_loadPart' hl, wpAny_pyIter_tuple hL
        exact ⟨_, rfl, h⟩
    · wp_walk using wpAny_loadPart' hl, wpAny_pyIter_tuple hL
      exact ⟨_, rfl, h⟩
section
variable {prog : Program} {w : World} {A : Around} {E : Value → Shared → Prop} {s : Shared}
theorem call_enum_tup {l : Addr} {items : Array Value} {Q : Value → Shared → Prop} (hL : s.heap.IsTuple l items)
    (h : ∀ h', IsEnum h' (s.heap.objs.size + 1) s.heap.objs.size 0 .none → h'.IsTupleIter s.heap.objs.size l 0 → h'.objs.size = s.heap.objs.size + 2 →
      (∀ b o, s.heap.get? b = some o → h'.get? b = some o) → Q (.ref (s.heap.objs.size + 1)) { s with heap := h' }) :
    wpAny (model prog w) A (call (.type "enumerate") [.ref l]) Q E s := by
  obtain ⟨⟨c, dct, dt, sl⟩, hl, hc, n, hd⟩ := hL
  replace hc : c = .type "tuple" := hc
  replace hd : dt = .seq items n := hd
  subst hc hd
  refine callType_new F.called_enumerate (by decide) (F.typeCall_enumerate_1 _) (F.newCall_enumerate_1 _) (fun obj => F.args_object_init_2 obj _) F.entry_enumerate_new
    (meets_enum_tup l items n dct sl) ⟨hl, ?_⟩
  have hz : (s.heap.push { cls := .type "tuple_iterator", data := .fields #[.ref l, .int 0 0] }).objs.size = s.heap.objs.size + 1 := Heap.size_push ..
  show _ ∧ _
  rw [hz]
  have he : IsEnum ((s.heap.push { cls := .type "tuple_iterator", data := .fields #[.ref l, .int 0 0] }).push
      { cls := .type "enumerate", data := .fields #[.none, .bool false, .ref s.heap.objs.size, rawInt 0, .none, .none] }) (s.heap.objs.size + 1) s.heap.objs.size 0 .none := by
    have := Heap.get?_push_size (s.heap.push { cls := .type "tuple_iterator", data := .fields #[.ref l, .int 0 0] })
      (o := { cls := .type "enumerate", data := .fields #[.none, .bool false, .ref s.heap.objs.size, rawInt 0, .none, .none] }) rfl
    rw [hz] at this; exact this
  exact ⟨⟨_, he, rfl⟩, h _ he ⟨_, Heap.get?_push_of_some _ (Heap.get?_push_size _ rfl), rfl, rfl⟩ (by rw [Heap.size_push, hz]) fun b o x => Heap.get?_push_of_some _ (Heap.get?_push_of_some _ x)⟩
end
section
variable {prog : Program} {w : World} {A : Around} {E : Value → Shared → Prop} {s : Shared}
theorem pyNext_enumT_end {e it l : Addr} {i : Nat} {items : Array Value} {old : Value} {Q : Option Value → Shared → Prop} (hh : A.handled = none)
    (he : IsEnum s.heap e it i old) (hit : s.heap.IsTupleIter it l i) (hl : s.heap.IsTuple l items) (hx : items[i]? = none)
    (hQ : ∀ h', Heap.ExtBut it s.heap h' → Q none { s with heap := h' }) : wpAny (model prog w) A (pyNext (.ref e)) Q E s := by
  have hT : s.TypeIs (.ref e) "enumerate" := ⟨_, he, rfl⟩
  unfold pyNext
  refine wpAny_bind (wpAny_attempt (wpAny_callSpecial?_slot (name := Str.ofString "__next__") hT F.slot_enumerate_next
    (wpAny_call_entry F.slot_enumerate_next hT F.entry_enumerate_next ?_ (F.args_enumerate_next_1 _))))
  show wpAny _ _ (field (.ref e) 2 >>= _) _ _ _
  refine wpAny_bind (wpAny_field he rfl (x := .ref it) rfl ?_)
  refine wpAny_bind (wpAny_nextOf_tuple_end hh hit hl hx fun h' x he' hx' => ?_)
  obtain ⟨o, ho, hc⟩ := hx'
  refine wpAny_bind (wpAny_isInstance (T := "StopIteration") (b := true) ⟨o, ho, hc⟩ isSubtype_stop ?_)
  exact wpAny_pure (hQ _ he')
end
/-- the tuple at a, each item in a new pair -/
def IteT (K : PySem.W.Frag) (a : Addr) : L2.It :=
  ⟨fun i H => ∃ (xs : List V) (x : V), SqT K H a xs ∧ xs[i]? = some x, fun i H v H' => ∃ T x, v = .ref T ∧ H T = none ∧ H' = upd H T (.tup [.int (i : Nat), x]) ∧ ∀ xs, SqT K H a xs → xs[i]? = some x, fun i H => ∃ xs : List V, SqT K H a xs ∧ xs.length ≤ i⟩
theorem turn_enumT {P : Program} {w : World} {K : PySem.W.Frag} {elts : List Expr} {kk : Nat} {tpos : Pos} (a e it : Addr) (ha : a ≠ it) (hae : e ≠ a) :
    Turn P w K (.Tuple elts kk tpos) (IteT K a) [e, it] e (fun i h => (∃ old, IsEnum h e it ((i : Nat) : Int) old) ∧ h.IsTupleIter it a i ∧ e ≠ it) where
  mem := by simp
  obj := fun i h st b hb => by
    obtain ⟨⟨old, he⟩, ⟨o, ho, hc, hd⟩, _⟩ := st
    have e' : b = e ∨ b = it := by simpa using hb
    rcases e' with z | z
    · rw [z]; exact ⟨_, he, fun v q => nomatch q⟩
    · rw [z]; exact ⟨o, ho, fun v q => by rw [hd] at q; cases q⟩
  keep := fun i h h' st k => let ⟨⟨old, he⟩, hi, hne⟩ := st; ⟨⟨old, k e (by simp) _ he⟩, hi.at fun o q => k it (by simp) o q, hne⟩
  item := by
    intro X hP hw hK hc i pins s σ H E I hf st hg
    subst hP hw hK
    obtain ⟨⟨old, he⟩, hit, hne⟩ := st
    obtain ⟨xs, x, hq, hx⟩ := hg
    obtain ⟨its, rv, p, hz⟩ := I.tuple hq
    obtain ⟨u, hu, ru⟩ := rv.get hx
    have hel : e < s.heap.objs.size := Heap.lt_size he
    have hil : it < s.heap.objs.size := by obtain ⟨_, q, _⟩ := hit; exact Heap.lt_size q
    have hlen : i < its.toArray.size := by
      have := (List.getElem?_eq_some_iff.1 hu).1
      simpa using this
    have pt : s.heap.IsTuple a its.toArray := p
    refine wpAny_pyNext_enum_itemD (Draws.tuple (A := X.A.in1) (I.ok.hd hc) it a ha its.toArray) he ⟨hit, pt⟩ hlen hne (by simp [hne, hae]) fun u' h' tk hp ho hst hT hsz hk => ?_
    have hu' : u' = u := by
      rw [show its.toArray[i]? = its[i]? by simp, hu] at hp
      exact (Option.some.inj hp).symm
    subst hu'
    refine ⟨_, rfl, wpAny_letOwnedTupleGo_enum (s := { s with heap := h', toks := tk + 1 }) ho fun h'' he' sb => ?_⟩
    have hT2 : h''.get? s.heap.objs.size = some { cls := .type "tuple", data := .seq #[.int i tk, u'] } := (sb.2 _ (Nat.ne_of_gt hel)).trans hT
    have new : ObjOk X.prog X.w (upd H s.heap.objs.size (.tup [.int (i : Nat), x])) h'' s.heap.objs.size (.tup [.int (i : Nat), x]) :=
      ⟨by show 2 ≤ sizeLine; decide, [.int i tk, u'], .cons ⟨_, rfl⟩ (.cons ru .nil), ⟨_, hT2, rfl, _, rfl⟩⟩
    have I1 : Inv X pins σ (upd H s.heap.objs.size (.tup [.int (i : Nat), x])) { s with heap := h'', toks := tk + 1 } :=
      I.turnedNew (ch := [e, it]) (fun b ob hb q => (sb.2 b (fun z => hb (by simp [z]))).trans (hk b ob (fun z => hb (by simp [z])) (fun z => hb (by simp [z])) q)) hf (Nat.le_refl _) new
    refine ⟨.ref s.heap.objs.size, _, I1, rfl, ⟨_, x, rfl, I.hok.fresh (Nat.le_refl _), rfl, fun ys hy => by rw [I.tuple_inj hy hq]; exact hx⟩, ⟨⟨u', ?_⟩, hst.1.at fun o q => (sb.2 it (Ne.symm hne)).trans q, hne⟩, fun b hb => ?_⟩
    · have e1 : ((i + 1 : Nat) : Int) = (i : Int) + 1 := by omega
      rw [e1]; exact he'
    · have hb' : b < s.heap.objs.size := by
        have e' : b = e ∨ b = it := by simpa using hb
        rcases e' with z | z
        · rw [z]; exact hel
        · rw [z]; exact hil
      rw [upd_ne (Nat.ne_of_lt hb')]
      exact (hf b hb).1
  done := by
    intro X hP hw hK hc i pins s σ H E I hf st hg
    subst hP hw hK
    obtain ⟨⟨old, he⟩, hit, hne⟩ := st
    obtain ⟨xs, hq, hx⟩ := hg
    obtain ⟨its, rv, p, hz⟩ := I.tuple hq
    obtain ⟨f0, f1, f2, f3, f4, f5⟩ := hf it (by simp)
    have hl := rv.length
    exact pyNext_enumT_end (I.ok.hd hc) he hit (show s.heap.IsTuple a its.toArray from p) (by simp; omega) fun h' eb => ⟨rfl, I.turned (t' := s.toks) (fun b o hb q => eb b o hb q) f0 f1 f3 f4 f5⟩
  self := fun A i s Q E st h => let ⟨⟨_, he⟩, _⟩ := st; wpAny_pyIter_enum he h
def iEnumA (K : PySem.W.Frag) (te : TE) : TI := fun σ H R => te σ H fun v H1 => (∃ a xs, v = .ref a ∧ SqL K H1 a xs ∧ R (Ite K a) H1) ∨ ∃ a xs, v = .ref a ∧ SqT K H1 a xs ∧ R (IteT K a) H1
theorem pi_enumA {X : Cx} {e : Expr} {te : TE} {p pos tpos : Pos} {elts : List Expr} {kk : Nat} (hg : Gl X "enumerate") (hm : X.mg "enumerate" = none) (ha : PE X e te) (hs : noStarE e = true) :
    PI X (.Tuple elts kk tpos) (.Call (.Name "enumerate" p) [e] [] pos) (iEnumA X.K te) := by
  refine ⟨fun pins s σ H R I h => ?_⟩
  have hp := pa_cons ha pa_nil (no_star e [] X.env hs)
  refine Call_ (ld_blt I hg hm boot_enumerate (PyProof.Rows.callWith_type1 (thn (hp.run pos pins s σ H (fun vs H1 => match vs with | [v] => ((∃ a xs, v = .ref a ∧ SqL X.K H1 a xs ∧ R (Ite X.K a) H1) ∨ ∃ a xs, v = .ref a ∧ SqT X.K H1 a xs ∧ R (IteT X.K a) H1) | _ => False) I h) fun us s1 ⟨vs, H1, I1, r1, q1⟩ => ?_) (no_star e [] X.env hs) rfl))
  · dsimp only at q1
    split at q1 <;> first | exact q1.elim | skip
    rename_i v
    cases r1 with
    | cons r rr =>
      cases rr
      have fp : ∀ b, b ∈ [s1.heap.objs.size + 1, s1.heap.objs.size] → FpOk X pins H1 b := fun b hb => by
        have e' : b = s1.heap.objs.size + 1 ∨ b = s1.heap.objs.size := by simpa using hb
        have hle : s1.heap.objs.size ≤ b := by
          rcases e' with z | z
          · rw [z]; exact Nat.le_add_right _ _
          · rw [z]; exact Nat.le_refl _
        exact I1.fpOk hle (I1.hok.fresh hle)
      rcases q1 with ⟨a, xs, rfl, hq, q⟩ | ⟨a, xs, rfl, hq, q⟩
      · cases r
        obtain ⟨its, rv, p', hz⟩ := I1.list hq
        refine call_enumerate_list p'.isList fun h' he hit hsz hk => wpAny_pyIter_enum he ?_
        exact ⟨s1.heap.objs.size + 1, [s1.heap.objs.size + 1, s1.heap.objs.size], _, _, H1, rfl, I1.kept (t' := s1.toks) hk, turn_enum a (s1.heap.objs.size + 1) s1.heap.objs.size, ⟨⟨.none, he⟩, hit, Nat.succ_ne_self _⟩, fp, q⟩
      · cases r
        obtain ⟨its, rv, p', hz⟩ := I1.tuple hq
        have pt : s1.heap.IsTuple a its.toArray := p'
        have hlt : a < s1.heap.objs.size := by obtain ⟨o, ho, _⟩ := id pt; exact Heap.lt_size ho
        refine call_enum_tup pt fun h' he hit hsz hk => wpAny_pyIter_enum he ?_
        exact ⟨s1.heap.objs.size + 1, [s1.heap.objs.size + 1, s1.heap.objs.size], _, _, H1, rfl, I1.kept (t' := s1.toks) hk, turn_enumT a (s1.heap.objs.size + 1) s1.heap.objs.size (Nat.ne_of_lt hlt) (Ne.symm (Nat.ne_of_lt (Nat.lt_succ_of_lt hlt))), ⟨⟨.none, he⟩, hit, Nat.succ_ne_self _⟩, fp, q⟩
theorem enumP_len : ∀ (xs : List PV) (i0 : Nat), (enumP i0 xs).length = xs.length
  | [], _ => rfl
  | x :: xs, i0 => by unfold enumP; rw [List.length_cons, List.length_cons, enumP_len xs]
theorem enumP_get : ∀ (xs : List PV) (i0 i : Nat), (enumP i0 xs)[i]? = (xs[i]?).map fun x => PV.tup [.int ((i0 + i : Nat) : Int), x]
  | [], _, _ => by simp [enumP]
  | x :: xs, i0, 0 => by simp [enumP]
  | x :: xs, i0, i + 1 => by
    unfold enumP
    rw [List.getElem?_cons_succ, List.getElem?_cons_succ, enumP_get xs (i0 + 1) i]
    have : i0 + 1 + i = i0 + (i + 1) := by omega
    rw [this]
theorem ok_pairs {K : PySem.W.Frag} {w : World} {S : Addr → Prop} {G : PH} {H : Hp} {i : Nat} {T : Addr} {x : V} {y : PV} (a : At K w S G H) (hT : H T = none) (r : RepV K w H y x) :
    Step S H (upd H T (.tup [.int (i : Nat), x])) ∧ At K w S G (upd H T (.tup [.int (i : Nat), x])) ∧ RepV K w (upd H T (.tup [.int (i : Nat), x])) (.tup [.int (i : Nat), y]) (.ref T) := by
  have st : Step S H (upd H T (.tup [.int (i : Nat), x])) := a.step_new hT
  exact ⟨st, a.silent hT, T, _, rfl, SqT.of upd_same, .int (i : Nat), _, rfl, rfl, x, _, rfl, r.mono st.toStay, rfl⟩
theorem ok_enumT {K : PySem.W.Frag} {w : World} {H0 : Hp} {a : Addr} {xs : List PV} {vs : List V} (h : SqT K H0 a vs) (l : RepL K w H0 xs vs) : ItOk K w H0 (IteT K a) (enumP 0 xs) [] := by
  intro S G H st at_ _ i
  have h' := st.sqT h
  have l' := l.mono st
  rw [enumP_len]
  refine ⟨fun hi => ⟨?_, ?_⟩, fun hi => ⟨vs, h', by rw [← l.length]; exact Nat.le_of_eq hi⟩⟩
  · have hv : i < vs.length := by rw [← l.length]; exact hi
    exact ⟨vs, vs[i], h', by simp [hv]⟩
  · rintro x H' ⟨T, v0, rfl, hT, rfl, k⟩
    obtain ⟨v, h1, h2⟩ := l'.get (i := i) (x := xs[i]) (by simp [hi])
    rw [k vs h'] at h1
    cases h1
    obtain ⟨p1, p2, p3⟩ := ok_pairs (i := i) at_ hT h2
    exact ⟨.tup [.int (i : Nat), xs[i]], by rw [enumP_get]; simp [hi], p1, p2, p3⟩
theorem ok_enumL {K : PySem.W.Frag} {w : World} {H0 : Hp} {a : Addr} {xs : List PV} {kp : Keep} (h : ∀ S G H, Stay H0 H → At K w S G H → Kept kp G → ∃ vs, SqL K H a vs ∧ RepL K w H xs vs) : ItOk K w H0 (Ite K a) (enumP 0 xs) kp := by
  intro S G H st at_ kk i
  obtain ⟨vs, h', l'⟩ := h S G H st at_ kk
  rw [enumP_len]
  refine ⟨fun hi => ⟨?_, ?_⟩, fun hi => ⟨vs, h', by rw [← l'.length]; exact Nat.le_of_eq hi⟩⟩
  · have hv : i < vs.length := by rw [← l'.length]; exact hi
    exact ⟨vs, vs[i], h', by simp [hv]⟩
  · rintro x H' ⟨T, v0, rfl, hT, rfl, k⟩
    obtain ⟨v, h1, h2⟩ := l'.get (i := i) (x := xs[i]) (by simp [hi])
    rw [k vs h'] at h1
    cases h1
    obtain ⟨p1, p2, p3⟩ := ok_pairs (i := i) at_ hT h2
    exact ⟨.tup [.int (i : Nat), xs[i]], by rw [enumP_get]; simp [hi], p1, p2, p3⟩
def wEnum (ta : TPE) : TPI := fun σ G R W => ta σ G (fun x G1 => match x with
      | .tup xs => R (enumP 0 xs) [] G1
      | .wl xs => R (enumP 0 xs) [] G1
      | .ref a => match G1 a with
        | some (.lst xs) => R (enumP 0 xs) [(a, .lst xs)] G1
        | _ => False
      | _ => False) W
theorem pi_enumP {X : Cx} {W : WX} {e : Expr} {ta : TPE} {p pos tpos : Pos} {elts : List Expr} {kk : Nat} (hg : Gl X "enumerate") (hm : X.mg "enumerate" = none) (h : PE X e (low X.K X.w W ta)) (hs : noStarE e = true) :
    PI X (.Tuple elts kk tpos) (.Call (.Name "enumerate" p) [e] [] pos) (lowI X.K X.w W (wEnum ta)) := by
  refine imp_i (pi_enumA hg hm h hs) ?_
  rintro σ H R ⟨S, σ', G, W', Q', s, t, k⟩
  refine low_bind s t fun x v G1 H1 st s1 r1 t1 => ?_
  cases x <;> first | exact (show False from t1).elim | skip
  · rename_i p
    cases r1
    dsimp only at t1
    split at t1
    · rename_i xs e1
      obtain ⟨vs, h1, l⟩ := ref_lst s1.at_ e1
      refine .inl ⟨p, vs, rfl, SqL.of h1, k _ _ G1 H1 _ st s1.at_ (ok_enumL fun S2 G2 H2 st2 a2 kk => ?_) t1⟩
      obtain ⟨us, h2, l2⟩ := ref_lst a2 (kk _ (List.mem_singleton.mpr rfl))
      exact ⟨us, SqL.of h2, l2⟩
    · exact t1.elim
  · rename_i xs
    obtain ⟨q, vs, rfl, hq, l⟩ := r1
    exact .inr ⟨q, vs, rfl, hq, k _ [] G1 H1 _ st s1.at_ (ok_enumT hq l) t1⟩
  · rename_i xs
    obtain ⟨q, vs, rfl, hq, l⟩ := r1
    exact .inl ⟨q, vs, rfl, hq.sq, k _ [] G1 H1 _ st s1.at_ (ok_enumL fun S2 G2 H2 st2 a2 _ => ⟨vs, (st2.fz hq).sq, l.mono st2⟩) t1⟩
end Fv
namespace Fv
open PySem PySem.Spec PyProof.Rows L2
theorem kd_get2 {X : Cx} {A : Around} {E : Value → Shared → Prop} {pins : List (Addr × Obj)} {σ : L2.St} {H : Hp} {s : Shared} {d : Addr} {es : Array DictEntry} {n : Nat} {z : Str} {t : Tok} {r : Value} {o : Option Value} {Q : Value → Shared → Prop} (D : KDict X.K X.w d es n) (I : Inv X pins σ H s) (e : PySem.W.nsIn X.K d z = some o)
    (h : ∀ tk, Q (o.getD r) { s with toks := tk }) : wpAny (model X.prog X.w) A (call (.builtin "dict.get") [.ref d, .str z t, r]) Q E s := by
  have mo := PySem.W.mapOf_K (prog := X.prog) (w := X.w) I.kIn D.at_ D.lit
  refine call_meetsIn PySem.F.slot_dict_get mo.typeIs PySem.F.entry_dict_get (PySem.F.args_dict_get_3 _ _ _) (meets_dict_get_default (PySem.strKind X.prog X.w) d (PySem.strKind_is X.prog X.w z t) D.low r) ⟨_, mo, ?_⟩
  rw [PySem.W.find_K D.at_ e]
  exact h _
theorem wd_look {K : PySem.W.Frag} {w : World} {H : Hp} {z : Str} : ∀ {ks : List Str} {xs : List PV} {vs : List V}, RepL K w H xs vs → ((ks.zip xs).lookup z = none ∧ (ks.zip vs).lookup z = none) ∨ ∃ x v, (ks.zip xs).lookup z = some x ∧ (ks.zip vs).lookup z = some v ∧ RepV K w H x v
  | [], _, _, _ => by simp
  | k :: ks, [], _, l => by cases l; simp
  | k :: ks, y :: xs, _, ⟨v, r, rfl, a, b⟩ => by
    rw [List.zip_cons_cons, List.zip_cons_cons, List.lookup_cons, List.lookup_cons]
    cases z == k with
    | true => exact .inr ⟨y, v, rfl, rfl, a⟩
    | false => exact wd_look b
theorem pe_getP {X : Cx} {W : WX} {ob e f : Expr} {te tv tw : TPE} {apos pos : Pos} (ho : PE X ob (low X.K X.w W te)) (he : PE X e (low X.K X.w W tv)) (hf : PE X f (low X.K X.w W tw)) (hb : plainBase ob = true) (hl : (apos.endLine == pos.line) = true) (h1 : noStarE e = true) (h2 : noStarE f = true) :
    PE X (.Call (.Attribute ob "get" apos) [e, f] [] pos) (low X.K X.w W fun σ G Q W => te σ G (fun x G1 => onWd x ∧ tv σ G1 (fun y G2 => tw σ G2 (fun d G3 => pGet x y d G3 Q) W) W) W) := by
  refine ⟨fun pins s σ H Q I h => ?_⟩
  obtain ⟨S, σ', G, W', Q', si, t1, bk⟩ := h
  have few := form_ok (args := [e, f]) (kws := []) (pos := pos) (env := X.env) (by simp [h1, h2]) rfl (by simp)
  refine wpAny_Call_method_late (base_ok hb) few hl rfl (thn (ho.run pins s σ H (fun v H1 => ∃ x G1, Step S H H1 ∧ At X.K X.w S G1 H1 ∧ RepV X.K X.w H1 x v ∧ onWd x ∧ tv σ' G1 (fun y G2 => tw σ' G2 (fun d G3 => pGet x y d G3 Q') W') W') I
    ⟨S, σ', G, W', _, si, t1, fun x v G1 H1 st1 a1 r1 q1 => ⟨x, G1, st1, a1, r1, q1⟩⟩) fun u s1 ⟨v, H1, I1, ru, x, G1, st1, a1, r1, q0, q1⟩ => ?_)
  cases x <;> first | exact (show False from q0).elim | skip
  rename_i ks xs
  obtain ⟨p, vs, rfl, ⟨_, ⟨es, n, D⟩, hz⟩, rl⟩ := r1
  obtain rfl : u = Value.ref p := ru
  have mo := PySem.W.mapOf_K (prog := X.prog) (w := X.w) I1.kIn D.at_ D.lit
  refine ⟨"dict", _, PySem.F.plainAttrs_dict, PySem.F.slot_dict_get, PySem.F.type_dict_get, mo.typeIs, fun a ea => ?_, ?_⟩
  · cases ea
    exact ⟨_, I1.kIn _ _ D.at_, rfl⟩
  · have e1 := no_star e [f] X.env h1
    have e2 := no_star f [] X.env h2
    rw [e1, e2]
    refine Calls.callWith_builtin rfl (Calls.evalArgs_plain (Calls.spliced_cons (thn (he.run pins s1 σ H1 (fun v H2 => ∃ y G2, Step S H1 H2 ∧ At X.K X.w S G2 H2 ∧ RepV X.K X.w H2 y v ∧ tw σ' G2 (fun d G3 => pGet (.wd ks xs) y d G3 Q') W') I1
      ⟨S, σ', G1, W', _, si.next st1 a1, q1, fun y v G2 H2 st2 a2 r2 q2 => ⟨y, G2, st2, a2, r2, q2⟩⟩) fun u2 s2 ⟨v2, H2, I2, ru2, y, G2, st2, a2, r2, q2⟩ => ?_)))
    refine Calls.spliced_cons (thn (hf.run pins s2 σ H2 (fun v H3 => ∃ d G3, Step S H2 H3 ∧ At X.K X.w S G3 H3 ∧ RepV X.K X.w H3 d v ∧ pGet (.wd ks xs) y d G3 Q') I2
      ⟨S, σ', G2, W', _, si.next (st1.trans st2) a2, q2, fun d v G3 H3 st3 a3 r3 q3 => ⟨d, G3, st3, a3, r3, q3⟩⟩) fun u3 s3 ⟨v3, H3, I3, ru3, d, G3, st3, a3, r3, q3⟩ => Calls.spliced_nil ?_)
    cases y <;> first | exact (show False from q3).elim | skip
    rename_i z ep
    cases r2
    obtain ⟨t, rfl⟩ := ru2
    obtain ⟨q3, q4⟩ := q3
    have st := st1.trans (st2.trans st3)
    rcases wd_look (z := z) (ks := ks) (rl.mono (st2.trans st3).toStay) with ⟨l1, l2⟩ | ⟨x, v, l1, l2, r⟩
    · rw [l1] at q4
      have ez := hz z
      rw [l2] at ez
      exact kd_get2 D I3 ez fun tk => ⟨v3, H3, I3.tok _, ru3, bk d v3 _ _ st a3 r3 q4⟩
    · rw [l1] at q4
      have ez := hz z
      rw [l2] at ez
      obtain ⟨u0, e0, ru0⟩ := ez
      exact kd_get2 D I3 e0 fun tk => ⟨v, H3, I3.tok _, ru0, bk x v _ _ st a3 r q4⟩
end Fv

set_option Elab.async false
set_option linter.all false
set_option maxRecDepth 100000
namespace Fv
open PySem PySem.Spec PyProof.Rows
open Sem (wp)
/-- a strict zip's cell -/
abbrev IsZs (h : Heap) (q TI TO : Addr) (f0 : Value) : Prop :=
  h.get? q = some { cls := .type "zip", dict := none, data := .fields #[f0, .bool false, .bool true, .ref TI, .ref TO], slots := #[] }
section
variable {prog : Program} {w : World} {A : Around} {E : Value → Shared → Prop} {s : Shared} {q TI TO i1 i2 : Addr} {fp1 fp2 : List Addr} {n1 n2 i : Nat} {P1 P2 : Nat → Value → Prop} {St1 St2 : Nat → Heap → Prop} {a1 a2 : Value}
theorem noe_item {it : Addr} {fp : List Addr} {n : Nat} {P : Nat → Value → Prop} {St : Nat → Heap → Prop} (D : Draws prog w A it fp n P St) {Q : Option Value → Shared → Prop} (hi : i < n) (st : St i s.heap)
    (k : ∀ x h' tk, P i x → St (i + 1) h' → Heap.SameBut it s.heap h' → Q (some x) { s with heap := h', toks := tk }) : wpAny (model prog w) A (Builtin.SmallTypes.nextOrEnd (.ref it)) Q E s := by
  unfold Builtin.SmallTypes.nextOrEnd
  exact wpAny_bind (wpAny_attempt (D.item i s _ _ hi st fun x h' tk a b c => wpAny_pure (k x h' tk a b c)))
theorem noe_end {it : Addr} {fp : List Addr} {n : Nat} {P : Nat → Value → Prop} {St : Nat → Heap → Prop} (D : Draws prog w A it fp n P St) {Q : Option Value → Shared → Prop} (st : St n s.heap)
    (k : ∀ h', Heap.ExtBut it s.heap h' → Q none { s with heap := h' }) : wpAny (model prog w) A (Builtin.SmallTypes.nextOrEnd (.ref it)) Q E s := by
  unfold Builtin.SmallTypes.nextOrEnd
  refine wpAny_bind (wpAny_attempt (D.done s _ _ st fun h' e eb he => ?_))
  obtain ⟨oe, hoe, hce⟩ := he
  exact wpAny_bind (wpAny_isInstance (T := "StopIteration") (b := true) ⟨oe, hoe, hce⟩ isSubtype_stop (wpAny_pure (k h' eb)))
theorem zs_item {Q : Value → Shared → Prop} (S : ZipSep2 q TI TO i1 i2 fp1 fp2) (D1 : Draws prog w A i1 fp1 n1 P1 St1) (D2 : Draws prog w A i2 fp2 n2 P2 St2)
    (hq : IsZs s.heap q TI TO .none) (hI : IsTupOf2 s.heap TI (.ref i1) (.ref i2)) (hO : IsTupOf2 s.heap TO a1 a2) (st1 : St1 i s.heap) (st2 : St2 i s.heap) (l1 : i < n1) (l2 : i < n2)
    (k : ∀ x1 x2 h' tk, P1 i x1 → P2 i x2 → IsZs h' q TI TO (rawInt s.heap.objs.size) → IsTupOf2 h' TO x1 x2 → St1 (i + 1) h' → St2 (i + 1) h' → IsTupOf2 h' s.heap.objs.size x1 x2 → h'.objs.size = s.heap.objs.size + 1 →
      (∀ c o, c ≠ q → c ≠ TO → c ≠ i1 → c ≠ i2 → s.heap.get? c = some o → h'.get? c = some o) → Q (.ref s.heap.objs.size) { s with heap := h', toks := tk }) :
    wpAny (model prog w) A (Builtin.«zip.__next__» ⟨[.ref q], []⟩) (fun fin s' => ∃ v, fin = .done (.ret v) ∧ Q v s') E s := by
  obtain ⟨hp, gg, dd, tk0, os⟩ := s
  show wpAny _ _ (field (.ref q) 2 >>= _) _ _ _
  refine wpAny_bind (wpAny_field hq rfl (x := .bool true) rfl ?_)
  show wpAny _ _ (field (.ref q) 3 >>= _) _ _ _
  refine wpAny_bind (wpAny_field hq rfl (x := .ref TI) rfl ?_)
  refine wpAny_bind (wpAny_seqItems hI rfl ?_)
  show wpAny _ _ (Builtin.SmallTypes.ownedTupleIsFree (.ref q) >>= _) _ _ _
  refine wpAny_bind ?_
  unfold Builtin.SmallTypes.ownedTupleIsFree
  refine wpAny_bind (wpAny_field hq rfl (x := .none) rfl (wpAny_pure ?_))
  simp only [if_true]
  refine wpAny_bind (wpAny_rule ?_)
  refine wpAny_bind (wpAny_field hq rfl (x := .ref TO) rfl ?_)
  refine wpAny_bind (wpAny_setField_rec hq (by simp) fun c0 hq0 e0 => ?_)
  replace hq0 : IsZs c0 q TI TO .ellipsis := hq0
  replace e0 : Heap.SameBut q hp c0 := e0
  refine wpAny_bind ?_
  simp only [List.zipIdx_cons, List.zipIdx_nil, List.forIn_cons, List.forIn_nil]
  refine wpAny_bind (wpAny_bind (wpAny_onRaise ?_))
  show wpAny _ _ (Builtin.SmallTypes.nextOrEnd (.ref i1)) _ _ ⟨c0, gg, dd, tk0, os⟩
  refine noe_item D1 l1 (D1.over st1 e0 S.zf1) fun x1 p1 tk1 hx1 sn1 hp1 => ?_
  replace hp1 : Heap.SameBut i1 c0 p1 := hp1
  have hU1 : IsTupOf2 p1 TO a1 a2 := hp1.extBut _ _ S.Ti1 (e0.extBut _ _ S.TOz hO)
  refine wpAny_bind (wpAny_seqItems (s := ⟨p1, gg, dd, tk1, os⟩) hU1 rfl ?_)
  refine wpAny_bind (updateSeq_IsTupOf2 (s := ⟨p1, gg, dd, tk1, os⟩) hU1 fun c1 hT1 e1 => ?_)
  replace hT1 : IsTupOf2 c1 TO x1 a2 := hT1
  replace e1 : Heap.SameBut TO p1 c1 := e1
  refine wpAny_bind (wpAny_letGo (wpAny_pure ?_))
  refine wpAny_bind (wpAny_bind (wpAny_onRaise ?_))
  show wpAny _ _ (Builtin.SmallTypes.nextOrEnd (.ref i2)) _ _ ⟨c1, gg, dd, tk1, os⟩
  refine noe_item D2 l2 (D2.over (D2.over (D2.over st2 e0 S.zf2) hp1 S.sep1_2) e1 S.Tf2) fun x2 p2 tk2 hx2 sn2 hp2 => ?_
  replace hp2 : Heap.SameBut i2 c1 p2 := hp2
  have hU2 : IsTupOf2 p2 TO x1 a2 := hp2.extBut _ _ S.Ti2 hT1
  refine wpAny_bind (wpAny_seqItems (s := ⟨p2, gg, dd, tk2, os⟩) hU2 rfl ?_)
  refine wpAny_bind (updateSeq_IsTupOf2 (s := ⟨p2, gg, dd, tk2, os⟩) hU2 fun c2 hT2 e2 => ?_)
  replace hT2 : IsTupOf2 c2 TO x1 x2 := hT2
  replace e2 : Heap.SameBut TO p2 c2 := e2
  refine wpAny_bind (wpAny_letGo (wpAny_pure (wpAny_pure ?_)))
  refine wpAny_bind (wpAny_seqItems (s := ⟨c2, gg, dd, tk2, os⟩) hT2 rfl ?_)
  refine wpAny_bind (wpAny_newTuple ?_)
  have hsz : c2.objs.size = hp.objs.size := by rw [e2.1, hp2.1, e1.1, hp1.1, e0.1]
  have hqq : IsZs c2 q TI TO .ellipsis := (e2.extBut _ _ S.TOz.symm (hp2.extBut _ _ S.zi2 (e1.extBut _ _ S.TOz.symm (hp1.extBut _ _ S.zi1 hq0))))
  have hkk : ∀ c o, c ≠ q → c ≠ TO → c ≠ i1 → c ≠ i2 → hp.get? c = some o → c2.get? c = some o := fun c o cz cT u1 u2 e =>
    (e2.extBut _ _ cT (hp2.extBut _ _ u2 (e1.extBut _ _ cT (hp1.extBut _ _ u1 (e0.extBut _ _ cz e)))))
  have hj1 : St1 (i + 1) c2 := (D1.over (D1.over (D1.over sn1 e1 S.Tf1) hp2 S.sep2_1) e2 S.Tf1)
  have hj2 : St2 (i + 1) c2 := (D2.over sn2 e2 S.Tf2)
  have hql : q < c2.objs.size := Heap.lt_size hqq
  show wpAny _ _ (Builtin.SmallTypes.ownedTupleHandOut (.ref q) (.ref c2.objs.size) >>= _) _ _ ⟨c2.push { cls := .type "tuple", data := .seq #[x1, x2] }, gg, dd, tk2, os⟩
  refine wpAny_bind ?_
  unfold Builtin.SmallTypes.ownedTupleHandOut
  have hq6 : IsZs (c2.push { cls := .type "tuple", data := .seq #[x1, x2] }) q TI TO .ellipsis := Heap.get?_push_of_some _ hqq
  refine wpAny_bind (wpAny_setField_rec hq6 (by simp) fun h7 hq7 e7 => ?_)
  replace hq7 : IsZs h7 q TI TO (rawInt c2.objs.size) := hq7
  refine wpAny_setField_rec hq7 (by simp) fun h8 hq8 e8 => ?_
  replace hq8 : IsZs h8 q TI TO (rawInt c2.objs.size) := hq8
  replace e7 : Heap.SameBut q (c2.push { cls := .type "tuple", data := .seq #[x1, x2] }) h7 := e7
  replace e8 : Heap.SameBut q h7 h8 := e8
  have up : ∀ c o, c ≠ q → c2.get? c = some o → h8.get? c = some o := fun c o u1 e => e8.extBut _ _ u1 (e7.extBut _ _ u1 (Heap.get?_push_of_some _ e))
  have hT8 : IsTupOf2 h8 c2.objs.size x1 x2 := e8.extBut _ _ (Nat.ne_of_gt hql) (e7.extBut _ _ (Nat.ne_of_gt hql) (Heap.get?_push_size _ rfl))
  have hz8 : h8.objs.size = c2.objs.size + 1 := by rw [e8.1, e7.1, Heap.size_push]
  rw [hsz] at hq8 hT8 hz8
  refine wpAny_pure ⟨_, rfl, ?_⟩
  show Q (.ref c2.objs.size) ⟨h8, gg, dd, tk2, os⟩
  rw [hsz]
  exact k x1 x2 h8 tk2 hx1 hx2 hq8 (up _ _ S.TOz hT2) (D1.frame _ _ _ hj1 fun b hb o e => up b o (fun z => S.zf1 (z ▸ hb)) e) (D2.frame _ _ _ hj2 fun b hb o e => up b o (fun z => S.zf2 (z ▸ hb)) e) hT8 hz8 fun c o cz cT u1 u2 e => up c o cz (hkk c o cz cT u1 u2 e)
theorem zs_end {Q : Fin → Shared → Prop} (hh : A.handled = none) (S : ZipSep2 q TI TO i1 i2 fp1 fp2) (D1 : Draws prog w A i1 fp1 i P1 St1) (D2 : Draws prog w A i2 fp2 i P2 St2)
    (hq : IsZs s.heap q TI TO .none) (hI : IsTupOf2 s.heap TI (.ref i1) (.ref i2)) (hO : IsTupOf2 s.heap TO a1 a2) (st1 : St1 i s.heap) (st2 : St2 i s.heap)
    (hE : ∀ h' tk e, (∀ c o, c ≠ q → c ≠ TO → c ≠ i1 → c ≠ i2 → s.heap.get? c = some o → h'.get? c = some o) → (∃ o, h'.get? e = some o ∧ o.cls = .type "StopIteration") → E (.ref e) { s with heap := h', toks := tk }) :
    wpAny (model prog w) A (Builtin.«zip.__next__» ⟨[.ref q], []⟩) Q E s := by
  obtain ⟨hp, gg, dd, tk0, os⟩ := s
  show wpAny _ _ (field (.ref q) 2 >>= _) _ _ _
  refine wpAny_bind (wpAny_field hq rfl (x := .bool true) rfl ?_)
  show wpAny _ _ (field (.ref q) 3 >>= _) _ _ _
  refine wpAny_bind (wpAny_field hq rfl (x := .ref TI) rfl ?_)
  refine wpAny_bind (wpAny_seqItems hI rfl ?_)
  show wpAny _ _ (Builtin.SmallTypes.ownedTupleIsFree (.ref q) >>= _) _ _ _
  refine wpAny_bind ?_
  unfold Builtin.SmallTypes.ownedTupleIsFree
  refine wpAny_bind (wpAny_field hq rfl (x := .none) rfl (wpAny_pure ?_))
  simp only [if_true]
  refine wpAny_bind (wpAny_rule ?_)
  refine wpAny_bind (wpAny_field hq rfl (x := .ref TO) rfl ?_)
  refine wpAny_bind (wpAny_setField_rec hq (by simp) fun c0 hq0 e0 => ?_)
  replace hq0 : IsZs c0 q TI TO .ellipsis := hq0
  replace e0 : Heap.SameBut q hp c0 := e0
  refine wpAny_bind ?_
  simp only [List.zipIdx_cons, List.zipIdx_nil, List.forIn_cons, List.forIn_nil]
  refine wpAny_bind (wpAny_bind (wpAny_onRaise ?_))
  show wpAny _ _ (Builtin.SmallTypes.nextOrEnd (.ref i1)) _ _ ⟨c0, gg, dd, tk0, os⟩
  refine noe_end D1 (D1.over st1 e0 S.zf1) fun p1 hp1 => ?_
  replace hp1 : Heap.ExtBut i1 c0 p1 := hp1
  have hq1 : IsZs p1 q TI TO .ellipsis := hp1 _ _ S.zi1 hq0
  show wpAny _ _ (setField (Value.ref q) 0 Value.none >>= _) _ _ _
  refine wpAny_bind (wpAny_setField_rec (s := ⟨p1, gg, dd, tk0, os⟩) hq1 (by simp) fun p2 hq2 e2 => ?_)
  replace e2 : Heap.SameBut q p1 p2 := e2
  refine wpAny_bind ?_
  show wpAny _ _ (forIn [(Value.ref i2, 1)] _ _ >>= _) _ _ _
  simp only [List.forIn_cons, List.forIn_nil]
  refine wpAny_bind (wpAny_bind (wpAny_bind (noe_end (s := ⟨p2, gg, dd, tk0, os⟩) D2 ?_ fun p3 hp3 => ?_)))
  · exact D2.over (D2.frame _ _ _ (D2.over st2 e0 S.zf2) fun b hb o e => hp1 b o (fun z => S.sep1_2 (z ▸ hb)) e) e2 S.zf2
  · replace hp3 : Heap.ExtBut i2 p2 p3 := hp3
    refine wpAny_pure (wpAny_pure (wpAny_bind (wpAny_rule ?_)))
    unfold Builtin.SmallTypes.stopIteration newExc newTuple
    refine wpAny_bind (wpAny_bind (wpAny_newObj_type ?_ (by size_fits)))
    refine wpAny_bind (m := firstArgMember _ _) (wpAny_of_eq (a := Value.none) (by first | rfl | (simp only [firstArgMember]; rfl)) ?_)
    refine wpAny_newObj_type ?_ (by size_fits)
    refine wpAny_raiseNew_none hh ?_
    refine hE _ tk0 _ (fun c o u0 u1 u2 u3 e => ?_) ⟨_, Heap.get?_push_size _ rfl, rfl⟩
    exact Heap.get?_push_of_some _ (Heap.get?_push_of_some _ (hp3 _ _ u3 (e2.extBut _ _ u0 (hp1 _ _ u2 (e0.extBut _ _ u0 e)))))
theorem zs_next_item {Q : Option Value → Shared → Prop} (S : ZipSep2 q TI TO i1 i2 fp1 fp2) (D1 : Draws prog w A.in1 i1 fp1 n1 P1 St1) (D2 : Draws prog w A.in1 i2 fp2 n2 P2 St2)
    (hq : IsZs s.heap q TI TO .none) (hI : IsTupOf2 s.heap TI (.ref i1) (.ref i2)) (hO : IsTupOf2 s.heap TO a1 a2) (st1 : St1 i s.heap) (st2 : St2 i s.heap) (l1 : i < n1) (l2 : i < n2)
    (k : ∀ x1 x2 h' tk, P1 i x1 → P2 i x2 → IsZs h' q TI TO (rawInt s.heap.objs.size) → IsTupOf2 h' TO x1 x2 → St1 (i + 1) h' → St2 (i + 1) h' → IsTupOf2 h' s.heap.objs.size x1 x2 → h'.objs.size = s.heap.objs.size + 1 →
      (∀ c o, c ≠ q → c ≠ TO → c ≠ i1 → c ≠ i2 → s.heap.get? c = some o → h'.get? c = some o) → Q (some (.ref s.heap.objs.size)) { s with heap := h', toks := tk }) :
    wpAny (model prog w) A (pyNext (.ref q)) Q E s := by
  have hT : s.TypeIs (.ref q) "zip" := ⟨_, hq, rfl⟩
  unfold pyNext
  exact wpAny_bind (wpAny_attempt (wpAny_callSpecial?_slot (name := Str.ofString "__next__") hT F.slot_zip_next
    (wpAny_call_entry F.slot_zip_next hT F.entry_zip_next
      (zs_item S D1 D2 hq hI hO st1 st2 l1 l2 fun x1 x2 h' tk y1 y2 b1 b2 d1 d2 b5 b6 b7 => wpAny_pure (k x1 x2 h' tk y1 y2 b1 b2 d1 d2 b5 b6 b7)) (F.args_zip_next_1 _))))
theorem zs_next_end {Q : Option Value → Shared → Prop} (hh : A.handled = none) (S : ZipSep2 q TI TO i1 i2 fp1 fp2) (D1 : Draws prog w A.in1 i1 fp1 i P1 St1) (D2 : Draws prog w A.in1 i2 fp2 i P2 St2)
    (hq : IsZs s.heap q TI TO .none) (hI : IsTupOf2 s.heap TI (.ref i1) (.ref i2)) (hO : IsTupOf2 s.heap TO a1 a2) (st1 : St1 i s.heap) (st2 : St2 i s.heap)
    (k : ∀ h' tk, (∀ c o, c ≠ q → c ≠ TO → c ≠ i1 → c ≠ i2 → s.heap.get? c = some o → h'.get? c = some o) → Q none { s with heap := h', toks := tk }) : wpAny (model prog w) A (pyNext (.ref q)) Q E s := by
  have hT : s.TypeIs (.ref q) "zip" := ⟨_, hq, rfl⟩
  unfold pyNext
  refine wpAny_bind (wpAny_attempt (wpAny_callSpecial?_slot (name := Str.ofString "__next__") hT F.slot_zip_next
    (wpAny_call_entry F.slot_zip_next hT F.entry_zip_next (zs_end hh S D1 D2 hq hI hO st1 st2 fun h' tk e hk he => ?_) (F.args_zip_next_1 _))))
  obtain ⟨o, ho, hc⟩ := he
  exact wpAny_bind (wpAny_isInstance (T := "StopIteration") (b := true) ⟨o, ho, hc⟩ isSubtype_stop (wpAny_pure (k _ _ hk)))
theorem zs_go {elts : List Expr} {x1} {pos : Pos} {T : Addr} {Q : Unit → Shared → Prop} (hq : IsZs s.heap q TI TO (rawInt T))
    (k : ∀ h', IsZs h' q TI TO .none → Heap.SameBut q s.heap h' → Q () { s with heap := h' }) : wpAny (model prog w) A (letOwnedTupleGo (.Tuple elts x1 pos) (.ref q) (.ref T)) Q E s := by
  unfold letOwnedTupleGo
  refine wpAny_bind (wpAny_load hq ?_)
  show wpAny _ _ (if ((["enumerate", "zip", "dict_itemiterator", "dict_reverseitemiterator", "odict_iterator", "itertools.zip_longest", "itertools.pairwise"].contains "zip") && ((#[rawInt T, .bool false, .bool true, .ref TI, .ref TO] : Array Value)[0]? == some (rawInt T))) = true then _ else _) Q E s
  rw [if_pos (by simp)]
  refine wpAny_bind (wpAny_rule ?_)
  show wpAny _ _ (setField (.ref q) 0 .none) Q E s
  exact wpAny_setField_rec hq (by simp) fun h' hq' e' => k h' hq' e'
theorem zs_iter {f0 : Value} {Q : Value → Shared → Prop} (hq : IsZs s.heap q TI TO f0) (k : Q (.ref q) s) : wpAny (model prog w) A (pyIter (.ref q)) Q E s := by
  have hT : s.TypeIs (.ref q) "zip" := ⟨_, hq, rfl⟩
  refine wpAny_pyIter_slot hT F.slot_zip_iter (wpAny_call_entry F.slot_zip_iter hT F.entry_zip_iter ?_ (F.args_zip_iter_1 _))
  show wpAny _ _ (ret (.ref q)) _ _ s
  exact wpAny_pure ⟨_, rfl, "zip", _, hT, F.slot_zip_next.lookup, k⟩
end
theorem typeCall_zs (a b c : Value) : checkTypeCall "zip" ⟨[a, b], [(Str.ofString "strict", c)]⟩ = pure () := by kernel_rfl
theorem newCall_zs (a b c : Value) : checkBuiltinCall "zip.__new__" ⟨[.type "zip", a, b], [(Str.ofString "strict", c)]⟩ = pure () := by kernel_rfl
theorem args_init_zs (obj a b c : Value) : argsOk "object.__init__" ⟨[obj, a, b], [(Str.ofString "strict", c)]⟩ := by unfold argsOk; kernel_rfl
abbrev zsH3 (h : Heap) (o1 o2 : Obj) : Heap := ((h.push o1).push o2).push { cls := .type "tuple", data := .seq #[.ref h.objs.size, .ref (h.push o1).objs.size] }
abbrev zsH4 (h : Heap) (o1 o2 : Obj) : Heap := (zsH3 h o1 o2).push { cls := .type "tuple", data := .seq #[.none, .none] }
abbrev zsH5 (h : Heap) (o1 o2 : Obj) : Heap := (zsH4 h o1 o2).push { cls := .type "zip", data := .fields #[.none, .bool false, .bool true, .ref ((h.push o1).push o2).objs.size, .ref (zsH3 h o1 o2).objs.size] }
set_option maxHeartbeats 1000000 in
theorem meets_zs_new {v1 v2 : Value} {o1 o2 : Obj} {J1 J2 : Heap → Prop} (B1 : Begins v1 o1 J1) (B2 : Begins v2 o2 J2) :
    Meets (Builtin.«zip.__new__» ⟨[.type "zip", v1, v2], [(Str.ofString "strict", .bool true)]⟩) (fun _ R s => J1 s.heap ∧ J2 s.heap ∧
      R (.ok (.ret (.ref (zsH4 s.heap o1 o2).objs.size))) { s with heap := zsH5 s.heap o1 o2 }) :=
  .of_wp fun prog w A R s h => by
    obtain ⟨hp, g, d, tk, os⟩ := s; obtain ⟨j1, j2, h⟩ := h
    have hsub := sub_zip
    have e1 : (Str.ofString "strict" != ("strict" : Str)) = false := by decide +kernel
    have r1 : ∀ {A' : Around} {E : Value → Shared → Prop} {Q : Value → Shared → Prop}, Q (.ref hp.objs.size) ⟨hp.push o1, g, d, tk, os⟩ → wpAny (model prog w) A' (pyIter v1) Q E ⟨hp, g, d, tk, os⟩ :=
      fun q => B1.iter prog w _ _ ⟨hp, g, d, tk, os⟩ _ j1 q
    have r2 : ∀ {A' : Around} {E : Value → Shared → Prop} {Q : Value → Shared → Prop}, Q (.ref (hp.push o1).objs.size) ⟨(hp.push o1).push o2, g, d, tk, os⟩ → wpAny (model prog w) A' (pyIter v2) Q E ⟨hp.push o1, g, d, tk, os⟩ :=
      fun q => B2.iter prog w _ _ ⟨hp.push o1, g, d, tk, os⟩ _ (B2.keeps _ _ j2 fun b o e => Heap.get?_push_of_some _ e) q
    wp_walk using r1, r2
    exact ⟨_, rfl, h⟩
section
variable {prog : Program} {w : World} {A : Around} {E : Value → Shared → Prop} {s : Shared}
theorem call_zs {v1 v2 : Value} {o1 o2 : Obj} {J1 J2 : Heap → Prop} {Q : Value → Shared → Prop} (B1 : Begins v1 o1 J1) (B2 : Begins v2 o2 J2) (j1 : J1 s.heap) (j2 : J2 s.heap)
    (k : ∀ h', IsZs h' (s.heap.objs.size + 4) (s.heap.objs.size + 2) (s.heap.objs.size + 3) .none → IsTupOf2 h' (s.heap.objs.size + 2) (.ref s.heap.objs.size) (.ref (s.heap.objs.size + 1)) →
      IsTupOf2 h' (s.heap.objs.size + 3) .none .none → h'.get? s.heap.objs.size = some o1 → h'.get? (s.heap.objs.size + 1) = some o2 → h'.objs.size = s.heap.objs.size + 5 →
      (∀ c o, s.heap.get? c = some o → h'.get? c = some o) → Q (.ref (s.heap.objs.size + 4)) { s with heap := h' }) :
    wpAny (model prog w) A (call (.type "zip") [v1, v2] [(Str.ofString "strict", .bool true)]) Q E s := by
  refine callType_newKw F.called_zip (by decide) (typeCall_zs _ _ _) (newCall_zs _ _ _) (fun obj => args_init_zs obj _ _ _) F.entry_zip_new (meets_zs_new B1 B2) ⟨j1, j2, ?_⟩
  have z1 : (s.heap.push o1).objs.size = s.heap.objs.size + 1 := Heap.size_push ..
  have z2 : ((s.heap.push o1).push o2).objs.size = s.heap.objs.size + 2 := by rw [Heap.size_push, z1]
  have z3 : (zsH3 s.heap o1 o2).objs.size = s.heap.objs.size + 3 := by rw [Heap.size_push, z2]
  have z4 : (zsH4 s.heap o1 o2).objs.size = s.heap.objs.size + 4 := by rw [Heap.size_push, z3]
  have z5 : (zsH5 s.heap o1 o2).objs.size = s.heap.objs.size + 5 := by rw [Heap.size_push, z4]
  have g5 : (zsH5 s.heap o1 o2).get? (zsH4 s.heap o1 o2).objs.size = some _ := Heap.get?_push_size _ rfl
  have g4 : (zsH5 s.heap o1 o2).get? (zsH3 s.heap o1 o2).objs.size = some _ := Heap.get?_push_of_some _ (Heap.get?_push_size _ rfl)
  have g3 : (zsH5 s.heap o1 o2).get? ((s.heap.push o1).push o2).objs.size = some _ := Heap.get?_push_of_some _ (Heap.get?_push_of_some _ (Heap.get?_push_size _ rfl))
  have g2 : (zsH5 s.heap o1 o2).get? (s.heap.push o1).objs.size = some _ := Heap.get?_push_of_some _ (Heap.get?_push_of_some _ (Heap.get?_push_of_some _ (Heap.get?_push_size _ B2.free)))
  have g1 : (zsH5 s.heap o1 o2).get? s.heap.objs.size = some _ := Heap.get?_push_of_some _ (Heap.get?_push_of_some _ (Heap.get?_push_of_some _ (Heap.get?_push_of_some _ (Heap.get?_push_size _ B1.free))))
  show _ ∧ _
  rw [z4] at g5 ⊢
  rw [z3] at g4
  rw [z2] at g3
  rw [z1] at g2
  have f5 : IsZs (zsH5 s.heap o1 o2) (s.heap.objs.size + 4) (s.heap.objs.size + 2) (s.heap.objs.size + 3) .none := by
    rw [← z3, ← z2]; exact g5
  have f3 : IsTupOf2 (zsH5 s.heap o1 o2) (s.heap.objs.size + 2) (.ref s.heap.objs.size) (.ref (s.heap.objs.size + 1)) := by
    rw [← z1]; exact g3
  exact ⟨⟨_, f5, rfl⟩, k _ f5 f3 g4 g1 g2 z5 fun c o x => Heap.get?_push_of_some _ (Heap.get?_push_of_some _ (Heap.get?_push_of_some _ (Heap.get?_push_of_some _ (Heap.get?_push_of_some _ x))))⟩
end
end Fv

set_option Elab.async false
set_option linter.all false
set_option maxRecDepth 100000
set_option maxHeartbeats 1000000
namespace Fv
open PySem PySem.Spec PyProof.Rows L2
/-- what a zip draws from: a list, a tuple, a text -/
inductive ZK where
  | l (a : Addr) | t (a : Addr) | s (z : Str)
def ZK.v : ZK → V
  | .l a => .ref a
  | .t a => .ref a
  | .s z => .str z
def ZK.st (it : Addr) (i : Nat) (h : Heap) : ZK → Prop
  | .l a => h.IsListIter it a i
  | .t a => h.IsTupleIter it a i
  | .s z => ∃ t, h.IsStrIter it (strIterType z) z t i
def ZK.fp (it : Addr) : ZK → List Addr
  | .l a => [it, a]
  | .t a => [it, a]
  | .s _ => [it]
def ZK.off (q : Addr) : ZK → Prop
  | .l a => a ≠ q
  | .t a => a ≠ q
  | .s _ => True
def signsV (z : Str) : List V := z.cps.toList.map fun c => V.str ⟨#[c]⟩
def ZK.has (K : PySem.W.Frag) (H : Hp) (xs : List V) : ZK → Prop
  | .l a => SqL K H a xs
  | .t a => SqT K H a xs
  | .s z => xs = signsV z
theorem ZK.st_at {k : ZK} {it : Addr} {i : Nat} {h h' : Heap} (x : k.st it i h) (e : ∀ o, h.get? it = some o → h'.get? it = some o) : k.st it i h' := by
  cases k with
  | l a => exact Heap.IsListIter.at x e
  | t a => exact Heap.IsTupleIter.at x e
  | s z => obtain ⟨t, o, ho, hc⟩ := x; exact ⟨t, o, e o ho, hc⟩
theorem ZK.st_ob {k : ZK} {it : Addr} {i : Nat} {h : Heap} (x : k.st it i h) : ∃ o, h.get? it = some o ∧ ∀ v, o.data ≠ .cell v := by
  cases k with
  | l a => obtain ⟨o, ho, hc, hd⟩ := x; exact ⟨o, ho, fun v q => by rw [hd] at q; cases q⟩
  | t a => obtain ⟨o, ho, hc, hd⟩ := x; exact ⟨o, ho, fun v q => by rw [hd] at q; cases q⟩
  | s z => obtain ⟨t, o, ho, hc, hd⟩ := x; exact ⟨o, ho, fun v q => by rw [hd] at q; cases q⟩
theorem vals_get' : ∀ {xs : List V} {us : List Value} {j : Nat} {u : Value}, Vals xs us → us[j]? = some u → ∃ x, xs[j]? = some x ∧ RelV x u
  | _, _, _, _, .nil, e => by simp at e
  | _, _, 0, _, .cons r _, e => by simp at e; subst e; exact ⟨_, rfl, r⟩
  | _, _, j + 1, u, .cons _ t, e => by
    obtain ⟨x, h1, h2⟩ := vals_get' (j := j) (u := u) t (by simpa using e)
    exact ⟨x, by simpa using h1, h2⟩
theorem ZK.mem_fp {k : ZK} {it : Addr} : it ∈ k.fp it := by cases k <;> simp [ZK.fp]
theorem ZK.nin {k : ZK} {it q : Addr} (h1 : it ≠ q) (h2 : k.off q) : q ∉ k.fp it := by
  cases k <;> simp [ZK.fp, ZK.off] at h2 ⊢
  · exact ⟨fun e => h1 e.symm, fun e => h2 e.symm⟩
  · exact ⟨fun e => h1 e.symm, fun e => h2 e.symm⟩
  · exact fun e => h1 e.symm
section
variable {X : Cx} {pins : List (Addr × Obj)} {σ : L2.St} {H : Hp} {s : Shared}
/-- the source's turns, as the machine draws them -/
theorem ZK.draws {A : Around} (hh : A.handled = none) (I : Inv X pins σ H s) {k : ZK} {xs : List V} (hx : k.has X.K H xs) {it : Addr} (ho : k.off it) {i : Nat} (st : k.st it i s.heap) :
    ∃ (P : Nat → Value → Prop) (St : Nat → Heap → Prop), Draws X.prog X.w A it (k.fp it) xs.length P St ∧ St i s.heap ∧ (∀ j h, St j h → k.st it j h) ∧ ∀ j v, P j v → ∃ x, xs[j]? = some x ∧ RelV x v := by
  cases k with
  | l a =>
    obtain ⟨its, rv, p, hz⟩ := I.list hx
    have D := Draws.list (prog := X.prog) (w := X.w) hh it a ho its.toArray
    have e : its.toArray.size = xs.length := by simp [rv.length]
    rw [e] at D
    refine ⟨_, _, D, ⟨st, p.isList⟩, fun j h z => z.1, fun j v e => ?_⟩
    have e' : its[j]? = some v := by simpa using e
    obtain ⟨x, h1, h2⟩ := vals_get' rv e'
    exact ⟨x, h1, h2⟩
  | t a =>
    obtain ⟨its, rv, p, hz⟩ := I.tuple hx
    have D := Draws.tuple (prog := X.prog) (w := X.w) hh it a ho its.toArray
    have e : its.toArray.size = xs.length := by simp [rv.length]
    rw [e] at D
    refine ⟨_, _, D, ⟨st, p⟩, fun j h z => z.1, fun j v e => ?_⟩
    have e' : its[j]? = some v := by simpa using e
    obtain ⟨x, h1, h2⟩ := vals_get' rv e'
    exact ⟨x, h1, h2⟩
  | s z =>
    obtain ⟨t, st⟩ := st
    obtain rfl : xs = signsV z := hx
    have el : z.cps.size = (signsV z).length := by simp [signsV]
    have ge : ∀ (j : Nat) (v : Value), (∃ c u, z.cps[j]? = some c ∧ v = .str ⟨#[c]⟩ u) → ∃ x, (signsV z)[j]? = some x ∧ RelV x v := by
      rintro j v ⟨c, u, hc, rfl⟩
      refine ⟨.str ⟨#[c]⟩, ?_, u, rfl⟩
      unfold signsV
      rw [List.getElem?_map]
      simp [hc]
    unfold strIterType at st
    cases ha : z.cps.all (· < 128) with
    | true =>
      rw [ha, if_pos rfl] at st
      have D := Draws.strAscii (prog := X.prog) (w := X.w) hh it z t
      rw [el] at D
      exact ⟨_, _, D, st, fun j h q => ⟨t, by unfold strIterType; rw [ha, if_pos rfl]; exact q⟩, ge⟩
    | false =>
      rw [ha, if_neg Bool.false_ne_true] at st
      have D := Draws.strWide (prog := X.prog) (w := X.w) hh it z t
      rw [el] at D
      exact ⟨_, _, D, st, fun j h q => ⟨t, by unfold strIterType; rw [ha, if_neg Bool.false_ne_true]; exact q⟩, ge⟩
end
/-- a zip's cell, strict or not -/
def IsZb (b : Bool) (h : Heap) (q TI TO : Addr) (f0 : Value) : Prop := match b with
  | true => IsZs h q TI TO f0
  | false => IsZip h q TI TO f0
theorem IsZb.get {b : Bool} {h : Heap} {q TI TO : Addr} {f0 : Value} (x : IsZb b h q TI TO f0) : h.get? q = some { cls := .type "zip", dict := none, data := .fields #[f0, .bool false, .bool b, .ref TI, .ref TO], slots := #[] } := by cases b <;> exact x
/-- the cells lie apart -/
structure ZAp (k1 k2 : ZK) (q TI TO i1 i2 : Addr) : Prop where
  TIq : TI ≠ q
  TOq : TO ≠ q
  TT : TI ≠ TO
  TI1 : TI ≠ i1
  TI2 : TI ≠ i2
  TO1 : i1 ≠ TO
  TO2 : i2 ≠ TO
  q1 : i1 ≠ q
  q2 : i2 ≠ q
  i12 : i1 ≠ i2
  o1q : k1.off q
  o1T : k1.off TO
  o11 : k1.off i1
  o12 : k1.off i2
  o2q : k2.off q
  o2T : k2.off TO
  o21 : k2.off i1
  o22 : k2.off i2
theorem ZAp.sep {k1 k2 : ZK} {q TI TO i1 i2 : Addr} (D : ZAp k1 k2 q TI TO i1 i2) : ZipSep2 q TI TO i1 i2 (k1.fp i1) (k2.fp i2) :=
  ⟨D.TIq, D.TOq, D.TT, D.TI1, ZK.mem_fp, ZK.nin D.q1 D.o1q, ZK.nin D.TO1 D.o1T, D.TI2, ZK.mem_fp, ZK.nin D.q2 D.o2q, ZK.nin D.TO2 D.o2T, ZK.nin (Ne.symm D.i12) D.o21, ZK.nin D.i12 D.o12⟩
def ItZ (K : PySem.W.Frag) (b : Bool) (k1 k2 : ZK) : L2.It :=
  ⟨fun i H => ∃ (xs ys : List V) (x y : V), k1.has K H xs ∧ k2.has K H ys ∧ xs[i]? = some x ∧ ys[i]? = some y,
    fun i H v H' => ∃ T x y, v = .ref T ∧ H T = none ∧ H' = upd H T (.tup [x, y]) ∧ (∀ xs, k1.has K H xs → xs[i]? = some x) ∧ ∀ ys, k2.has K H ys → ys[i]? = some y,
    fun i H => ∃ xs ys : List V, k1.has K H xs ∧ k2.has K H ys ∧ i ≤ xs.length ∧ i ≤ ys.length ∧ if b = true then i = xs.length ∧ i = ys.length else i = xs.length ∨ i = ys.length⟩
theorem ZK.inj {X : Cx} {pins : List (Addr × Obj)} {σ : L2.St} {H : Hp} {s : Shared} (I : Inv X pins σ H s) {k : ZK} {xs ys : List V} (h : k.has X.K H xs) (h2 : k.has X.K H ys) : xs = ys := by
  cases k with
  | l a => exact I.list_inj h h2
  | t a => exact I.tuple_inj h h2
  | s z => exact h.trans h2.symm
theorem turn_z {P : Program} {w : World} {K : PySem.W.Frag} {elts : List Expr} {kk : Nat} {tpos : Pos} {b : Bool} {k1 k2 : ZK} {q TI TO i1 i2 : Addr} (D : ZAp k1 k2 q TI TO i1 i2) :
    Turn P w K (.Tuple elts kk tpos) (ItZ K b k1 k2) [q, TI, TO, i1, i2] q (fun i h => IsZb b h q TI TO .none ∧ IsTupOf2 h TI (.ref i1) (.ref i2) ∧ (∃ x y, IsTupOf2 h TO x y) ∧ k1.st i1 i h ∧ k2.st i2 i h) where
  mem := by simp
  obj := fun i h st c hc => by
    obtain ⟨hz, hTI, ⟨x, y, hTO⟩, h1, h2⟩ := st
    have e' : c = q ∨ c = TI ∨ c = TO ∨ c = i1 ∨ c = i2 := by simpa using hc
    rcases e' with rfl | rfl | rfl | rfl | rfl
    · exact ⟨_, hz.get, fun v q => nomatch q⟩
    · exact ⟨_, hTI, fun v q => nomatch q⟩
    · exact ⟨_, hTO, fun v q => nomatch q⟩
    · exact ZK.st_ob h1
    · exact ZK.st_ob h2
  keep := fun i h h' st k => by
    obtain ⟨hz, hTI, ⟨x, y, hTO⟩, h1, h2⟩ := st
    refine ⟨?_, k TI (by simp) _ hTI, ⟨x, y, k TO (by simp) _ hTO⟩, ZK.st_at h1 fun o q => k i1 (by simp) o q, ZK.st_at h2 fun o q => k i2 (by simp) o q⟩
    cases b <;> exact k q (by simp) _ hz
  item := by
    intro X hP hw hK hc i pins s σ H E I hf st hg
    subst hP hw hK
    obtain ⟨hz, hTI, ⟨x0, y0, hTO⟩, h1, h2⟩ := st
    obtain ⟨xs, ys, x, y, hqx, hqy, hx, hy⟩ := hg
    have hh : X.A.in1.handled = none := I.ok.hd hc
    obtain ⟨P1, S1, D1, st1, f1, g1⟩ := ZK.draws hh I hqx D.o11 h1
    obtain ⟨P2, S2, D2, st2, f2, g2⟩ := ZK.draws hh I hqy D.o22 h2
    have hzl : q < s.heap.objs.size := Heap.lt_size hz.get
    have l1 : i < xs.length := (List.getElem?_eq_some_iff.1 hx).1
    have l2 : i < ys.length := (List.getElem?_eq_some_iff.1 hy).1
    have key : ∀ (R : Option Value → Shared → Prop), (∀ x1 x2 h' tk, P1 i x1 → P2 i x2 → IsZb b h' q TI TO (rawInt s.heap.objs.size) → IsTupOf2 h' TO x1 x2 → S1 (i + 1) h' → S2 (i + 1) h' → IsTupOf2 h' s.heap.objs.size x1 x2 → h'.objs.size = s.heap.objs.size + 1 →
        (∀ c o, c ≠ q → c ≠ TO → c ≠ i1 → c ≠ i2 → s.heap.get? c = some o → h'.get? c = some o) → R (some (.ref s.heap.objs.size)) { s with heap := h', toks := tk }) → wpAny (model X.prog X.w) X.A (pyNext (.ref q)) R E s := fun R k => by
      cases b with
      | true => exact zs_next_item D.sep D1 D2 hz hTI hTO st1 st2 l1 l2 k
      | false => exact wpAny_pyNext_zipD2_item D.sep D1 D2 hz hTI hTO st1 st2 l1 l2 k
    refine key _ fun u1 u2 h' tk p1 p2 z' TO' s1' s2' hT hsz hk => ?_
    obtain ⟨v1, e1, r1⟩ := g1 _ _ p1
    obtain ⟨v2, e2, r2⟩ := g2 _ _ p2
    rw [hx] at e1
    rw [hy] at e2
    cases e1
    cases e2
    have go : ∀ (R : Unit → Shared → Prop), (∀ h'', IsZb b h'' q TI TO .none → Heap.SameBut q h' h'' → R () { s with heap := h'', toks := tk }) → wpAny (model X.prog X.w) X.A (letOwnedTupleGo (.Tuple elts kk tpos) (.ref q) (.ref s.heap.objs.size)) R E { s with heap := h', toks := tk } := fun R k => by
      cases b with
      | true => exact zs_go (s := { s with heap := h', toks := tk }) z' k
      | false => exact wpAny_letOwnedTupleGo_zip (s := { s with heap := h', toks := tk }) z' k
    refine ⟨_, rfl, go _ fun h'' z'' sb => ?_⟩
    have hT2 : h''.get? s.heap.objs.size = some { cls := .type "tuple", data := .seq #[u1, u2] } := (sb.2 _ (Nat.ne_of_gt hzl)).trans hT
    have new : ObjOk X.prog X.w (upd H s.heap.objs.size (.tup [x, y])) h'' s.heap.objs.size (.tup [x, y]) :=
      ⟨by show 2 ≤ sizeLine; decide, [u1, u2], .cons r1 (.cons r2 .nil), ⟨_, hT2, rfl, _, rfl⟩⟩
    have I1 : Inv X pins σ (upd H s.heap.objs.size (.tup [x, y])) { s with heap := h'', toks := tk } :=
      I.turnedNew (t' := tk) (ch := [q, TI, TO, i1, i2]) (fun c o hb e => (sb.2 c (fun w => hb (by simp [w]))).trans (hk c o (fun w => hb (by simp [w])) (fun w => hb (by simp [w])) (fun w => hb (by simp [w])) (fun w => hb (by simp [w])) e)) hf (Nat.le_refl _) new
    refine ⟨.ref s.heap.objs.size, _, I1, rfl, ⟨_, x, y, rfl, I.hok.fresh (Nat.le_refl _), rfl, fun l hl => by rw [ZK.inj I hl hqx]; exact hx, fun l hl => by rw [ZK.inj I hl hqy]; exact hy⟩, ⟨z'', ?_, ⟨u1, u2, ?_⟩, ?_, ?_⟩, fun c hcm => ?_⟩
    · exact (sb.2 _ D.TIq).trans (hk _ _ D.TIq D.TT D.TI1 D.TI2 hTI)
    · exact (sb.2 _ D.TOq).trans TO'
    · exact ZK.st_at (f1 _ _ s1') fun o e => (sb.2 _ D.q1).trans e
    · exact ZK.st_at (f2 _ _ s2') fun o e => (sb.2 _ D.q2).trans e
    · have hlt : c < s.heap.objs.size := by
        have e' : c = q ∨ c = TI ∨ c = TO ∨ c = i1 ∨ c = i2 := by simpa using hcm
        rcases e' with rfl | rfl | rfl | rfl | rfl
        · exact hzl
        · exact Heap.lt_size hTI
        · exact Heap.lt_size hTO
        · obtain ⟨_, e1, _⟩ := ZK.st_ob h1; exact Heap.lt_size e1
        · obtain ⟨_, e2, _⟩ := ZK.st_ob h2; exact Heap.lt_size e2
      rw [upd_ne (Nat.ne_of_lt hlt)]
      exact (hf c hcm).1
  done := by
    intro X hP hw hK hc i pins s σ H E I hf st hg
    subst hP hw hK
    obtain ⟨hz, hTI, ⟨x0, y0, hTO⟩, h1, h2⟩ := st
    obtain ⟨xs, ys, hqx, hqy, le1, le2, hend⟩ := hg
    have hh : X.A.in1.handled = none := I.ok.hd hc
    obtain ⟨P1, S1, D1, st1, f1, g1⟩ := ZK.draws hh I hqx D.o11 h1
    obtain ⟨P2, S2, D2, st2, f2, g2⟩ := ZK.draws hh I hqy D.o22 h2
    have fin : ∀ h' tk, (∀ c o, c ≠ q → c ≠ TO → c ≠ i1 → c ≠ i2 → s.heap.get? c = some o → h'.get? c = some o) → (none : Option Value) = none ∧ Inv X pins σ H { s with heap := h', toks := tk } := fun h' tk hk => ⟨rfl, I.turnedL (t' := tk) (ch := [q, TI, TO, i1, i2]) (fun c o hb e =>
      hk c o (fun w => hb (by simp [w])) (fun w => hb (by simp [w])) (fun w => hb (by simp [w])) (fun w => hb (by simp [w])) e) hf⟩
    cases b with
    | true =>
      rw [if_pos rfl] at hend
      rw [← hend.1] at D1
      rw [← hend.2] at D2
      exact zs_next_end (I.ok.hd hc) D.sep D1 D2 hz hTI hTO st1 st2 fin
    | false =>
      rw [if_neg Bool.false_ne_true] at hend
      exact wpAny_pyNext_zipD2_end D.sep D1 D2 hz hTI hTO st1 st2 le1 le2 hend fin
  self := fun A i s Q E st h => by
    cases b with
    | true => exact zs_iter st.1 h
    | false => exact wpAny_pyIter_zip st.1 h
section
variable {X : Cx} {pins : List (Addr × Obj)} {σ : L2.St} {H : Hp} {s : Shared}
/-- the iterator over a source begins -/
theorem ZK.begins (I : Inv X pins σ H s) {k : ZK} {xs : List V} (hx : k.has X.K H xs) {u : Value} (r : RelV k.v u) : ∃ (o : Obj) (J : Heap → Prop), Begins u o J ∧ J s.heap ∧ (∀ h it, h.get? it = some o → k.st it 0 h) ∧ ∀ c, s.heap.objs.size ≤ c → k.off c := by
  cases k with
  | l a =>
    obtain ⟨its, rv, p, hz⟩ := I.list hx
    obtain rfl : u = Value.ref a := r
    exact ⟨_, _, begins_list a its.toArray, p.isList, fun h it e => ⟨_, e, rfl, rfl⟩, fun c hc => Nat.ne_of_lt (Nat.lt_of_lt_of_le p.lt hc)⟩
  | t a =>
    obtain ⟨its, rv, p, hz⟩ := I.tuple hx
    obtain rfl : u = Value.ref a := r
    have pt : s.heap.IsTuple a its.toArray := p
    obtain ⟨o1, ho1, _⟩ := id pt
    exact ⟨_, _, begins_tuple a its.toArray, pt, fun h it e => ⟨_, e, rfl, rfl⟩, fun c hc => Nat.ne_of_lt (Nat.lt_of_lt_of_le (Heap.lt_size ho1) hc)⟩
  | s z =>
    obtain ⟨t, rfl⟩ := r
    exact ⟨_, _, begins_text z t, trivial, fun h it e => ⟨t, _, e, rfl, rfl⟩, fun c hc => trivial⟩
theorem zap_new {k1 k2 : ZK} {n : Nat} (h1 : ∀ c, n ≤ c → k1.off c) (h2 : ∀ c, n ≤ c → k2.off c) : ZAp k1 k2 (n + 4) (n + 2) (n + 3) n (n + 1) :=
  have d : ∀ i j : Nat, i ≠ j → ¬ (n + i = n + j) := fun i j h e => h (Nat.add_left_cancel e)
  have l : ∀ i : Nat, n ≤ n + i := fun i => Nat.le_add_right n i
  ⟨d 2 4 (by decide), d 3 4 (by decide), d 2 3 (by decide), d 2 0 (by decide), d 2 1 (by decide), d 0 3 (by decide), d 1 3 (by decide), d 0 4 (by decide), d 1 4 (by decide), d 0 1 (by decide),
    h1 _ (l 4), h1 _ (l 3), h1 _ (l 0), h1 _ (l 1), h2 _ (l 4), h2 _ (l 3), h2 _ (l 0), h2 _ (l 1)⟩
/-- zip(a, b), zip(a, b, strict=True): made, and its iterator told -/
theorem zip_pie {b : Bool} {tg : Expr} {elts : List Expr} {kk : Nat} {tpos : Pos} (ht : tg = .Tuple elts kk tpos) (I : Inv X pins σ H s) {k1 k2 : ZK} {xs ys : List V} (hx : k1.has X.K H xs) (hy : k2.has X.K H ys) {u1 u2 : Value} (r1 : RelV k1.v u1) (r2 : RelV k2.v u2) {R : L2.It → Hp → Prop} (q : R (ItZ X.K b k1 k2) H)
    {kw : List (Str × Value)} (hk : kw = if b = true then [(Str.ofString "strict", .bool true)] else []) :
    wpAny (model X.prog X.w) X.A (call (.type "zip") [u1, u2] kw) (fun v s1 => wpAny (model X.prog X.w) X.A (pyIter v) (PIE X pins σ tg R) X.xe s1) X.xe s := by
  subst ht hk
  obtain ⟨o1, J1, B1, j1, f1, g1⟩ := ZK.begins I hx r1
  obtain ⟨o2, J2, B2, j2, f2, g2⟩ := ZK.begins I hy r2
  have fin : ∀ h', IsZb b h' (s.heap.objs.size + 4) (s.heap.objs.size + 2) (s.heap.objs.size + 3) .none → IsTupOf2 h' (s.heap.objs.size + 2) (.ref s.heap.objs.size) (.ref (s.heap.objs.size + 1)) →
      IsTupOf2 h' (s.heap.objs.size + 3) .none .none → h'.get? s.heap.objs.size = some o1 → h'.get? (s.heap.objs.size + 1) = some o2 → h'.objs.size = s.heap.objs.size + 5 →
      (∀ c o, s.heap.get? c = some o → h'.get? c = some o) → PIE X pins σ (.Tuple elts kk tpos) R (.ref (s.heap.objs.size + 4)) { s with heap := h' } := fun h' hz hI hO e1 e2 hsz hkp => by
    refine ⟨s.heap.objs.size + 4, [s.heap.objs.size + 4, s.heap.objs.size + 2, s.heap.objs.size + 3, s.heap.objs.size, s.heap.objs.size + 1], _, _, H, rfl, I.kept (t' := s.toks) hkp, turn_z (zap_new g1 g2), ⟨hz, hI, ⟨_, _, hO⟩, f1 _ _ e1, f2 _ _ e2⟩, fun c hcm => ?_, q⟩
    have e' : c = s.heap.objs.size + 4 ∨ c = s.heap.objs.size + 2 ∨ c = s.heap.objs.size + 3 ∨ c = s.heap.objs.size ∨ c = s.heap.objs.size + 1 := by simpa using hcm
    have hle : s.heap.objs.size ≤ c := by rcases e' with z | z | z | z | z <;> rw [z] <;> first | exact Nat.le_refl _ | exact Nat.le_add_right _ _
    exact I.fpOk hle (I.hok.fresh hle)
  cases b with
  | true =>
    rw [if_pos rfl]
    exact call_zs B1 B2 j1 j2 fun h' hz hI hO e1 e2 hsz hkp => zs_iter hz (fin h' hz hI hO e1 e2 hsz hkp)
  | false =>
    rw [if_neg Bool.false_ne_true]
    exact zip_begins2 B1 B2 j1 j2 fun h' hz hI hO e1 e2 hsz hkp => wpAny_pyIter_zip hz (fin h' hz hI hO e1 e2 hsz hkp)
end
section
variable {K : PySem.W.Frag} {w : World}
theorem signs_rep {H : Hp} {z : Str} : RepL K w H (signsP z) (signsV z) := by
  unfold signsP signsV
  induction z.cps.toList with
  | nil => rfl
  | cons c r ih => exact ⟨_, _, rfl, rfl, ih⟩
theorem src_of {S : Addr → Prop} {G : PH} {H : Hp} (a : At K w S G H) {x : PV} {v : V} (r : RepV K w H x v) {R : List PV → Keep → Prop} (q : pSrc x G R) :
    ∃ (k : ZK) (xs : List PV) (kp : Keep) (vs : List V), k.v = v ∧ R xs kp ∧ k.has K H vs ∧ Kept kp G ∧ ∀ S2 G2 H2, Stay H H2 → At K w S2 G2 H2 → Kept kp G2 → ∃ us, k.has K H2 us ∧ RepL K w H2 xs us := by
  unfold pSrc at q
  split at q <;> first | exact q.elim | skip
  · obtain ⟨p, vs, rfl, h, l⟩ := r
    exact ⟨.t p, _, [], vs, rfl, q, h, (fun _ z => nomatch z), fun S2 G2 H2 st a2 _ => ⟨vs, st.sqT h, l.mono st⟩⟩
  · obtain ⟨p, vs, rfl, h, l⟩ := r
    exact ⟨.l p, _, [], vs, rfl, q, h.sq, (fun _ z => nomatch z), fun S2 G2 H2 st a2 _ => ⟨vs, (st.fz h).sq, l.mono st⟩⟩
  · cases r
    exact ⟨.s _, _, [], _, rfl, q, rfl, (fun _ z => nomatch z), fun S2 G2 H2 st a2 _ => ⟨_, rfl, signs_rep⟩⟩
  · rename_i p
    cases r
    split at q <;> first | exact q.elim | skip
    rename_i xs e
    obtain ⟨vs, h, l⟩ := ref_lst a e
    refine ⟨.l p, xs, _, vs, rfl, q, SqL.of h, fun z hz => ?_, fun S2 G2 H2 st a2 kk => ?_⟩
    · obtain rfl := List.mem_singleton.1 hz; exact e
    · obtain ⟨us, h2, l2⟩ := ref_lst a2 (kk _ (List.mem_singleton.mpr rfl))
      exact ⟨us, SqL.of h2, l2⟩
theorem zipP_get : ∀ {xs ys : List PV} {i : Nat} {x y : PV}, xs[i]? = some x → ys[i]? = some y → (zipP xs ys)[i]? = some (.tup [x, y])
  | [], _, _, _, _, h, _ => by simp at h
  | _ :: _, [], _, _, _, _, h => by simp at h
  | a :: xs, b :: ys, 0, x, y, h1, h2 => by simp at h1 h2; subst h1 h2; rfl
  | a :: xs, b :: ys, i + 1, x, y, h1, h2 => by
    unfold zipP
    rw [List.getElem?_cons_succ]
    exact zipP_get (by simpa using h1) (by simpa using h2)
theorem zipP_len : ∀ (xs ys : List PV), (zipP xs ys).length = min xs.length ys.length
  | [], _ => by simp [zipP]
  | _ :: _, [] => by simp [zipP]
  | a :: xs, b :: ys => by
    unfold zipP
    rw [List.length_cons, zipP_len xs ys, List.length_cons, List.length_cons]
    omega
theorem ok_zip {H0 : Hp} {b : Bool} {k1 k2 : ZK} {xs ys : List PV} {kp1 kp2 : Keep} (hb : b = true → xs.length = ys.length)
    (h1 : ∀ S2 G2 H2, Stay H0 H2 → At K w S2 G2 H2 → Kept kp1 G2 → ∃ us, k1.has K H2 us ∧ RepL K w H2 xs us)
    (h2 : ∀ S2 G2 H2, Stay H0 H2 → At K w S2 G2 H2 → Kept kp2 G2 → ∃ us, k2.has K H2 us ∧ RepL K w H2 ys us) : ItOk K w H0 (ItZ K b k1 k2) (zipP xs ys) (kp1 ++ kp2) := by
  intro S G H st at_ kk i
  obtain ⟨us, a1, l1⟩ := h1 S G H st at_ fun z hz => kk z (List.mem_append_left _ hz)
  obtain ⟨vs, a2, l2⟩ := h2 S G H st at_ fun z hz => kk z (List.mem_append_right _ hz)
  rw [zipP_len]
  have e1 := l1.length
  have e2 := l2.length
  refine ⟨fun hi => ?_, fun hi => ?_⟩
  · have i1 : i < us.length := by omega
    have i2 : i < vs.length := by omega
    have j1 : i < xs.length := by omega
    have j2 : i < ys.length := by omega
    refine ⟨⟨us, vs, us[i], vs[i], a1, a2, by simp [i1], by simp [i2]⟩, ?_⟩
    rintro x H' ⟨T, u, v, rfl, hT, rfl, g1, g2⟩
    obtain ⟨u', f1, r1⟩ := l1.get (i := i) (x := xs[i]) (by simp [j1])
    obtain ⟨v', f2, r2⟩ := l2.get (i := i) (x := ys[i]) (by simp [j2])
    rw [g1 us a1] at f1
    rw [g2 vs a2] at f2
    cases f1
    cases f2
    have st1 : Step S H (upd H T (.tup [u, v])) := at_.step_new hT
    exact ⟨.tup [xs[i], ys[i]], zipP_get (by simp [j1]) (by simp [j2]), st1, at_.silent hT, T, _, rfl, SqT.of upd_same, u, _, rfl, r1.mono st1.toStay, v, _, rfl, r2.mono st1.toStay, rfl⟩
  · refine ⟨us, vs, a1, a2, by omega, by omega, ?_⟩
    cases b with
    | true => rw [if_pos rfl]; have := hb rfl; omega
    | false => rw [if_neg Bool.false_ne_true]; omega
end
section
variable {X : Cx} {W : WX} {e1 e2 : Expr} {p pos : Pos} {ta tb : TPE}
/-- the keyword strict=True, or none -/
def zkw (b : Bool) (kws : List Keyword) : Prop := if b = true then ∃ j p q, kws = [⟨some "strict", .Constant (.bool true) j p, q⟩] else kws = []
theorem pi_zipP {b : Bool} {kws : List Keyword} {elts : List Expr} {kk : Nat} {tpos : Pos} (hg : Gl X "zip") (hm : X.mg "zip" = none) (h1 : PE X e1 (low X.K X.w W ta)) (h2 : PE X e2 (low X.K X.w W tb)) (hs1 : noStarE e1 = true) (hs2 : noStarE e2 = true) (hk : zkw b kws) :
    PI X (.Tuple elts kk tpos) (.Call (.Name "zip" p) [e1, e2] kws pos) (lowI X.K X.w W (wZip b ta tb)) := by
  refine ⟨fun pins s σ H R I h => ?_⟩
  obtain ⟨S, σ', G, W', Q', si, t, k⟩ := h
  have ha := pa_consP h1 (pa_consP h2 pa_nilP (no_star e2 [] X.env hs2)) (no_star e1 [e2] X.env hs1)
  have hN : (kws.all fun k => k.arg.isSome) = true := by
    unfold zkw at hk
    cases b with
    | true => rw [if_pos rfl] at hk; obtain ⟨_, _, _, rfl⟩ := hk; rfl
    | false => rw [if_neg Bool.false_ne_true] at hk; subst hk; rfl
  obtain ⟨n1, n2⟩ := kw_all (pos := pos) (env := X.env) kws hN
  have hK : PK X kws (lowA X.K X.w W (if b = true then wCons (wCst (.bl true)) wNil else wNil)) := by
    unfold zkw at hk
    cases b with
    | true =>
      rw [if_pos rfl] at hk
      obtain ⟨j, p1, q1, rfl⟩ := hk
      exact pk_consP (imp_e pe_bl (fun σ H Q ⟨S, σ', G, W', Q', s, t, b⟩ => b (.bl true) (.bl true) G H Step.refl s.at_ rfl t)) pk_nilP
    | false => rw [if_neg Bool.false_ne_true] at hk; subst hk; exact pk_nilP
  refine wpAny_Call_Name_kw (ld_blt I hg hm PyProof.Rows.boot_zip (PySem.W.callWith_of (P := fun _ => True) (by rw [n2, Bool.or_false]; exact plain_args [e1, e2] X.env pos (by simp [hs1, hs2])) (fun _ _ => ⟨.machine, .inr (.inl rfl), .now⟩) (evalArgs_kw2 n1 ?_ (no_star e1 [e2] X.env hs1))))
  refine thn (ha.run pos pins s σ H (fun vs H1 => ∃ x y G1, Step S H H1 ∧ At X.K X.w S G1 H1 ∧ RepL X.K X.w H1 [x, y] vs ∧ pSrc x G1 fun xs k1 => pSrc y G1 fun ys k2 => (b = true → xs.length = ys.length) ∧ Q' (zipP xs ys) (k1 ++ k2) G1) I
    ⟨S, σ', G, W', fun vs G1 => match vs with | [x, y] => pSrc x G1 fun xs k1 => pSrc y G1 fun ys k2 => (b = true → xs.length = ys.length) ∧ Q' (zipP xs ys) (k1 ++ k2) G1 | _ => False, si, t, ?_⟩) fun us s1 ⟨vs, H1, I1, rv, x, y, G1, st1, a1, rl, q1⟩ => ?_
  · intro xs vs G1 H1 st a r q
    match xs, q with
    | [x, y], q => exact ⟨x, y, G1, st, a, r, q⟩
  · obtain ⟨v1, _, rfl, l1, v2, _, rfl, l2, rfl⟩ := rl
    obtain ⟨k1, xs, kp1, vs1, ev1, q1, hx1, kk1, o1⟩ := src_of a1 l1 q1
    obtain ⟨k2, ys, kp2, vs2, ev2, q1, hx2, kk2, o2⟩ := src_of a1 l2 q1
    subst ev1 ev2
    obtain ⟨u1, u2, rfl, r1, r2⟩ := Vals.two rv
    refine thn (hK.run pos pins s1 σ H1 (fun zs H2 => Step S H1 H2 ∧ At X.K X.w S G1 H2 ∧ zs = if b = true then [V.bl true] else []) I1 ?_) fun ws s2 ⟨zs, H2, I2, rz, st2, a2, ez⟩ => ⟨trivial, ?_⟩
    · cases b with
      | true => exact ⟨S, σ', G1, W', fun zs G2 => zs = [.bl true] ∧ G2 = G1, si.next st1 a1, ⟨rfl, rfl⟩, fun xs vs G2 H2 st a r ⟨e1, e2⟩ => by
          subst e1 e2
          obtain ⟨v, _, rfl, rfl, rfl⟩ := r
          exact ⟨st, a, rfl⟩⟩
      | false => exact ⟨S, σ', G1, W', fun zs G2 => zs = [] ∧ G2 = G1, si.next st1 a1, ⟨rfl, rfl⟩, fun xs vs G2 H2 st a r ⟨e1, e2⟩ => by
          subst e1 e2
          obtain rfl := r
          exact ⟨st, a, rfl⟩⟩
    · rw [kw_names]
      obtain ⟨us1, hy1, m1⟩ := o1 S G1 H2 st2.toStay a2 kk1
      obtain ⟨us2, hy2, m2⟩ := o2 S G1 H2 st2.toStay a2 kk2
      refine zip_pie (b := b) rfl I2 hy1 hy2 r1 r2 (k _ _ _ _ _ (st1.trans st2) a2 (ok_zip q1.1 (fun S3 G3 H3 st3 => o1 S3 G3 H3 ⟨fun p xs h => st3.tup p xs (st2.tup p xs h), fun p o u h => st3.frz p o u (st2.frz p o u h)⟩) (fun S3 G3 H3 st3 => o2 S3 G3 H3 ⟨fun p xs h => st3.tup p xs (st2.tup p xs h), fun p o u h => st3.frz p o u (st2.frz p o u h)⟩)) q1.2) ?_
      subst ez
      unfold zkw at hk
      cases b with
      | true =>
        rw [if_pos rfl] at hk rz ⊢
        obtain ⟨j, p1, q1, rfl⟩ := hk
        obtain ⟨w1, rfl, rw1⟩ := Vals.one rz
        obtain rfl : w1 = Value.bool true := rw1
        rfl
      | false =>
        rw [if_neg Bool.false_ne_true] at hk rz ⊢
        subst hk
        rfl
end
end Fv

set_option Elab.async false
set_option linter.all false
set_option maxRecDepth 100000
set_option maxHeartbeats 1000000
namespace Fv
open PySem PySem.Spec PyProof.Rows L2
section
variable {K : PySem.W.Frag} {w : World}
theorem strs_rep {H : Hp} : ∀ {ys : List PV} {vs : List V} {zs : List Str}, RepL K w H ys vs → strsP ys = some zs → vs = zs.map V.str
  | [], _, _, l, e => by cases l; cases e; rfl
  | y :: ys, _, zs, ⟨v, t, rfl, a, b⟩, e => by
    cases y <;> first | (unfold strsP at e; cases e; done) | skip
    unfold strsP at e
    cases a
    cases h : strsP ys with
    | none => rw [h] at e; cases e
    | some r => rw [h] at e; cases e; rw [strs_rep b h]; rfl
theorem strs_back {H : Hp} : ∀ zs : List Str, RepL K w H (zs.map PV.str) (zs.map V.str)
  | [] => rfl
  | z :: zs => ⟨_, _, rfl, rfl, strs_back zs⟩
theorem seq_rep {S : Addr → Prop} {G : PH} {H : Hp} (a : At K w S G H) {y : PV} {v : V} (r : RepV K w H y v) {R : List PV → Prop} (q : pSeq y G R) : ∃ p ys vs, v = .ref p ∧ R ys ∧ RepL K w H ys vs ∧ (SqL K H p vs ∨ SqT K H p vs) := by
  unfold pSeq at q
  split at q <;> first | exact q.elim | skip
  · obtain ⟨p, vs, rfl, h, l⟩ := r; exact ⟨p, _, vs, rfl, q, l, .inr h⟩
  · obtain ⟨p, vs, rfl, h, l⟩ := r; exact ⟨p, _, vs, rfl, q, l, .inl h.sq⟩
  · cases r
    split at q <;> first | exact q.elim | skip
    rename_i e
    obtain ⟨vs, h, l⟩ := ref_lst a e
    exact ⟨_, _, vs, rfl, q, l, .inl (SqL.of h)⟩
theorem lst_rep {S : Addr → Prop} {G : PH} {H : Hp} (a : At K w S G H) {y : PV} {v : V} (r : RepV K w H y v) {R : Addr → List PV → Prop} (q : pLst y G R) : ∃ p ys vs, y = .ref p ∧ v = .ref p ∧ G p = some (.lst ys) ∧ H p = some (.lst vs) ∧ RepL K w H ys vs ∧ R p ys := by
  unfold pLst at q
  split at q <;> first | exact q.elim | skip
  cases r
  split at q <;> first | exact q.elim | skip
  rename_i e
  obtain ⟨vs, h, l⟩ := ref_lst a e
  exact ⟨_, _, vs, rfl, rfl, e, h, l, q⟩
theorem idx_rep {H : Hp} {y : PV} {u : V} (ry : RepV K w H y u) (fy : flatP y = true) : ∀ {ys : List PV} {vs : List V} {j : Nat}, RepL K w H ys vs → ys.all flatP = true → idxP y ys = some j →
    ∃ z, vs[j]? = some z ∧ eqV z u = true ∧ ∀ m z', m < j → vs[m]? = some z' → eqV z' u = false
  | [], _, _, _, _, e => by cases e
  | x :: ys, _, j, ⟨v, t, rfl, a, b⟩, h, e => by
    rw [List.all_cons, Bool.and_eq_true] at h
    unfold idxP at e
    have fe := feq_of a ry h.1 fy
    split at e
    · rename_i h1
      cases e
      exact ⟨v, rfl, fe.trans h1, fun m z' hm _ => absurd hm (Nat.not_lt_zero _)⟩
    · rename_i h1
      cases h2 : idxP y ys with
      | none => rw [h2] at e; cases e
      | some i =>
        rw [h2] at e
        cases e
        obtain ⟨z, g1, g2, g3⟩ := idx_rep ry fy b h.2 h2
        refine ⟨z, by simpa using g1, g2, fun m z' hm hz => ?_⟩
        cases m with
        | zero => simp at hz; subst hz; rw [fe]; simpa using h1
        | succ m => exact g3 m z' (by have hm : m + 1 < i + 1 := hm; omega) (by simpa using hz)
theorem RepL.rev {H : Hp} : ∀ {xs : List PV} {vs : List V}, RepL K w H xs vs → RepL K w H xs.reverse vs.reverse
  | [], _, l => by cases l; rfl
  | x :: xs, _, ⟨v, t, rfl, a, b⟩ => by
    rw [List.reverse_cons, List.reverse_cons]
    exact (RepL.rev b).app (RepL.one a)
theorem RepL.erase {H : Hp} : ∀ {xs : List PV} {vs : List V} (j : Nat), RepL K w H xs vs → RepL K w H (xs.eraseIdx j) (vs.eraseIdx j)
  | [], _, _, l => by cases l; simp [RepL]
  | x :: xs, _, 0, ⟨v, t, rfl, a, b⟩ => b
  | x :: xs, _, j + 1, ⟨v, t, rfl, a, b⟩ => ⟨v, _, rfl, a, RepL.erase j b⟩
end
def Bm.T : Bm → String
  | .join => "str" | .split => "str" | .splitM => "str" | .starts => "str" | .remPre => "str"
  | .ext => "list" | .index => "list" | .rev => "list" | .clear => "list" | .popAt => "list"
def Bm.id : Bm → String
  | .join => "str.join" | .split => "str.split" | .splitM => "str.split" | .starts => "str.startswith" | .remPre => "str.removeprefix"
  | .ext => "list.extend" | .index => "list.index" | .rev => "list.reverse" | .clear => "list.clear" | .popAt => "list.pop"
theorem Bm.pa : ∀ m : Bm, PlainAttrs m.T
  | .join => PySem.F.plainAttrs_str | .split => PySem.F.plainAttrs_str | .splitM => PySem.F.plainAttrs_str | .starts => PySem.F.plainAttrs_str | .remPre => PySem.F.plainAttrs_str
  | .ext => PySem.F.plainAttrs_list | .index => PySem.F.plainAttrs_list | .rev => PySem.F.plainAttrs_list | .clear => PySem.F.plainAttrs_list | .popAt => PySem.F.plainAttrs_list
theorem Bm.slot : ∀ m : Bm, Slot m.T m.name m.id
  | .join => PySem.F.slot_str_join | .split => PySem.F.slot_str_split | .splitM => PySem.F.slot_str_split | .starts => PySem.F.slot_str_startswith | .remPre => PySem.F.slot_str_removeprefix
  | .ext => PySem.F.slot_list_extend | .index => PySem.F.slot_list_index | .rev => PySem.F.slot_list_reverse | .clear => PySem.F.slot_list_clear | .popAt => PySem.F.slot_list_pop
theorem Bm.ty : ∀ m : Bm, typeOf (.builtin m.id) = pure (.type "method_descriptor")
  | .join => PySem.F.type_str_join | .split => PySem.F.type_str_split | .splitM => PySem.F.type_str_split | .starts => PySem.F.type_str_startswith | .remPre => PySem.F.type_str_removeprefix
  | .ext => PySem.F.type_list_extend | .index => PySem.F.type_list_index | .rev => PySem.F.type_list_reverse | .clear => PySem.F.type_list_clear | .popAt => PySem.F.type_list_pop
/-- a method's call, by values -/
def lowM2 (K : PySem.W.Frag) (w : World) (r : PV → List PV → PH → VP → Prop) : V → List V → Hp → VK → Prop := fun x xs H Q => ∃ S G x' xs' Q', At K w S G H ∧ RepV K w H x' x ∧ RepL K w H xs' xs ∧ r x' xs' G Q' ∧ Back K w S H Q' Q
section
variable {X : Cx}
theorem new_strs {S : Addr → Prop} {G : PH} {H : Hp} {Q' : VP} {Q : VK} (a : At X.K X.w S G H) (bk : Back X.K X.w S H Q' Q) {zs : List Str} (q : newStrs zs G Q') : rNewStrs zs H Q := fun p hp => bk.newL a (strs_back zs) q p hp
theorem put_lst {S : Addr → Prop} {G : PH} {H : Hp} {Q' : VP} {Q : VK} (a : At X.K X.w S G H) (bk : Back X.K X.w S H Q' Q) {p : Addr} {xs ys : List PV} {us : List V} (e : G p = some (.lst xs)) (l : RepL X.K X.w H ys us) {x : PV} {v : V} (r : RepV X.K X.w H x v) (q : Q' x (pu G p (.lst ys))) : Q v (upd H p (.lst us)) := by
  have sp : Step S H (upd H p (.lst us)) := a.step_put e
  exact bk x v _ _ sp (a.put (u := .lst ys) e ⟨_, upd_same, l.mono sp.toStay⟩) (r.mono sp.toStay) q
theorem mtBm : ∀ m : Bm, MtR X m.id (lowM2 X.K X.w (pBm m)) := by
  rintro m pins s σ H x xs v us Q I rx rs ⟨S, G, x', xs', Q', a, r1, l, q, bk⟩
  cases m
  · have q : mJoin x' xs' G Q' := q
    unfold mJoin at q
    split at q <;> first | exact q.elim | skip
    obtain ⟨y, _, rfl, ry, rfl⟩ := l
    cases r1
    obtain ⟨p, ys, vs, rfl, q, lq, hp⟩ := seq_rep a ry q
    split at q <;> first | exact q.elim | skip
    rename_i zs ez
    have ev := strs_rep lq ez
    subst ev
    exact mt_join pins s σ H _ _ v us Q I rx rs ⟨_, p, zs, rfl, rfl, hp, q.1, bk.same a rep_str q.2⟩
  · have q : mSplit x' xs' G Q' := q
    unfold mSplit at q
    split at q <;> first | exact q.elim | skip
    obtain ⟨y, _, rfl, ry, rfl⟩ := l
    cases r1
    cases ry
    exact mt_split pins s σ H _ _ v us Q I rx rs ⟨_, _, rfl, rfl, q.1, q.2.1, new_strs a bk q.2.2⟩
  · have q : mSplitM x' xs' G Q' := q
    unfold mSplitM at q
    split at q <;> first | exact q.elim | skip
    obtain ⟨y, _, rfl, ry, z, _, rfl, rz, rfl⟩ := l
    cases r1
    cases ry
    cases rz
    exact mt_splitMax pins s σ H _ _ v us Q I rx rs ⟨_, _, _, rfl, rfl, q.1, q.2.1, q.2.2.1, q.2.2.2.1, new_strs a bk q.2.2.2.2⟩
  · have q : mStarts x' xs' G Q' := q
    unfold mStarts at q
    split at q <;> first | exact q.elim | skip
    obtain ⟨y, _, rfl, ry, rfl⟩ := l
    cases r1
    cases ry
    exact mt_startswith pins s σ H _ _ v us Q I rx rs ⟨_, _, rfl, rfl, bk.same a rep_bl q⟩
  · have q : mRemPre x' xs' G Q' := q
    unfold mRemPre at q
    split at q <;> first | exact q.elim | skip
    obtain ⟨y, _, rfl, ry, rfl⟩ := l
    cases r1
    cases ry
    exact mt_removeprefix pins s σ H _ _ v us Q I rx rs ⟨_, _, rfl, rfl, q.1, bk.same a rep_str q.2⟩
  · have q : mExt x' xs' G Q' := q
    obtain ⟨p, ys, vs, rfl, rfl, e, h, lq, q⟩ := lst_rep a r1 q
    split at q <;> first | exact q.elim | skip
    obtain ⟨y, _, rfl, ry, rfl⟩ := l
    obtain ⟨p2, ys2, vs2, rfl, rfl, e2, h2, lq2, q⟩ := lst_rep a ry q
    exact mt_extend pins s σ H _ _ v us Q I rx rs ⟨p, p2, vs, vs2, rfl, rfl, h, h2, by rw [← lq.length, ← lq2.length]; exact q.1, put_lst (x := .non) a bk e (lq.app lq2) rfl q.2⟩
  · have q : mIndex x' xs' G Q' := q
    obtain ⟨p, ys, vs, rfl, rfl, e, h, lq, q⟩ := lst_rep a r1 q
    split at q <;> first | exact q.elim | skip
    obtain ⟨y, _, rfl, ry, rfl⟩ := l
    obtain ⟨f1, f2, q⟩ := q
    split at q <;> first | exact q.elim | skip
    rename_i j ej
    obtain ⟨z, g1, g2, g3⟩ := idx_rep ry f1 lq f2 ej
    exact mt_index pins s σ H _ _ v us Q I rx rs ⟨p, vs, y, j, z, rfl, rfl, SqL.of h, flat_of ry f1, (flats_of ry f1 ys vs lq f2).1, g1, g2, g3, bk.same a rep_int q⟩
  · have q : mRev x' xs' G Q' := q
    obtain ⟨p, ys, vs, rfl, rfl, e, h, lq, rfl, q2⟩ := lst_rep a r1 q
    obtain rfl := l
    exact mt_reverse pins s σ H _ _ v us Q I rx rs ⟨p, vs, rfl, rfl, h, put_lst (x := .non) a bk e lq.rev rfl q2⟩
  · have q : mClear x' xs' G Q' := q
    obtain ⟨p, ys, vs, rfl, rfl, e, h, lq, rfl, q2⟩ := lst_rep a r1 q
    obtain rfl := l
    exact mt_clear pins s σ H _ _ v us Q I rx rs ⟨p, vs, rfl, rfl, h, put_lst (x := .non) (ys := []) a bk e (us := []) rfl rfl q2⟩
  · have q : mPopAt x' xs' G Q' := q
    obtain ⟨p, ys, vs, rfl, rfl, e, h, lq, q⟩ := lst_rep a r1 q
    split at q <;> first | exact q.elim | skip
    obtain ⟨y, _, rfl, ry, rfl⟩ := l
    cases ry
    obtain ⟨b1, b2, q⟩ := q
    split at q <;> first | exact q.elim | skip
    rename_i j ej
    split at q <;> first | exact q.elim | skip
    rename_i x2 e2
    obtain ⟨u2, g1, g2⟩ := lq.get e2
    refine mt_popAt pins s σ H _ _ v us Q I rx rs ⟨p, vs, _, j, u2, rfl, rfl, h, b1, b2, ?_, g1, put_lst a bk e (RepL.erase j lq) g2 q⟩
    rw [← lq.length]
    exact (ixN_seq ej).1
theorem onBm_ty {m : Bm} {S : Addr → Prop} {G : PH} {H : Hp} (a : At X.K X.w S G H) {x : PV} {v : V} (r : RepV X.K X.w H x v) (h : onBm m x G) : tyV X.K m.T v H := by
  have s1 : onStr x → tyV X.K "str" v H := fun h => by
    unfold onStr at h
    split at h <;> first | exact h.elim | skip
    cases r; exact rfl
  have l1 : onList x G → tyV X.K "list" v H := fun h => by
    unfold onList at h
    split at h <;> first | exact h.elim | skip
    cases r
    split at h <;> first | exact h.elim | skip
    rename_i e
    obtain ⟨vs, hv, _⟩ := ref_lst a e
    exact .inl ⟨rfl, vs, SqL.of hv⟩
  cases m <;> first | exact s1 h | exact l1 h
variable {W : WX} {o : Orc} {e ob : Expr} {es : List Expr} {pos apos p1 p2 p3 : Pos} {te ta tb : TPE} {t : TPA}
theorem pe_bm0P {m : Bm} (ho : PE X ob (low X.K X.w W te)) (hb : plainBase ob = true) (hl : (apos.endLine == pos.line) = true) :
    PE X (.Call (.Attribute ob m.name apos) [] [] pos) (low X.K X.w W fun σ G Q W => te σ G (fun x G1 => onBm m x G1 ∧ wNil σ G1 (fun vs G2 => pBm m x vs G2 Q) W) W) := by
  refine imp_e (pe_bm0 m.pa m.slot m.ty (mtBm m) ho (base_ok hb) hl) ?_
  rintro σ H Q ⟨S, σ', G, W', Q', s, q, bk⟩
  refine low_bind s q fun x v G1 H1 st s1 r1 t1 => ?_
  exact ⟨onBm_ty s1.at_ r1 t1.1, S, G1, x, [], Q', s1.at_, r1, rfl, t1.2, bk.next st⟩
theorem pe_bmP {m : Bm} (ho : PE X ob (low X.K X.w W te)) (ha : PA X (e :: es) (lowA X.K X.w W t)) (hb : plainBase ob = true) (hl : (apos.endLine == pos.line) = true) (hp : (e :: es).all noStarE = true) (hc : (e :: es).length < 29) :
    PE X (.Call (.Attribute ob m.name apos) (e :: es) [] pos) (low X.K X.w W fun σ G Q W => te σ G (fun x G1 => onBm m x G1 ∧ t σ G1 (fun vs G2 => pBm m x vs G2 Q) W) W) := by
  have h2 : noStarE e = true ∧ es.all noStarE = true := by simpa using hp
  have few := form_ok (args := e :: es) (kws := []) (pos := pos) (env := X.env) hp rfl (by simpa using hc)
  refine imp_e (pe_bm m.pa m.slot m.ty (mtBm m) ho ha (base_ok hb) few hl (no_star e es X.env h2.1) (plain_args es X.env pos h2.2)) ?_
  rintro σ H Q ⟨S, σ', G, W', Q', s, q, bk⟩
  refine low_bind s q fun x v G1 H1 st s1 r1 t1 => ?_
  refine ⟨onBm_ty s1.at_ r1 t1.1, S, σ', G1, W', _, s1, t1.2, fun ys us G2 H2 st2 a2 r2 q2 => ?_⟩
  exact ⟨S, G2, x, ys, Q', a2, r1.mono st2.toStay, r2, q2, bk.next (st.trans st2)⟩
theorem adjust_rev (n : Nat) : Builtin.Slice.sliceAdjust none none (-1) (n : Int) = ((n : Int) - 1, -1) := rfl
theorem places_rev (n : Nat) : Builtin.Slice.slicePlaces ((n : Int) - 1) (-1) (-1) = n := by
  unfold Builtin.Slice.slicePlaces
  rw [if_neg (by decide)]
  split
  · have e : (- -1 : Int) = 1 := by decide
    rw [e, Int.ediv_one]
    omega
  · omega
theorem fm_some {α β : Type} {f : α → Option β} {g : α → β} : ∀ {l : List α}, (∀ k ∈ l, f k = some (g k)) → l.filterMap f = l.map g
  | [], _ => rfl
  | x :: l, h => by
    rw [List.filterMap_cons, h x List.mem_cons_self, List.map_cons, fm_some fun k hk => h k (List.mem_cons_of_mem _ hk)]
theorem pick_rev (xs : Array Value) : ((List.range xs.size).filterMap fun (k : Nat) => xs[(((xs.size : Int) - 1) + (k : Int) * -1).toNat]?) = xs.toList.reverse := by
  apply List.ext_getElem?
  intro j
  have e : ((List.range xs.size).filterMap fun (k : Nat) => xs[(((xs.size : Int) - 1) + (k : Int) * -1).toNat]?) = (List.range xs.size).map fun k => xs.getD (xs.size - 1 - k) .none := by
    apply fm_some
    intro k hk
    have hk := List.mem_range.1 hk
    have e1 : (((xs.size : Int) - 1) + (k : Int) * -1).toNat = xs.size - 1 - k := by omega
    have e2 : xs.size - 1 - k < xs.size := by omega
    rw [e1]
    simp [Array.getD, e2]
  rw [e, List.getElem?_map]
  by_cases hj : j < xs.size
  · have h3 : xs.size - 1 - j < xs.size := by omega
    rw [List.getElem?_range hj, List.getElem?_reverse (by simpa using hj)]
    simp [Array.getD, h3]
  · rw [List.getElem?_eq_none (by simpa using hj), List.getElem?_eq_none (by simpa using hj)]
    rfl
section
variable {prog : Program} {w : World} {A : Around} {E : Value → Shared → Prop} {s : Shared}
theorem applied_rev {sl : Addr} {vs : Value} {n : Nat} {Q : Int × Int × Nat → Shared → Prop} (hs : s.heap.IsSliceOf sl .none .none vs) (ps : IsPart vs (some (-1))) (h : Q ((n : Int) - 1, -1, n) s) :
    wpAny (model prog w) A (Builtin.Slice.sliceApplied (.ref sl) (pure (n : Int))) Q E s := by
  obtain ⟨ob, hob, hcs, hds⟩ := id hs
  unfold Builtin.Slice.sliceApplied Builtin.Slice.sliceFields
  refine wpAny_bind (wpAny_bind (wpAny_field hob hds (x := .none) rfl (wpAny_bind (wpAny_field hob hds (x := .none) rfl (wpAny_bind (wpAny_field hob hds (x := vs) rfl (wpAny_pure ?_)))))))
  refine wpAny_bind (HT.slicePart_ ps ?_)
  show wpAny _ _ (if ((-1 : Int) == 0) = true then _ else _) _ _ s
  rw [if_neg (by decide)]
  refine wpAny_bind (slicePart_none (wpAny_bind (slicePart_none (wpAny_bind (wpAny_pure ?_)))))
  show wpAny _ _ (match Builtin.Slice.sliceAdjust none none (-1) (n : Int) with | (lo, hi) => pure (lo, (-1 : Int), Builtin.Slice.slicePlaces lo hi (-1))) _ _ s
  rw [adjust_rev]
  show wpAny _ _ (pure ((n : Int) - 1, (-1 : Int), Builtin.Slice.slicePlaces ((n : Int) - 1) (-1) (-1))) _ _ s
  rw [places_rev]
  exact wpAny_pure h
theorem tup_rev {q sl : Addr} {items : Array Value} {vs : Value} {Q : Value → Shared → Prop} (ht : IsTup s.heap q items) (hs : s.heap.IsSliceOf sl .none .none vs) (ps : IsPart vs (some (-1))) (hz : items.size ≤ sizeLine)
    (h : Q (.ref s.heap.objs.size) { s with heap := s.heap.push { cls := .type "tuple", data := .seq items.toList.reverse.toArray } }) : wpAny (model prog w) A (getItem (.ref q) (.ref sl)) Q E s := by
  obtain ⟨ob, hob, hcs, hds⟩ := id hs
  have hT : s.TypeIs (.ref sl) "slice" := ⟨ob, hob, hcs⟩
  have hsz : sizeOk (.seq items.toList.reverse.toArray) := by
    show items.toList.reverse.toArray.size ≤ sizeLine
    simpa using hz
  unfold getItem
  try with_reducible refine wpAny_holding ?_
  first | refine wpAny_bind (wpAny_pure ?_) | skip
  refine wpAny_bind (wpAny_sequenceKey ht.typeIs (by decide) ?_)
  refine wpAny_bind (wpAny_callSpecial?_slot (name := Str.ofString "__getitem__") ht.typeIs slot_tuple_getitem (wpAny_call_entry slot_tuple_getitem ht.typeIs PyProof.Rows.entry_tuple_getitem ?_ (PyProof.Rows.args_tuple_getitem _ _)))
  show wpAny _ _ (Builtin.Tuple.tupleItemsOf (.ref q) >>= _) _ _ s
  refine wpAny_bind (PyProof.Rows.tupleItemsOf_ ht ?_)
  refine wpAny_bind (wpAny_typeOf hT ?_)
  rw [if_pos (by decide)]
  refine wpAny_bind (applied_rev hs ps ?_)
  show wpAny _ _ (if (((items.size : Int) - 1) == 0 && (-1 : Int) == 1 && items.size == items.size) = true then _ else _) _ _ s
  rw [if_neg (by simp), pick_rev]
  first
    | exact wpAny_bind (m := Builtin.Tuple.tupleExact _) (wpAny_newObj_type (wpAny_pure ⟨_, rfl, wpAny_pure h⟩) hsz)
    | exact wpAny_bind (m := Builtin.Tuple.tupleExact _) (wpAny_newObj_type (wpAny_bind (wpAny_pure (wpAny_pure ⟨_, rfl, wpAny_pure h⟩))) hsz)
end
end
section
variable {X : Cx} {W : WX} {e l r : Expr} {pos p1 p2 p3 : Pos} {te ta tb : TPE}
theorem pe_rvsP {k : Nat} (he : PE X e (low X.K X.w W te)) : PE X (.Subscript e (.Slice none none (some (.UnaryOp .USub (.Constant (.int 1) k p1) p2)) p3) pos) (low X.K X.w W (wUn pRvs te)) := by
  refine ⟨fun pins s σ H Q I h => ?_⟩
  obtain ⟨S, σ', G, W', Q', si, t, bk⟩ := h
  refine Subscript_ (thn (he.run pins s σ H (fun x H1 => ∃ y G1, Step S H H1 ∧ At X.K X.w S G1 H1 ∧ RepV X.K X.w H1 y x ∧ pRvs y G1 Q') I ⟨S, σ', G, W', _, si, t, fun y x G1 H1 st a r q => ⟨y, G1, st, a, r, q⟩⟩) fun v s1 ⟨x, H1, I1, r1, y, G1, st1, a1, ry, q⟩ => ?_)
  have hst : L2.PO X (some (.UnaryOp .USub (.Constant (.int 1) k p1) p2)) (tPart (tUn (rU fun i => .int (-i)) (tC (.int 1)))) := po_some (pe_un un_neg pe_int)
  refine wpAny_Slice (thn (po_none.run pins s1 σ H1 (fun o H2 => o = none ∧ H2 = H1) I1 ⟨rfl, rfl⟩) fun vl s2 ⟨l, H2, I2, pl, el, e2⟩ => ?_)
  subst el e2
  refine thn (po_none.run pins s2 σ H2 (fun o H3 => o = none ∧ H3 = H2) I2 ⟨rfl, rfl⟩) fun vu s3 ⟨u, H3, I3, pu, eu, e3⟩ => ?_
  subst eu e3
  refine thn (hst.run pins s3 σ H3 (fun o H4 => o = some (-1) ∧ H4 = H3) I3 ⟨1, rfl, -1, rfl, rfl, rfl⟩) fun vs s4 ⟨o, H4, I4, ps, eo, e4⟩ => ?_
  subst eo e4
  have I5 : Inv X pins σ H4 { s4 with heap := s4.heap.push { cls := .type "slice", data := .fields #[vl, vu, vs] } } := I4.kept (t' := s4.toks) fun b ob q => Heap.get?_push_of_some _ q
  cases pl
  cases pu
  unfold pRvs at q
  split at q <;> first | exact q.elim | skip
  · obtain ⟨a, xs, rfl, hx, l⟩ := ry
    obtain rfl : v = Value.ref a := r1
    obtain ⟨its, rv, ht, hz⟩ := I5.tuple hx
    show wpAny (model X.prog X.w) X.A (subscriptTail e (.Slice none none (some (.UnaryOp .USub (.Constant (.int 1) k p1) p2)) p3) (.ref a) (.ref s4.heap.objs.size)) (EP X pins σ Q) X.xe { s4 with heap := s4.heap.push { cls := .type "slice", data := .fields #[.none, .none, vs] } }
    refine PyProof.Rows.tail_any (ops := [.ref a, .ref s4.heap.objs.size]) ht.typeIs PyProof.Rows.slot_tuple_getitem.lookup ?_ (by with_unfolding_all rfl)
    refine tup_rev ht (Heap.IsSliceOf.new _ .none .none vs) ps (by rw [List.size_toArray, ← rv.length]; exact (by have := rv.length; omega)) ?_
    have hn := I5.hok.fresh (Nat.le_refl _)
    have sn : Step S H4 (upd H4 _ (.tup xs.reverse)) := a1.step_new hn
    refine ⟨.ref _, _, I5.laid (t' := s4.toks) (o := .tup xs.reverse) (fun b ob q => Heap.get?_push_of_some _ q) (Nat.le_refl _) ?_, rfl, bk (.tup _) _ _ _ (st1.trans sn) (a1.silent hn) ⟨_, _, rfl, SqT.of upd_same, l.rev.mono sn.toStay⟩ q⟩
    exact ⟨by rw [List.length_reverse]; exact hz, _, by simpa using rv.reverse, IsTup.new _ _⟩
  · rename_i a
    split at q <;> first | exact q.elim | skip
    rename_i xs e1
    cases ry
    obtain rfl : v = Value.ref a := r1
    obtain ⟨us, hx, l⟩ := ref_lst a1 e1
    obtain ⟨its, rv, ht, hz⟩ := I5.list (SqL.of hx)
    have hlen := rv.length
    show wpAny (model X.prog X.w) X.A (subscriptTail e (.Slice none none (some (.UnaryOp .USub (.Constant (.int 1) k p1) p2)) p3) (.ref a) (.ref s4.heap.objs.size)) (EP X pins σ Q) X.xe { s4 with heap := s4.heap.push { cls := .type "slice", data := .fields #[.none, .none, vs] } }
    refine PyProof.Rows.tail_any (ops := [.ref a, .ref s4.heap.objs.size]) ht.isList.typeIs (PySem.slot_list_getitem.lookup) ?_ (by with_unfolding_all rfl)
    refine wpAny_getItem_list_slice ht.isList (Heap.IsSliceOf.new _ .none .none vs) .none .none ps (by decide) ?_ (by rw [List.size_toArray]; omega)
    rw [PySem.W.krv_pick]
    have hn := I5.hok.fresh (Nat.le_refl _)
    have sn : Step S H4 (upd H4 _ (.lst us.reverse)) := a1.step_new hn
    refine ⟨.ref _, _, I5.laid (t' := s4.toks) (o := .lst us.reverse) (fun b ob q => Heap.get?_push_of_some _ q) (Nat.le_refl _) ?_, rfl, bk (.ref _) _ _ _ (st1.trans sn) (a1.new (u := .lst xs.reverse) hn ⟨_, upd_same, l.rev.mono sn.toStay⟩) rfl (q _ (a1.free hn))⟩
    exact ⟨by rw [List.length_reverse]; exact hz, _, 0, rv.reverse, Heap.get?_push_size _ rfl⟩
/-- pairs, by values -/
def lowP (K : PySem.W.Frag) (w : World) (W : WX) (t : PSt → PH → (List (PV × PV) → PH → Prop) → PX → Prop) (trs : List (TE × TE)) : Prop := ∀ (σ : L2.St) (H : Hp) (Q : List (V × V) → Hp → Prop),
  (∃ S σ' G W' Q', Si K w W S σ' σ G H W' ∧ t σ' G Q' W' ∧ ∀ ps vs G1 H1, Step S H H1 → At K w S G1 H1 → Paired (fun (p : PV × PV) (q : V × V) => RepV K w H1 p.1 q.1 ∧ RepV K w H1 p.2 q.2) ps vs → Q' ps G1 → Q vs H1) → tPairs trs σ H Q
theorem lowP_nil : lowP X.K X.w W (fun _ G Q _ => Q [] G) [] := by
  rintro σ H Q ⟨S, σ', G, W', Q', s, t, bk⟩
  exact bk [] [] G H Step.refl s.at_ .nil t
theorem lowP_cons {tk tv : TPE} {t trs} (h : lowP X.K X.w W t trs) : lowP X.K X.w W (fun σ G Q W => tk σ G (fun x G1 => tv σ G1 (fun y G2 => t σ G2 (fun ps G3 => Q ((x, y) :: ps) G3) W) W) W) ((low X.K X.w W tk, low X.K X.w W tv) :: trs) := by
  rintro σ H Q ⟨S, σ', G, W', Q', s, q, bk⟩
  refine low_bind s q fun x v G1 H1 st s1 r1 t1 => ?_
  refine low_bind s1 t1 fun y u G2 H2 st2 s2 r2 t2 => ?_
  refine h σ H2 _ ⟨S, σ', G2, W', _, s2, t2, fun ps vs G3 H3 st3 a3 r3 q3 => ?_⟩
  exact bk ((x, y) :: ps) ((v, u) :: vs) G3 H3 ((st.trans st2).trans st3) a3 (.cons ⟨r1.mono (st2.trans st3).toStay, r2.mono st3.toStay⟩ r3) q3
theorem keys_rep {K : PySem.W.Frag} {w : World} {H : Hp} : ∀ {ps : List (PV × PV)} {vs : List (V × V)} {es : List (Key × PV)}, Paired (fun (p : PV × PV) (q : V × V) => RepV K w H p.1 q.1 ∧ RepV K w H p.2 q.2) ps vs → keysP ps = some es →
    ∃ kvs : List (Key × V), vs = kvs.map (fun kv => (kV kv.1, kv.2)) ∧ RepD K w H es kvs
  | _, _, _, .nil, e => by cases e; exact ⟨[], rfl, .nil⟩
  | (k, v) :: ps, (k2, v2) :: vs, es, .cons h t, e => by
    unfold keysP at e
    split at e <;> first | cases e | skip
    rename_i j r ej er
    obtain ⟨kvs, rfl, rd⟩ := keys_rep t er
    obtain rfl := key_rep ej h.1
    exact ⟨(j, v2) :: kvs, rfl, .cons ⟨rfl, h.2⟩ rd⟩
theorem merge_rep {K : PySem.W.Frag} {w : World} {H : Hp} {more : List (Key × PV)} {ms : List (Key × V)} (r : RepD K w H more ms) : ∀ {kvs : List (Key × PV)} {es : List (Key × V)}, RepD K w H kvs es → RepD K w H (mergeP kvs more) (mergeK es ms) := by
  unfold RepD at r
  induction r with
  | nil => intro kvs es h; exact h
  | cons h t ih =>
    intro kvs es h2
    unfold mergeP mergeK
    rw [List.foldl_cons, List.foldl_cons]
    refine ih ?_
    rw [h.1]
    exact pt_dict h2 _ h.2
theorem paired_len {α β : Type} {F : α → β → Prop} {l : List α} {m : List β} (h : Paired F l m) : l.length = m.length := Paired.length h
theorem pe_dispP {keys : List (Option Expr)} {values : List Expr} {trs : List (TE × TE)} {t : PSt → PH → (List (PV × PV) → PH → Prop) → PX → Prop} (h : PPs X pos keys values trs) (ht : lowP X.K X.w W t trs) (hall : keys.all (·.isSome) = true) (hl : keys.length = values.length) (h0 : keys ≠ []) (h15 : keys.length ≤ 15) :
    PE X (.Dict keys values pos) (low X.K X.w W fun σ G Q W => t σ G (fun kvs G1 => match keysP kvs with
      | some es => kvs.length ≤ 15 ∧ ∀ p, G1 p = none → Q (.ref p) (pu G1 p (.dict (mergeP [] es)))
      | none => False) W) := by
  refine imp_e (pe_disp h hall hl h0 h15) ?_
  rintro σ H Q ⟨S, σ', G, W', Q', s, q, bk⟩ p hp
  have hS : ¬ S p := fun z => (s.at_.hid p z).2 hp
  have st0 : Step (fun b => S b) H (upd H p (.dK [])) := s.at_.step_new hp
  have wS : ∀ {A B : Hp}, Step (fun b => S b ∨ b = p) A B → Step S A B := fun z => ⟨z.toStay, fun b hb => z.hid b (.inl hb)⟩
  refine ht σ _ _ ⟨fun b => S b ∨ b = p, σ', G, W', _, ⟨s.at_.hide hp, s.sl.mono st0.toStay, fun cls fs d τ' τ G1 H1 st a r x q => s.wx cls fs d τ' τ G1 H1 (st0.trans (wS st)) ⟨fun b hb => a.hid b (.inl hb), a.ob⟩ r x q⟩, q, fun ps vs G1 H1 st a r q1 => ?_⟩
  · have ep : H1 p = some (.dK []) := (st.hid p (.inr rfl)).trans upd_same
    split at q1 <;> first | exact q1.elim | skip
    rename_i es ee
    obtain ⟨kvs, rfl, rd⟩ := keys_rep r ee
    refine ⟨ep, kvs, rfl, by have := paired_len r; rw [List.length_map] at this; omega, ?_⟩
    have sp : Step S H1 (upd H1 p (.dK (mergeK [] kvs))) := Step.put ep trivial hS
    have m := merge_rep rd (kvs := []) (es := []) .nil
    refine bk (.ref p) _ (pu G1 p (.dict (mergeP [] es))) _ (st0.trans ((wS st).trans sp)) ⟨fun b hb => ?_, fun b u e => ?_⟩ rfl (q1.2 p (a.hid p (.inr rfl)).1)
    · have hne : b ≠ p := by rintro rfl; exact hS hb
      rw [pu_ne hne, upd_ne hne]
      exact a.hid b (.inl hb)
    · by_cases hb : b = p
      · subst hb
        rw [pu_same] at e; cases e
        exact ⟨_, upd_same, PairedMap m fun _ _ z => ⟨z.1, z.2.mono sp.toStay⟩⟩
      · rw [pu_ne hb] at e
        exact (a.ob b u e).mono sp.toStay (upd_ne hb)
end
theorem pe_isbP {X : Cx} {W : WX} {neg b : Bool} {l : Expr} {ta : TPE} {j p pos} (ha : PE X l (low X.K X.w W ta)) : PE X (.Compare l [if neg = true then CmpOp.IsNot else CmpOp.Is] [.Constant (.bool b) j p] pos) (low X.K X.w W (wUn (pIsB neg b) ta)) := by
  have hb : PE X (.Constant (.bool b) j p) (tC (.bl b)) := pe_bl
  have fin : ∀ (S : Addr → Prop) (x : PV) (v : V) (G1 : PH) (H1 : Hp) (Q' : VP) (Q : VK), At X.K X.w S G1 H1 → RepV X.K X.w H1 x v → pIsB neg b x G1 Q' → Back X.K X.w S H1 Q' Q → ∃ c, v = .bl c ∧ Q (.bl ((c == b) != neg)) H1 := fun S x v G1 H1 Q' Q a r q bk => by
    unfold pIsB at q
    split at q <;> first | exact q.elim | skip
    cases r
    exact ⟨_, rfl, bk.same a rep_bl q⟩
  cases neg with
  | false =>
    refine imp_e (pe_cmpR op_isB ha hb rfl) ?_
    rintro σ H Q ⟨S, σ', G, W', Q', s, t, bk⟩
    refine low_bind s t fun x v G1 H1 st s1 r1 t1 => ?_
    obtain ⟨c, rfl, q⟩ := fin S x v G1 H1 Q' Q s1.at_ r1 t1 (bk.next st)
    exact ⟨c, b, rfl, rfl, by simpa using q⟩
  | true =>
    refine imp_e (pe_cmpR op_isnB ha hb rfl) ?_
    rintro σ H Q ⟨S, σ', G, W', Q', s, t, bk⟩
    refine low_bind s t fun x v G1 H1 st s1 r1 t1 => ?_
    obtain ⟨c, rfl, q⟩ := fin S x v G1 H1 Q' Q s1.at_ r1 t1 (bk.next st)
    refine ⟨c, b, rfl, rfl, ?_⟩
    have e : (c != b) = ((c == b) != true) := by cases c <;> cases b <;> rfl
    rw [e]; exact q
end Fv

set_option Elab.async false
set_option linter.all false
set_option maxRecDepth 100000
set_option maxHeartbeats 1000000
namespace Fv
open PySem PySem.Spec PyProof.Rows L2
section
variable {K : PySem.W.Frag} {w : World}
theorem ok_revT {H0 : Hp} {a : Addr} {xs : List PV} {vs : List V} (h : SqT K H0 a vs) (l : RepL K w H0 xs vs) : ItOk K w H0 (RT.ItvT K a vs.length) xs.reverse [] := by
  intro S G H st at_ _ i
  have h' := st.sqT h
  have l' := l.mono st
  have hl := l.length
  rw [List.length_reverse]
  refine ⟨fun hi => ⟨?_, ?_⟩, fun hi => by show vs.length ≤ i; omega⟩
  · have hv : vs.length - 1 - i < vs.length := by omega
    exact ⟨by omega, vs, vs[vs.length - 1 - i], h', by simp [hv]⟩
  · rintro x H' ⟨e, k⟩
    rw [e]
    have hx : xs.length - 1 - i < xs.length := by omega
    obtain ⟨v, h1, h2⟩ := l'.get (i := xs.length - 1 - i) (x := xs[xs.length - 1 - i]) (by simp [hx])
    rw [hl, k vs h'] at h1
    cases h1
    exact ⟨xs[xs.length - 1 - i], by rw [List.getElem?_reverse hi]; simp [hx], Step.refl, at_, h2⟩
end
section
variable {X : Cx} {W : WX} {a b c e tg : Expr} {p pos : Pos} {ta tb tc : TPE} {es : List Expr} {t : TPA}
theorem pi_revP (hg : Gl X "reversed") (hm : X.mg "reversed" = none) (ha : PE X e (low X.K X.w W ta)) (hs : noStarE e = true) : PI X tg (.Call (.Name "reversed" p) [e] [] pos) (lowI X.K X.w W (wRev ta)) := by
  refine imp_i (RT.pi_revA hg hm ha (no_star e [] X.env hs)) ?_
  rintro σ H R ⟨S, σ', G, W', Q', s, t, k⟩
  refine low_bind s t fun x v G1 H1 st s1 r1 t1 => ?_
  cases x <;> first | exact (show False from t1).elim | skip
  obtain ⟨q, vs, rfl, hq, l⟩ := r1
  exact ⟨q, vs, rfl, .inr ⟨hq, k _ [] G1 H1 _ st s1.at_ (ok_revT hq l) t1⟩⟩
theorem ps_whileP {c : Expr} {body : List Stmt} {tc : TPT} {tb : TPS} (hp : PassesOwn (model X.prog X.w) X.A X.env X.xe) (hc : PT X c (lowT X.K X.w W tc)) (hb : PSs X body (lowS X.K X.w W tb)) : PS X (.While c body [] pos) (lowS X.K X.w W (wWhl tc tb)) := by
  refine imp_s (ps_while hp hc hb) ?_
  rintro D σ H ⟨S, σ', G, D', s, ⟨I, ⟨m, i0⟩, turn⟩, b⟩
  refine ⟨fun m τ Hx => ∃ τ' Gx, Step S H Hx ∧ At X.K X.w S Gx Hx ∧ RepS X.K X.w Hx τ' τ ∧ I m τ' Gx, ⟨m, σ', G, Step.refl, s.at_, s.sl, i0⟩, ?_⟩
  rintro m τ Hx ⟨τ', Gx, stx, ax, rx, ix⟩
  refine ⟨S, τ', Gx, D'.ex, _, (s.next stx ax).slots rx, turn m τ' Gx ix, fun k G1 H1 st1 a1 q => ?_⟩
  cases k with
  | true =>
    rw [if_pos rfl] at q
    obtain ⟨N, hN, q⟩ := q
    refine ⟨fun τ Hy => ∃ τ' Gy, Step S H Hy ∧ At X.K X.w S Gy Hy ∧ RepS X.K X.w Hy τ' τ ∧ N τ' Gy, ?_, ?_⟩
    · rintro ρ Hy ⟨ρ', Gy, sty, ay, ry, nyy⟩
      obtain ⟨m', G2, h1, h2, h3⟩ := hN ρ' Gy nyy
      exact ⟨m', h1, ρ', G2, sty, ay.sub h2, ry, h3⟩
    · have sz := stx.trans st1
      have bz := b.next sz
      exact ⟨S, τ', G1, { D' with nx := N, ct := N, bk := D'.nx }, ((s.next sz a1).slots (rx.mono st1.toStay)), q, ⟨fun κ' κ G3 H3 st3 a3 r3 q3 => ⟨κ', G3, sz.trans st3, a3, r3, q3⟩, bz.rt, bz.nx, fun κ' κ G3 H3 st3 a3 r3 q3 => ⟨κ', G3, sz.trans st3, a3, r3, q3⟩⟩⟩
  | false =>
    have q : D'.nx τ' G1 := by simpa using q
    exact b.nx τ' τ G1 H1 (stx.trans st1) a1 (rx.mono st1.toStay) q
theorem pe_fmtP (ha : PE X e (low X.K X.w W ta)) : PE X (.FormattedValue e (-1) none pos) (low X.K X.w W (wUn pFmt ta)) := by
  refine imp_e (pe_fmt ha) ?_
  rintro σ H Q ⟨S, σ', G, W', Q', s, t, bk⟩
  refine low_bind s t fun x v G1 H1 st s1 r1 t1 => ?_
  unfold pFmt at t1
  split at t1 <;> first | exact t1.elim | skip
  · cases r1
    exact .inl ⟨_, rfl, t1.1, bk _ _ G1 H1 st s1.at_ rep_str t1.2⟩
  · cases r1
    exact .inr ⟨_, rfl, t1.1, bk _ _ G1 H1 st s1.at_ rep_str t1.2⟩
/-- parts: each a text -/
inductive PJP (X : Cx) (W : WX) : List Expr → List TE → (Str → TPE) → Prop where
  | nil : PJP X W [] [] wFNil
  | cons {e : Expr} {es : List Expr} {ts : List TE} {te : TPE} {k : Str → TPE} (h : PE X e (low X.K X.w W te)) (r : PJP X W es ts k) : PJP X W (e :: es) (low X.K X.w W te :: ts) (wFCons te k)
theorem PJP.pj {X : Cx} {W : WX} {es : List Expr} {ts : List TE} {k : Str → TPE} (h : PJP X W es ts k) : PJ X es ts := by
  induction h with
  | nil => exact .nil
  | cons h _ ih => exact .cons h ih
theorem PJP.go {X : Cx} {W : WX} {es : List Expr} {ts : List TE} {k : Str → TPE} (h : PJP X W es ts k) : ∀ (acc : Str) (σ : L2.St) (H : Hp) (Q : Str → Hp → Prop) (S : Addr → Prop) (σ' : PSt) (G : PH) (W' : PX) (Q' : VP), Si X.K X.w W S σ' σ G H W' →
    k acc σ' G Q' W' → (∀ z G1 H1, Step S H H1 → At X.K X.w S G1 H1 → Q' (.str z) G1 → Q z H1) → tJs ts acc σ H Q := by
  induction h with
  | nil =>
    intro acc σ H Q S σ' G W' Q' s t bk
    exact bk acc G H Step.refl s.at_ t
  | @cons e es ts te t h r ih =>
    intro acc σ H Q S σ' G W' Q' s q bk
    refine low_bind s q fun x v G1 H1 st s1 r1 t1 => ?_
    unfold pPut at t1
    split at t1 <;> first | exact t1.elim | skip
    cases r1
    exact ⟨_, rfl, t1.1, ih _ _ _ _ _ _ _ _ _ s1 t1.2 fun z G2 H2 st2 a2 q2 => bk z G2 H2 (st.trans st2) a2 q2⟩
theorem pe_fjoinP {v1 v2 : Expr} {rest : List Expr} {ts : List TE} {k : Str → TPE} (h : PJP X W (v1 :: v2 :: rest) ts k) : PE X (.JoinedStr (v1 :: v2 :: rest) pos) (low X.K X.w W (k Str.empty)) := by
  refine imp_e (pe_joined h.pj) ?_
  rintro σ H Q ⟨S, σ', G, W', Q', s, t, bk⟩
  exact h.go _ _ _ _ _ _ _ _ _ s t fun z G1 H1 st a q => bk _ _ G1 H1 st a rep_str q
theorem pe_fjoin1P {v1 : Expr} {ts : List TE} {k : Str → TPE} (h : PJP X W [v1] ts k) : PE X (.JoinedStr [v1] pos) (low X.K X.w W (k Str.empty)) := by
  cases h with
  | cons h r =>
    cases r
    refine imp_e (pe_joined1 h) ?_
    rintro σ H Q ⟨S, σ', G, W', Q', s, t, bk⟩
    refine low_bind s t fun x v G1 H1 st s1 r1 t1 => ?_
    unfold pPut at t1
    split at t1 <;> first | exact t1.elim | skip
    rename_i y
    have e : Str.empty ++ y = y := by
      cases y with
      | mk c => show (⟨#[] ++ c⟩ : Str) = ⟨c⟩; simp
    rw [e] at t1
    exact bk _ _ G1 H1 st s1.at_ r1 t1.2
theorem ps_tryNP {body : List Stmt} {h₀ : ExceptHandler} {hs : List ExceptHandler} {tb : TPS} (hb : PSs X.nox body (lowS X.K X.w (fun _ _ _ _ => False) tb)) : PS X (.Try body (h₀ :: hs) [] [] pos) (lowS X.K X.w W fun D σ G => tb { D with ex := noX4 } σ G) := by
  refine imp_s (ps_try_thru0 hb) ?_
  rintro D σ H ⟨S, σ', G, D', s, q, b⟩
  exact ⟨S, σ', G, { D' with ex := noX4 }, ⟨s.at_, s.sl, fun _ _ _ _ _ _ _ _ _ _ _ z => z⟩, q, ⟨b.nx, b.rt, b.bk, b.ct⟩⟩
theorem pe_badP : PE X e (low X.K X.w W fun _ _ _ _ => False) := ⟨fun pins s σ H Q I h => by obtain ⟨_, _, _, _, _, _, z, _⟩ := h; exact z.elim⟩
theorem ps_badP {st : Stmt} : PS X st (lowS X.K X.w W fun _ _ _ => False) := ⟨fun pins s σ H D I h => by obtain ⟨_, _, _, _, _, z, _⟩ := h; exact z.elim⟩
end
end Fv

set_option Elab.async false
set_option linter.all false
set_option maxRecDepth 100000
set_option maxHeartbeats 1000000
namespace Fv
open PySem PySem.Spec PyProof.Rows L2
mutual
def cPt (N : List Str) (sc : Scope) : Pt → Pattern → Bool
  | .cap i, p => match p with
    | .MatchAs none (some x) _ => decide (N[i]? = some x) && (match sc.names.lookup x with | some .local => true | _ => false)
    | _ => false
  | .wild, p => match p with
    | .MatchAs none none _ => true
    | _ => false
  | .non, p => match p with
    | .MatchSingleton .none _ => true
    | _ => false
  | .seq ps, p => match p with
    | .MatchSequence qs _ => cPts N sc ps qs && !(qs.all fun p => p.isWildcard || (p.isStar && p.names.isEmpty))
    | _ => false
def cPts (N : List Str) (sc : Scope) : Pts → List Pattern → Bool
  | .nil, qs => qs.isEmpty
  | .cons p r, qs => match qs with
    | q :: qs => cPt N sc p q && cPts N sc r qs
    | [] => false
end
/-- what is bound, low -/
def PatR (X : Cx) (H : Hp) : Option (List (Nat × PV)) → Option (List (Str × Value)) → Prop
  | none, none => True
  | some bs, some cs => Paired (fun (b : Nat × PV) (c : Str × Value) => X.N[b.1]? = some c.1 ∧ X.env.scope.names.lookup c.1 = some .local ∧ ∃ v, RepV X.K X.w H b.2 v ∧ RelV v c.2) bs cs
  | _, _ => False
theorem paired_app {α β : Type} {F : α → β → Prop} {a c : List α} {b d : List β} (h : Paired F a b) (k : Paired F c d) : Paired F (a ++ c) (b ++ d) := by
  induction h with
  | nil => exact k
  | cons h0 t ih => exact .cons h0 ih
theorem patR_app {X : Cx} {H : Hp} {bs cs : List (Nat × PV)} {us vs : List (Str × Value)} (h : PatR X H (some bs) (some us)) (k : PatR X H (some cs) (some vs)) : PatR X H (some (bs ++ cs)) (some (us ++ vs)) :=
  paired_app (F := fun (b : Nat × PV) (c : Str × Value) => X.N[b.1]? = some c.1 ∧ X.env.scope.names.lookup c.1 = some .local ∧ ∃ v, RepV X.K X.w H b.2 v ∧ RelV v c.2) h k
theorem pt_noStar {N : List Str} {sc : Scope} : ∀ {p : Pt} {q : Pattern}, cPt N sc p q = true → q.isStar = false := by
  intro p q h
  cases p <;> (unfold cPt at h; split at h <;> first | rfl | cases h)
theorem pts_noStar {N : List Str} {sc : Scope} : ∀ {ps : Pts} {qs : List Pattern}, cPts N sc ps qs = true → qs.findIdx? (·.isStar) = none ∧ qs.length = ps.len
  | .nil, qs, h => by
    unfold cPts at h
    cases qs with
    | nil => exact ⟨rfl, rfl⟩
    | cons q r => cases h
  | .cons p r, qs, h => by
    unfold cPts at h
    split at h <;> first | cases h | skip
    rename_i q qs
    rw [Bool.and_eq_true] at h
    obtain ⟨h1, h2⟩ := pts_noStar h.2
    refine ⟨?_, by simp [Pts.len, h2]⟩
    rw [List.findIdx?_cons, pt_noStar h.1, h1]
    rfl
theorem ty_none {s : Shared} : s.TypeIs .none "NoneType" := by rfl
section
variable {X : Cx} {E : Value → Shared → Prop}
mutual
theorem pat_run (hc : X.calm = true) : ∀ (p : Pt) (q : Pattern), cPt X.N X.env.scope p q = true → ∀ (pins : List (Addr × Obj)) (s : Shared) (σ : L2.St) (H : Hp) (x : PV) (v : V) (u : Value) (r : Option (List (Nat × PV))) (Q : Option (List (Str × Value)) → Shared → Prop),
    Inv X pins σ H s → RepV X.K X.w H x v → RelV v u → ptM p x = some r → (∀ r' s', Inv X pins σ H s' → PatR X H r r' → Q r' s') → wpAny (model X.prog X.w) X.A (matchPattern q X.env u) Q E s
  | .cap i, q, h, pins, s, σ, H, x, v, u, r, Q, I, rx, ru, hm, k => by
    unfold cPt at h
    split at h <;> first | cases h | skip
    rename_i y ps
    rw [Bool.and_eq_true, decide_eq_true_eq] at h
    unfold ptM at hm
    cases hm
    refine wpAny_matchPattern_Capture (k _ _ I ?_)
    refine .cons ⟨h.1, ?_, v, rx, ru⟩ .nil
    have h2 := h.2
    split at h2 <;> first | assumption | cases h2
  | .wild, q, h, pins, s, σ, H, x, v, u, r, Q, I, rx, ru, hm, k => by
    unfold cPt at h
    split at h <;> first | cases h | skip
    unfold ptM at hm
    cases hm
    exact wpAny_matchPattern_Capture (k _ _ I .nil)
  | .non, q, h, pins, s, σ, H, x, v, u, r, Q, I, rx, ru, hm, k => by
    unfold cPt at h
    split at h <;> first | cases h | skip
    unfold ptM at hm
    split at hm <;> cases hm
    · cases rx
      obtain rfl : u = Value.none := ru
      exact wpAny_matchPattern_Singleton_None (k _ _ I .nil)
    · cases rx
      obtain rfl : u = Value.bool _ := ru
      exact wpAny_matchPattern_Singleton_miss (by rfl) (k _ _ I trivial)
    · cases rx
      obtain ⟨t, rfl⟩ := ru
      exact wpAny_matchPattern_Singleton_miss (by rfl) (k _ _ I trivial)
    · cases rx
      obtain ⟨t, rfl⟩ := ru
      exact wpAny_matchPattern_Singleton_miss (by rfl) (k _ _ I trivial)
    · obtain ⟨q0, vs, rfl, hq, l⟩ := rx
      obtain rfl : u = Value.ref _ := ru
      exact wpAny_matchPattern_Singleton_miss (by rfl) (k _ _ I trivial)
  | .seq ps, q, h, pins, s, σ, H, x, v, u, r, Q, I, rx, ru, hm, k => by
    unfold cPt at h
    split at h <;> first | cases h | skip
    rename_i qs pos
    rw [Bool.and_eq_true, Bool.not_eq_true'] at h
    obtain ⟨e1, e2⟩ := pts_noStar h.1
    unfold ptM at hm
    refine wpAny_matchPattern_Sequence ?_ e1 h.2
    split at hm
    · rename_i xs
      obtain ⟨q0, vs, rfl, hq, l⟩ := rx
      obtain rfl : u = Value.ref _ := ru
      obtain ⟨its, rv, ht, hz⟩ := I.tuple hq
      refine wpAny_collectionFlag ht.typeIs flag_seq_tuple ?_
      rw [if_pos rfl]
      have hsz : its.toArray.size = xs.length := by rw [List.size_toArray, ← rv.length, ← l.length]
      refine pyLen_tuple ht (by rw [hsz, l.length]; have : sizeLine = 16777216 := rfl; omega) ?_
      split at hm
      · rename_i hl
        have e3 : (((its.toArray.size : Nat) : Int) != (qs.length : Int)) = false := by rw [hsz, e2, hl]; simp
        rw [if_neg (by rw [e3]; exact Bool.false_ne_true)]
        have e4 : qs.length = its.toArray.size := by rw [hsz, e2, hl]
        rw [e4]
        refine unpackItems_tuple (I.ok.hd hc) ht fun h' hx => ?_
        have I1 : Inv X pins σ H { s with heap := h', toks := s.toks + 1 + 1 } := (I.tok _).kept (t' := s.toks + 1 + 1) fun b o e => hx b o (Nat.ne_of_lt (Heap.lt_size e)) e
        exact pats_run hc ps qs h.1 pins _ σ H xs vs _ r Q I1 l (by simpa using rv) hm k
      · rename_i hl
        cases hm
        have e3 : (((its.toArray.size : Nat) : Int) != (qs.length : Int)) = true := by
          rw [hsz, e2, bne_iff_ne]
          omega
        rw [if_pos e3]
        exact k _ _ (I.tok _) trivial
    · cases hm
      cases rx
      obtain rfl : u = Value.none := ru
      refine wpAny_collectionFlag (T := "NoneType") (by rfl) flag_seq_None ?_
      rw [if_neg Bool.false_ne_true]
      exact k _ _ I trivial
    · cases hm
      cases rx
      obtain rfl : u = Value.bool _ := ru
      refine wpAny_collectionFlag (T := "bool") (by rfl) flag_seq_bool ?_
      rw [if_neg Bool.false_ne_true]
      exact k _ _ I trivial
    · cases hm
      cases rx
      obtain ⟨t, rfl⟩ := ru
      refine wpAny_collectionFlag (T := "int") (by rfl) flag_seq_int ?_
      rw [if_neg Bool.false_ne_true]
      exact k _ _ I trivial
    · cases hm
      cases rx
      obtain ⟨t, rfl⟩ := ru
      refine wpAny_collectionFlag (T := "str") (by rfl) flag_seq_str ?_
      rw [if_neg Bool.false_ne_true]
      exact k _ _ I trivial
    · cases hm
theorem pats_run (hc : X.calm = true) : ∀ (ps : Pts) (qs : List Pattern), cPts X.N X.env.scope ps qs = true → ∀ (pins : List (Addr × Obj)) (s : Shared) (σ : L2.St) (H : Hp) (xs : List PV) (vs : List V) (us : List Value) (r : Option (List (Nat × PV))) (Q : Option (List (Str × Value)) → Shared → Prop),
    Inv X pins σ H s → RepL X.K X.w H xs vs → Vals vs us → ptsM ps xs = some r → (∀ r' s', Inv X pins σ H s' → PatR X H r r' → Q r' s') → wpAny (model X.prog X.w) X.A (matchEach qs X.env us) Q E s
  | .nil, qs, h, pins, s, σ, H, xs, vs, us, r, Q, I, rx, ru, hm, k => by
    unfold cPts at h
    cases qs with
    | cons q r => cases h
    | nil =>
      unfold ptsM at hm
      cases hm
      exact wpAny_matchEach_nil (k _ _ I .nil)
  | .cons p pr, qs, h, pins, s, σ, H, xs, vs, us, r, Q, I, rx, ru, hm, k => by
    unfold cPts at h
    split at h <;> first | cases h | skip
    rename_i q qs
    rw [Bool.and_eq_true] at h
    cases xs with
    | nil => unfold ptsM at hm; cases hm
    | cons x xs =>
      unfold ptsM at hm
      obtain ⟨v, vr, rfl, r1, r2⟩ := rx
      cases ru with
      | cons ru1 ru2 =>
        cases h1 : ptM p x with
        | none => rw [h1] at hm; cases hm
        | some o1 =>
          rw [h1] at hm
          refine wpAny_matchEach_cons (pat_run hc p q h.1 pins s σ H x v _ o1 _ I r1 ru1 h1 fun r1' s1 I1 pr1 => ?_) (pt_noStar h.1)
          cases o1 with
          | none =>
            cases hm
            cases r1' with
            | none => exact k _ _ I1 trivial
            | some z => exact pr1.elim
          | some b1 =>
            cases r1' with
            | none => exact pr1.elim
            | some z =>
              cases h2 : ptsM pr xs with
              | none => rw [h2] at hm; cases hm
              | some o2 =>
                rw [h2] at hm
                refine pats_run hc pr qs h.2 pins s1 σ H xs vr _ o2 _ I1 r2 ru2 h2 fun r2' s2 I2 pr2 => ?_
                cases o2 with
                | none =>
                  cases hm
                  cases r2' with
                  | none => exact k _ _ I2 trivial
                  | some z => exact pr2.elim
                | some b2 =>
                  cases hm
                  cases r2' with
                  | none => exact pr2.elim
                  | some z2 => exact k _ _ I2 (patR_app pr1 pr2)
end
end
section
variable {X : Cx} {W : WX}
theorem setB_nil {σ : PSt} : setB σ [] = σ := rfl
theorem bind_all (hN : X.N.Nodup) {pins : List (Addr × Obj)} {H : Hp} {E : Value → Shared → Prop} {bs : List (Nat × PV)} {cs : List (Str × Value)} (h : Paired (fun (b : Nat × PV) (c : Str × Value) => X.N[b.1]? = some c.1 ∧ X.env.scope.names.lookup c.1 = some .local ∧ ∃ v, RepV X.K X.w H b.2 v ∧ RelV v c.2) bs cs) :
    ∀ {s : Shared} {σ : L2.St} {σ' : PSt} {Q : Unit → Shared → Prop}, Inv X pins σ H s → RepS X.K X.w H σ' σ → (∀ s' τ, Inv X pins τ H s' → RepS X.K X.w H (setB σ' bs) τ → Q () s') →
      wpAny (model X.prog X.w) X.A (assignInOrder (cs.map fun c => bindName X.env c.1) (cs.map (·.2))) Q E s := by
  induction h with
  | nil => intro s σ σ' Q I r k; exact wpAny_assignInOrder_none (k s σ I r)
  | @cons b c bs cs h t ih =>
    intro s σ σ' Q I r k
    obtain ⟨h1, h2, v, h3, h4⟩ := h
    exact wpAny_assignInOrder_more (wpAny_bindName (store_ok I hN h1 (.inl h2) h4 (fun s' I' => ih I' (r.set b.1 h3) k) (.inr h2)))
theorem pm_patP {body : List Stmt} {rest : List MatchCase} {tb : TPS} {tr : PV → TPS} {p : Pt} {q : Pattern} (hc : X.calm = true) (hN : X.N.Nodup) (h : cPt X.N X.env.scope p q = true) (hb : PSs X body (lowS X.K X.w W tb)) (hr : PM X rest (lowM X.K X.w W tr)) :
    PM X (⟨q, none, body⟩ :: rest) (lowM X.K X.w W fun v D σ G => match ptM p v with
      | none => False
      | some none => tr v D σ G
      | some (some bs) => tb D (setB σ bs) G) := by
  refine ⟨fun pins s σ H D v u first I r hq => ?_⟩
  obtain ⟨S, σ', G, D', x, si, rx, t, ba⟩ := hq
  cases hm : ptM p x with
  | none => rw [hm] at t; exact t.elim
  | some o =>
    rw [hm] at t
    refine wpAny_matchCases_cons (pat_run hc p q h pins s σ H x v u o _ I rx r hm fun r' s1 I1 pr => ?_)
    cases o with
    | none =>
      cases r' with
      | some z => exact pr.elim
      | none => exact hr.run pins s1 σ H D v u false I1 r ⟨S, σ', G, D', x, si, rx, t, ba⟩
    | some bs =>
      cases r' with
      | none => exact pr.elim
      | some cs =>
        refine bind_all hN pr I1 si.sl fun s2 τ I2 rs => ?_
        exact hb.run pins s2 τ H D I2 ⟨S, setB σ' bs, G, D', si.slots rs, t, ba⟩
end
end Fv

set_option Elab.async false
set_option linter.all false
set_option maxRecDepth 100000
set_option maxHeartbeats 1000000
namespace Fv
open PySem L2
def visB (sc : Scope) (x : Str) : Bool := match sc.names.lookup x with
  | some .local => true
  | some .cell => true
  | some .free => true
  | _ => false
def locB (sc : Scope) (x : Str) : Bool := match sc.names.lookup x with
  | some .local => true
  | some .cell => true
  | _ => false
def glB (sc : Scope) (x : Str) : Bool := match sc.names.lookup x with
  | some .globalImplicit => true
  | _ => false
def plainNm (x : Str) : Bool := !(x == ("__debug__" : Str)) && !(x == ("__classdict__" : Str))
def cName (N : List Str) (sc : Scope) (i : Nat) (e : Expr) : Bool := match e with
  | .Name x _ => decide (N[i]? = some x) && visB sc x && plainNm x
  | _ => false
def cConst (v : PV) (e : Expr) : Bool := match e with
  | .Constant (.int i) _ _ => (match v with | .int j => i == j | _ => false)
  | .Constant (.bool i) _ _ => (match v with | .bl j => i == j | _ => false)
  | .Constant (.str i) _ _ => (match v with | .str j => decide (i = j) | _ => false)
  | .Constant .none _ _ => isNon v
  | _ => false
def cGlob (sc : Scope) (x : Str) (e : Expr) : Bool := match e with
  | .Name y _ => decide (y = x) && glB sc x && plainNm x
  | _ => false
def noSlice (e : Expr) : Bool := match e with | .Slice .. => false | _ => true
def plainT (e : Expr) : Bool := match e with
  | .UnaryOp .. => false
  | .BoolOp .. => false
  | .IfExp .. => false
  | .Compare .. => false
  | _ => true
def noSet (e : Expr) : Bool := match e with | .Set .. => false | _ => true
def noComp (e : Expr) : Bool := match e with
  | .ListComp .. => false
  | .SetComp .. => false
  | .DictComp .. => false
  | _ => true
mutual
def slotsG : Tg → List Nat
  | .name i => [i]
  | .tup ts => slotsGs ts
  | .head ts => slotsGs ts
  | .sub _ _ => []
def slotsGs : Tgs → List Nat
  | .nil => []
  | .cons t r => slotsG t ++ slotsGs r
end
def noStarA : As → Bool
  | .nil => true
  | .one _ r => noStarA r
  | .star _ _ => false
section
variable (fs N : List Str)
def zkwB (b : Bool) (kws : List Keyword) : Bool := match b, kws with
  | true, [⟨some y, .Constant (.bool true) _ _, _⟩] => decide (y = "strict")
  | false, [] => true
  | _, _ => false
mutual
def cE (sc : Scope) : E → Expr → Bool
  | .var i, e => cName N sc i e
  | .cst v, e => cConst v e
  | .glob x, e => cGlob sc x e
  | .bin op a b, e => match e with
    | .BinOp l o r _ => decide (o = op) && cE sc a l && cE sc b r
    | _ => false
  | .neg a, e => match e with
    | .UnaryOp .USub l _ => cE sc a l
    | _ => false
  | .cmp op a b, e => match e with
    | .Compare l [o] [r] _ => decide (o = op) && cE sc a l && cE sc b r && !behindInMarks op r
    | _ => false
  | .chain o1 o2 a b c, e => match e with
    | .Compare l [p1, p2] [r, q] _ => decide (p1 = o1) && decide (p2 = o2) && cE sc a l && cE sc b r && cE sc c q && !lastMarks [o1, o2] [r, q]
    | _ => false
  | .no a, e => match e with
    | .UnaryOp .Not l _ => cE sc a l
    | _ => false
  | .and a b, e => match e with
    | .BoolOp .And (x :: y :: []) _ => cE sc a x && cE sc b y
    | .BoolOp .And (x :: y :: z :: r) p => cE sc a x && cE sc b (.BoolOp .And (y :: z :: r) p)
    | _ => false
  | .or a b, e => match e with
    | .BoolOp .Or (x :: y :: []) _ => cE sc a x && cE sc b y
    | .BoolOp .Or (x :: y :: z :: r) p => cE sc a x && cE sc b (.BoolOp .Or (y :: z :: r) p)
    | _ => false
  | .ite c a b, e => match e with
    | .IfExp t x y _ => cT sc c t && cE sc a x && cE sc b y
    | _ => false
  | .tup xs, e => match e with
    | .Tuple es _ _ => cA sc xs es
    | _ => false
  | .lst xs, e => match e with
    | .List es _ => cA sc xs es
    | _ => false
  | .idx a i, e => match e with
    | .Subscript x y _ => cE sc a x && cE sc i y && noSlice y
    | _ => false
  | .sl a lo hi, e => match e with
    | .Subscript x (.Slice l h none _) _ => cE sc a x && cO sc lo l && cO sc hi h
    | _ => false
  | .call f xs ks ys, e => match e with
    | .Call (.Name x _) es kws _ => decide (x = f) && decide (f ∈ fs) && glB sc f && plainNm f && cA sc xs es && es.all noStarE && (kws.all fun k => k.arg.isSome) && decide (kwNames kws = ks) && cK sc ys kws
    | _ => false
  | .blt f xs, e => match e with
    | .Call (.Name x _) es [] _ => decide (x = f.name) && glB sc f.name && cA sc xs es && es.all noStarE && !es.isEmpty
    | _ => false
  | .isi a t, e => match e with
    | .Call (.Name x _) [l, .Name z _] [] _ => decide (x = "isinstance") && glB sc "isinstance" && glB sc z && decide ((t, z) ∈ isiTys) && cE sc a l && noStarE l
    | _ => false
  | .fld a f, e => match e with
    | .Attribute x g _ => decide (g = f) && cE sc a x && plainBase x
    | _ => false
  | .meth a m xs ks ys, e => match e with
    | .Call (.Attribute ob g ap) es kws cp => decide (g = m) && cE sc a ob && plainBase ob && (ap.endLine == cp.line) && cA sc xs es && es.all noStarE && (kws.all fun k => k.arg.isSome) && decide (kwNames kws = ks) && cK sc ys kws && decide (es.length + kws.length < 29)
    | _ => false
  | .new c xs ks ys, e => match e with
    | .Call (.Name x _) es kws _ => decide (x = c) && glB sc c && plainNm c && cA sc xs es && !es.isEmpty && es.all noStarE && (kws.all fun k => k.arg.isSome) && decide (kwNames kws = ks) && cK sc ys kws
    | _ => false
  | .app l x, e => match e with
    | .Call (.Attribute ob g ap) [y] [] cp => decide (g = "append") && cE sc l ob && plainBase ob && (ap.endLine == cp.line) && cE sc x y && noStarE y
    | _ => false
  | .popl l, e => match e with
    | .Call (.Attribute ob g ap) [] [] cp => decide (g = "pop") && cE sc l ob && plainBase ob && (ap.endLine == cp.line)
    | _ => false
  | .dct0, e => match e with
    | .Dict [] [] _ => true
    | _ => false
  | .get d k f, e => match e with
    | .Call (.Attribute ob g ap) [y, z] [] cp => decide (g = "get") && cE sc d ob && plainBase ob && (ap.endLine == cp.line) && cE sc k y && cE sc f z && noStarE y && noStarE z
    | _ => false
  | .isb neg a b, e => match e with
    | .Compare l [o] [.Constant (.bool c) _ _] _ => decide (o = if neg = true then .IsNot else .Is) && (c == b) && cE sc a l
    | _ => false
  | .bm m ob xs, e => match e with
    | .Call (.Attribute x g ap) es [] cp => decide (g = m.name) && cE sc ob x && plainBase x && (ap.endLine == cp.line) && cA sc xs es && es.all noStarE && decide (es.length < 29)
    | _ => false
  | .rvs a, e => match e with
    | .Subscript x (.Slice none none (some (.UnaryOp .USub (.Constant (.int i) _ _) _)) _) _ => (i == 1) && cE sc a x
    | _ => false
  | .dct ps, e => match e with
    | .Dict keys vals _ => cP sc ps keys vals && !keys.isEmpty && decide (keys.length ≤ 15)
    | _ => false
  | .lc elt tg it ifs own, e => match e with
    | .ListComp e1 [⟨t1, i1, f1, 0⟩] scope _ => cI sc it t1 i1 && noSet i1 && blkC N sc scope own && cG scope (relS scope sc) tg t1 && cTs (relS scope sc) ifs f1 && cE (relS scope sc) elt e1 && (slotsG tg).all (fun j => (own.map (·.2)).contains j)
    | _ => false
  | .bad, _ => true
  | .fmt a, e => match e with
    | .FormattedValue x (-1) none _ => cE sc a x
    | _ => false
  | .fjoin xs, e => match e with
    | .JoinedStr es _ => cA sc xs es && !es.isEmpty && noStarA xs
    | _ => false
def cT (sc : Scope) : T → Expr → Bool
  | .e a, e => cE sc a e && plainT e
  | .cmp op a b, e => match e with
    | .Compare l [o] [r] _ => decide (o = op) && cE sc a l && cE sc b r && !behindInMarks op r
    | _ => false
  | .chain o1 o2 a b c, e => match e with
    | .Compare l [p1, p2] [r, q] _ => decide (p1 = o1) && decide (p2 = o2) && cE sc a l && cE sc b r && cE sc c q && !lastMarks [o1, o2] [r, q]
    | _ => false
  | .and a b, e => match e with
    | .BoolOp .And (x :: y :: []) _ => cT sc a x && cT sc b y
    | .BoolOp .And (x :: y :: z :: r) p => cT sc a x && cT sc b (.BoolOp .And (y :: z :: r) p)
    | _ => false
  | .or a b, e => match e with
    | .BoolOp .Or (x :: y :: []) _ => cT sc a x && cT sc b y
    | .BoolOp .Or (x :: y :: z :: r) p => cT sc a x && cT sc b (.BoolOp .Or (y :: z :: r) p)
    | _ => false
  | .not a, e => match e with
    | .UnaryOp .Not l _ => cT sc a l
    | _ => false
def cTs (sc : Scope) : Ts → List Expr → Bool
  | .nil, es => es.isEmpty
  | .cons t r, es => match es with
    | [e] => cT sc t e && cTs sc r []
    | _ => false
def cA (sc : Scope) : As → List Expr → Bool
  | .nil, es => es.isEmpty
  | .one a r, es => match es with
    | e :: es => cE sc a e && noStarE e && cA sc r es
    | [] => false
  | .star a r, es => match es with
    | .Starred x _ :: es => cE sc a x && cA sc r es
    | _ => false
def cK (sc : Scope) : As → List Keyword → Bool
  | .nil, ks => ks.isEmpty
  | .one a r, ks => match ks with
    | ⟨_, e, _⟩ :: ks => cE sc a e && cK sc r ks
    | [] => false
  | .star _ _, _ => false
def cP (sc : Scope) : Ps → List (Option Expr) → List Expr → Bool
  | .nil, ks, vs => ks.isEmpty && vs.isEmpty
  | .cons a b r, ks, vs => match ks, vs with
    | some k :: ks, v :: vs => cE sc a k && cE sc b v && cP sc r ks vs
    | _, _ => false
def cO (sc : Scope) : Eo → Option Expr → Bool
  | .none, o => o.isNone
  | .some a, o => match o with
    | some e => cE sc a e
    | none => false
def cG (sc0 sc : Scope) : Tg → Expr → Bool
  | .name i, e => match e with
    | .Name x _ => decide (N[i]? = some x) && locB sc0 x
    | _ => false
  | .tup ts, e => match e with
    | .Tuple es _ _ => cGs sc0 sc ts es && es.all noStarE && decide (es.length = lenG ts)
    | _ => false
  | .head ts, e => match e with
    | .Tuple [t1, .Starred t2 _] _ _ => cGs sc0 sc ts [t1, t2] && noStarE t1 && noStarE t2
    | _ => false
  | .sub a i, e => match e with
    | .Subscript x y _ => cE sc a x && cE sc i y && noSlice y
    | _ => false
def cGs (sc0 sc : Scope) : Tgs → List Expr → Bool
  | .nil, es => es.isEmpty
  | .cons t r, es => match es with
    | e :: es => cG sc0 sc t e && noStarE e && cGs sc0 sc r es
    | [] => false
def cI (sc : Scope) : It → Expr → Expr → Bool
  | .gen a, _, e => cE sc a e
  | .enum a, tg, e => match tg, e with
    | .Tuple _ _ _, .Call (.Name x _) [l] [] _ => decide (x = "enumerate") && glB sc "enumerate" && cE sc a l && noStarE l
    | _, _ => false
  | .zip b a1 a2, tg, e => match tg, e with
    | .Tuple _ _ _, .Call (.Name x _) [l, r] kws _ => decide (x = "zip") && glB sc "zip" && cE sc a1 l && cE sc a2 r && noStarE l && noStarE r && zkwB b kws
    | _, _ => false
  | .rev a, _, e => match e with
    | .Call (.Name x _) [l] [] _ => decide (x = "reversed") && glB sc "reversed" && cE sc a l && noStarE l
    | _ => false
  | .rng a, _, e => match e with
    | .Call (.Name x _) [l] [] _ => decide (x = "range") && glB sc "range" && cE sc a l && noStarE l
    | _ => false
  | .rng2 a b, _, e => match e with
    | .Call (.Name x _) [l, r] [] _ => decide (x = "range") && glB sc "range" && cE sc a l && cE sc b r && noStarE l && noStarE r
    | _ => false
end
/-- stores that are not turned round -/
def notLoc (sc : Scope) (t : Expr) : Bool := match t with
  | .Name x _ => !(sc.names.lookup x == some .local)
  | _ => true
def plainAsg (sc : Scope) (tg e : Expr) : Bool := (noComp e || (match tg with | .Name .. => false | _ => true)) && (match tg, e with
  | .Tuple ts _ _, .Tuple vs _ _ => (ts.length != 2 && ts.length != 3) || ts.any (notLoc sc)
  | .List .., _ => false
  | _, _ => true)
def parB (sc : Scope) (is : List Nat) (ts es : List Expr) : Bool := match is, ts, es with
  | [i, j], [.Name x px, .Name y py], [a, b] => decide (N[i]? = some x) && decide (N[j]? = some y) && decide (i ≠ j) && decide (sc.names.lookup x = some .local) && decide (sc.names.lookup y = some .local) && (py.line == px.line)
      && decide (([x, y] : List Str).eraseDups.length = 2) && !([a, b].all (foldedForSure 8)) && !([a, b].all (constantsAlone 8)) && noStarE a && noStarE b
  | [i, j, l], [.Name x px, .Name y py, .Name z pz], [a, b, c] => decide (N[i]? = some x) && decide (N[j]? = some y) && decide (N[l]? = some z) && decide (i ≠ j) && decide (i ≠ l) && decide (j ≠ l) && decide (sc.names.lookup x = some .local) && decide (sc.names.lookup y = some .local) && decide (sc.names.lookup z = some .local)
      && (py.line == px.line) && (pz.line == px.line) && decide (([x, y, z] : List Str).eraseDups.length = 3) && !([a, b, c].all (foldedForSure 8)) && !([a, b, c].all (constantsAlone 8)) && noStarE a && noStarE b && noStarE c
  | _, _, _ => false
mutual
def cS (sc : Scope) : S → Stmt → Bool
  | .doc, s => match s with
    | .Expr (.Constant (.str _) _ _) _ => true
    | _ => false
  | .expr a, s => match s with
    | .Expr e _ => cE fs N sc a e && noComp e
    | _ => false
  | .asg t a, s => match s with
    | .Assign [tg] e _ => cG fs N sc sc t tg && cE fs N sc a e && plainAsg sc tg e
    | _ => false
  | .asgL i a, s => match s with
    | .Assign [.Name y py] (.ListComp e1 gs scope p) sp => match a with
      | .lc elt tg it ifs own => cE fs N sc (.lc elt tg it ifs own) (.ListComp e1 gs scope p) && decide (N[i]? = some y) && decide (sc.names.lookup y = some .local) && (py.line == p.line) && !(scope.names.any fun (n, k) => n == y && (k == .local || k == .cell))
      | _ => false
    | _ => false
  | .par is xs, s => match s with
    | .Assign [.Tuple ts _ _] (.Tuple es _ _) _ => parB N sc is ts es && cA fs N sc xs es
    | _ => false
  | .ret a, s => match s with
    | .Return (some e) _ => cE fs N sc a e
    | _ => false
  | .retN, s => match s with
    | .Return none _ => true
    | _ => false
  | .ifs c a b, s => match s with
    | .If t x y _ => cT fs N sc c t && cSs sc a x && cSs sc b y
    | _ => false
  | .for_ t it b, s => match s with
    | .For tg i x [] _ => cG fs N sc sc t tg && cI fs N sc it tg i && noSet i && cSs sc b x
    | _ => false
  | .brk, s => match s with
    | .Break _ => true
    | _ => false
  | .cnt, s => match s with
    | .Continue _ => true
    | _ => false
  | .pass, s => match s with
    | .Pass _ => true
    | _ => false
  | .setf ob f a, s => match s with
    | .Assign [.Attribute x g _] e _ => decide (g = f) && cE fs N sc ob x && cE fs N sc a e && noComp e
    | _ => false
  | .mat a cs, s => match s with
    | .Match e ms _ => cE fs N sc a e && cCs sc cs ms
    | _ => false
  | .bad, _ => true
  | .whl c b, s => match s with
    | .While t x [] _ => cT fs N sc c t && cSs sc b x
    | _ => false
  | .tryN b, s => match s with
    | .Try x (_ :: _) [] [] _ => cSs sc b x
    | _ => false
def cCs (sc : Scope) : Cs → List MatchCase → Bool
  | .nil, ms => ms.isEmpty
  | .str y b r, ms => match ms with
    | ⟨.MatchValue (.Constant (.str z) _ _) _, none, body⟩ :: ms => decide (z = y) && cSs sc b body && cCs sc r ms
    | _ => false
  | .any b, ms => match ms with
    | ⟨.MatchAs none none _, none, body⟩ :: ms => cSs sc b body
    | _ => false
  | .pat p b r, ms => match ms with
    | ⟨q, none, body⟩ :: ms => cPt N sc p q && cSs sc b body && cCs sc r ms
    | _ => false
def cSs (sc : Scope) : Ss → List Stmt → Bool
  | .nil, ss => ss.isEmpty
  | .cons s r, ss => match ss with
    | x :: xs => cS sc s x && cSs sc r xs
    | [] => false
end
end
end Fv

set_option Elab.async false
set_option linter.all false
set_option maxRecDepth 100000
set_option maxHeartbeats 2000000
namespace Fv
open PySem L2
structure XOk (o : Orc) (fs N : List Str) (k : Nat) (sc0 : Scope) (X : Cx) : Prop where
  nm : X.N = N
  nd : N.Nodup
  calm : X.calm = true
  good : GoodB k X.A
  bn : ∀ b : Bn, X.mg b.name = none
  isi : X.mg "isinstance" = none
  rng : X.mg "range" = none
  enu : X.mg "enumerate" = none
  zp : X.mg "zip" = none
  rvd : X.mg "reversed" = none
  tys : ∀ q ∈ isiTys, X.mg q.2 = none
  gl : ∀ x v, o.tb.gl x = some v → ∃ u vv, X.mg x = some u ∧ RelV vv u ∧ ∀ H, RepV X.K X.w H v vv
  fn : ∀ f ∈ fs, ∃ a, X.mg f = some (.ref a) ∧ PySem.W.keepIn X.K (.ref a) = true ∧ FnP X.prog X.w X.K X.mg X.base k a (o.fn f)
  nof : ∀ c f, o.tb.nof c f = true → ∃ C, KCls X.K c C ∧ Cls X.K C ∧ NoAttr X.K C f
  mt : ∀ c m q, o.tb.mt c m = some q → ∃ C f, KCls X.K c C ∧ Cls X.K C ∧ Meth X.K C m f ∧ FnP X.prog X.w X.K X.mg X.base k f (o.fn q)
  ini : ∀ c q, o.tb.ini c = some q → ∃ C f, KCls X.K c C ∧ X.mg c = some (.ref C) ∧ Mk X.K C f ∧ FnP X.prog X.w X.K X.mg X.base k f (o.fn q)
  kd : X.env.scope.kind = .function
  tg : ∀ x, locB sc0 x = true → Loc X.env.scope x ∧ (X.fn x = true ∨ X.env.scope.names.lookup x = some .local)
theorem vis_of {sc : Scope} {x : Str} (h : visB sc x = true) : Vis sc x := by
  unfold visB at h
  split at h <;> first | cases h | skip
  · exact .inl ‹_›
  · exact .inr (.inl ‹_›)
  · exact .inr (.inr ‹_›)
theorem gl_of {X : Cx} {x : Str} (h : glB X.env.scope x = true) : Gl X x := by
  unfold glB at h
  split at h <;> first | cases h | skip
  assumption
theorem plain_nm {x : Str} (h : plainNm x = true) : (x == ("__debug__" : Str)) = false ∧ (x == ("__classdict__" : Str)) = false := by
  unfold plainNm at h
  simpa using h
theorem pe_false {X : Cx} {e : Expr} {t : TE} (h : ∀ σ H Q, ¬ t σ H Q) : PE X e t := ⟨fun _ _ _ _ _ _ q => (h _ _ _ q).elim⟩
theorem low_cst {K : PySem.W.Frag} {w : World} {W : WX} {v : PV} {u : V} (h : ∀ H, RepV K w H v u) : ∀ σ H Q, low K w W (wCst v) σ H Q → tC u σ H Q := by
  rintro σ H Q ⟨S, σ', G, W', Q', s, t, b⟩
  exact b v u G H Step.refl s.at_ (h H) t
theorem relab_lookup (b : Str → Bool) {x : Str} {kd : NameKind} (hk : kd ≠ .free) : ∀ names : List (Str × NameKind), names.lookup x = some kd →
    (names.map fun (p : Str × NameKind) => if (p.2 == NameKind.free && b p.1) = true then (p.1, NameKind.cell) else p).lookup x = some kd
  | [], h => by simp at h
  | (n, k) :: r, h => by
    rw [List.lookup_cons] at h
    rw [List.map_cons, List.lookup_cons]
    have e : ((if (k == NameKind.free && b n) = true then (n, NameKind.cell) else (n, k)) : Str × NameKind).1 = n := by split <;> rfl
    show (match x == ((if (k == NameKind.free && b n) = true then (n, NameKind.cell) else (n, k)) : Str × NameKind).1 with | true => some ((if (k == NameKind.free && b n) = true then (n, NameKind.cell) else (n, k)) : Str × NameKind).2 | false => _) = _
    rw [e]
    cases hx : x == n with
    | true =>
      rw [hx] at h
      cases h
      have h2 : (kd == NameKind.free && b n) = false := by
        have : (kd == NameKind.free) = false := by cases kd <;> first | rfl | exact absurd rfl hk
        rw [this]; rfl
      simp only [h2, Bool.false_eq_true, if_false]
    | false =>
      rw [hx] at h
      exact relab_lookup b hk r h
theorem rel_lookup {scope sc : Scope} {x : Str} (h : locB scope x = true) : Loc (relS scope sc) x ∧ ((scope.names.lookup x == some NameKind.cell) = true ∨ (relS scope sc).names.lookup x = some .local) := by
  have key : ∀ kd : NameKind, kd ≠ .free → scope.names.lookup x = some kd → (relS scope sc).names.lookup x = some kd := fun kd hk e => by
    have := relab_lookup (fun n => sc.kind == .function && sc.names.lookup n == some .cell) hk scope.names e
    have e2 : (relS scope sc).names = scope.names.map fun (p : Str × NameKind) => if (p.2 == NameKind.free && (sc.kind == .function && sc.names.lookup p.1 == some .cell)) = true then (p.1, NameKind.cell) else p := by
      unfold relS
      show scope.names.map _ = _
      apply List.map_congr_left
      rintro ⟨n, k⟩ _
      simp only [Bool.and_assoc]
    rw [e2]
    exact this
  unfold locB at h
  split at h <;> first | cases h | skip
  · rename_i e
    have := key .local (by decide) e
    exact ⟨.inl this, .inr this⟩
  · rename_i e
    have := key .cell (by decide) e
    exact ⟨.inr this, .inl (by rw [e]; rfl)⟩
theorem blk_ok {o : Orc} {fs N : List Str} {k : Nat} {sc0 : Scope} {X : Cx} (x : XOk o fs N k sc0 X) {scope : Scope} (hk : scope.kind = .function) (s : Shared) (H : Hp) (C : Addr) (cl : List (Str × Addr)) (fp : List Addr) :
    XOk o fs N k scope (X.blk s H scope (compEnvC scope cl C X.env) fp) :=
  ⟨x.nm, x.nd, x.calm, x.good, x.bn, x.isi, x.rng, x.enu, x.zp, x.rvd, x.tys, x.gl, x.fn, x.nof, x.mt, x.ini, hk, fun y h => rel_lookup (sc := X.env.scope) h⟩
theorem set_iter {it : Expr} {env : Env} (h : noSet it = true) : ∀ x, foldedSetIterable it env x = pure x := fun x => by
  cases it <;> first | rfl | cases h
theorem args_ne {es : List Expr} (h : (!es.isEmpty) = true) : ∃ e r, es = e :: r := by
  cases es with
  | nil => cases h
  | cons e r => exact ⟨e, r, rfl⟩
theorem imp_ts {X : Cx} {es : List Expr} {t t' : TT} (h : PTs X es t) (k : ∀ σ H Q, t' σ H Q → t σ H Q) : PTs X es t' := ⟨fun pins s σ H Q I q => h.run pins s σ H Q I (k σ H Q q)⟩
theorem imp_rng {X : Cx} {tg e : Expr} {W : WX} {t t' : TPI} (h : PI X tg e (lowI X.K X.w W t)) (k : ∀ σ G Q W', t' σ G Q W' → t σ G Q W') : PI X tg e (lowI X.K X.w W t') := imp_i h fun σ H Q ⟨S, σ', G, W', Q', s, q, bk⟩ => ⟨S, σ', G, W', Q', s, k _ _ _ _ q, bk⟩
theorem zkw_of {b : Bool} {kws : List Keyword} (h : zkwB b kws = true) : zkw b kws := by
  unfold zkwB at h
  split at h <;> first | cases h | skip
  · rw [decide_eq_true_eq] at h
    subst h
    exact ⟨_, _, _, rfl⟩
  · rfl
section
variable {o : Orc} {fs N : List Str} {k : Nat}
mutual
theorem sE : ∀ (a : E) (X : Cx) (sc0 : Scope) (W : WX) (e : Expr), XOk o fs N k sc0 X → Takes X W → cE fs N X.env.scope a e = true → PE X e (low X.K X.w W (wE o a))
  | .var i, X, sc0, W, e, x, tk, h => by
    unfold cE cName at h
    split at h <;> first | cases h | skip
    simp only [Bool.and_eq_true, decide_eq_true_eq] at h
    have pn := plain_nm h.2
    exact imp_e (pe_var (i := i) (by rw [x.nm]; exact h.1.1) (vis_of h.1.2) pn.1 pn.2) low_var
  | .cst v, X, sc0, W, e, x, tk, h => by
    unfold cE cConst at h
    split at h
    · split at h <;> first | cases h | skip
      rw [beq_iff_eq] at h
      subst h
      exact imp_e pe_int (low_cst fun _ => rfl)
    · split at h <;> first | cases h | skip
      rw [beq_iff_eq] at h
      subst h
      exact imp_e pe_bl (low_cst fun _ => rfl)
    · split at h <;> first | cases h | skip
      rw [decide_eq_true_eq] at h
      subst h
      exact imp_e pe_str (low_cst fun _ => rfl)
    · cases v <;> first | cases h | skip
      exact imp_e pe_non (low_cst fun _ => rfl)
    · cases h
  | .glob y, X, sc0, W, e, x, tk, h => by
    unfold cE cGlob at h
    split at h <;> first | cases h | skip
    simp only [Bool.and_eq_true, decide_eq_true_eq] at h
    obtain ⟨⟨rfl, hg⟩, hp⟩ := h
    unfold wE
    split
    · rename_i v hv
      obtain ⟨u, vv, h1, h2, h3⟩ := x.gl _ v hv
      exact imp_e (pe_glob (gl_of hg) h1 h2 (plain_nm hp).1) (low_cst h3)
    · refine pe_false ?_
      rintro σ H Q ⟨S, σ', G, W', Q', s, t, b⟩
      exact t
  | .bin op a b, X, sc0, W, e, x, tk, h => by
    unfold cE at h
    split at h <;> first | cases h | skip
    simp only [Bool.and_eq_true, decide_eq_true_eq] at h
    obtain ⟨⟨rfl, h1⟩, h2⟩ := h
    unfold wE
    exact pe_opP (opBin _) (sE a X sc0 W _ x tk h1) (sE b X sc0 W _ x tk h2)
  | .neg a, X, sc0, W, e, x, tk, h => by
    unfold cE at h
    split at h <;> first | cases h | skip
    unfold wE
    exact pe_negP (sE a X sc0 W _ x tk h)
  | .cmp op a b, X, sc0, W, e, x, tk, h => by
    unfold cE at h
    split at h <;> first | cases h | skip
    simp only [Bool.and_eq_true, decide_eq_true_eq, Bool.not_eq_true'] at h
    obtain ⟨⟨⟨rfl, h1⟩, h2⟩, h3⟩ := h
    unfold wE
    exact pe_cmpP (opCmp (by have := x.good.hu; omega) _) (sE a X sc0 W _ x tk h1) (sE b X sc0 W _ x tk h2) h3
  | .chain o1 o2 a b c, X, sc0, W, e, x, tk, h => by
    unfold cE at h
    split at h <;> first | cases h | skip
    simp only [Bool.and_eq_true, decide_eq_true_eq, Bool.not_eq_true'] at h
    obtain ⟨⟨⟨⟨⟨rfl, rfl⟩, h1⟩, h2⟩, h3⟩, h4⟩ := h
    unfold wE
    exact pe_chainP (by have := x.good.hu; omega) (sE a X sc0 W _ x tk h1) (sE b X sc0 W _ x tk h2) (sE c X sc0 W _ x tk h3) h4
  | .no a, X, sc0, W, e, x, tk, h => by
    unfold cE at h
    split at h <;> first | cases h | skip
    unfold wE
    exact pe_noP (sE a X sc0 W _ x tk h)
  | .and a b, X, sc0, W, e, x, tk, h => by
    unfold cE at h
    unfold wE
    split at h <;> first | cases h | skip
    · rw [Bool.and_eq_true] at h
      exact pe_andP (sE a X sc0 W _ x tk h.1) (pe_oneP (sE b X sc0 W _ x tk h.2))
    · rw [Bool.and_eq_true] at h
      exact pe_andP (sE a X sc0 W _ x tk h.1) (sE b X sc0 W _ x tk h.2)
  | .or a b, X, sc0, W, e, x, tk, h => by
    unfold cE at h
    unfold wE
    split at h <;> first | cases h | skip
    · rw [Bool.and_eq_true] at h
      exact pe_orP (sE a X sc0 W _ x tk h.1) (pe_oneP (sE b X sc0 W _ x tk h.2))
    · rw [Bool.and_eq_true] at h
      exact pe_orP (sE a X sc0 W _ x tk h.1) (sE b X sc0 W _ x tk h.2)
  | .ite c a b, X, sc0, W, e, x, tk, h => by
    unfold cE at h
    split at h <;> first | cases h | skip
    simp only [Bool.and_eq_true] at h
    unfold wE
    exact pe_iteP (sT c X sc0 W _ x tk h.1.1) (sE a X sc0 W _ x tk h.1.2) (sE b X sc0 W _ x tk h.2)
  | .tup xs, X, sc0, W, e, x, tk, h => by
    unfold cE at h
    split at h <;> first | cases h | skip
    unfold wE
    exact pe_tupP (sA xs X sc0 W _ x tk h)
  | .lst xs, X, sc0, W, e, x, tk, h => by
    unfold cE at h
    split at h <;> first | cases h | skip
    unfold wE
    exact pe_lstP (sA xs X sc0 W _ x tk h)
  | .idx a i, X, sc0, W, e, x, tk, h => by
    unfold cE at h
    split at h <;> first | cases h | skip
    simp only [Bool.and_eq_true] at h
    unfold wE
    exact pe_idxP (by have := x.good.hu; omega) (sE a X sc0 W _ x tk h.1.1) (sE i X sc0 W _ x tk h.1.2) (plain_ix _ h.2)
  | .sl a lo hi, X, sc0, W, e, x, tk, h => by
    unfold cE at h
    split at h <;> first | cases h | skip
    simp only [Bool.and_eq_true] at h
    unfold wE
    exact pe_slP (sE a X sc0 W _ x tk h.1.1) (sO lo X sc0 W _ x tk h.1.2) (sO hi X sc0 W _ x tk h.2)
  | .call f xs ks ys, X, sc0, W, e, x, tk, h => by
    unfold cE at h
    split at h <;> first | cases h | skip
    simp only [Bool.and_eq_true, decide_eq_true_eq] at h
    obtain ⟨⟨⟨⟨⟨⟨⟨⟨rfl, hf⟩, hg⟩, hp⟩, h1⟩, h2⟩, h3⟩, rfl⟩, h4⟩ := h
    obtain ⟨a, m1, m2, F⟩ := x.fn _ hf
    unfold wE
    rename_i es kws _
    have hA := sA xs X sc0 W _ x tk h1
    have hK := sK ys X sc0 W _ x tk h4
    cases es with
    | nil =>
      cases xs with
      | nil => exact pe_callP0 F x.good.good tk (gl_of hg) m1 m2 (plain_nm hp).1 hK h3
      | one a r => unfold cA at h1; cases h1
      | star a r => unfold cA at h1; cases h1
    | cons e es => exact pe_callP F x.good.good tk (gl_of hg) m1 m2 (plain_nm hp).1 hA hK h2 h3
  | .blt f xs, X, sc0, W, e, x, tk, h => by
    unfold cE at h
    split at h <;> first | cases h | skip
    simp only [Bool.and_eq_true, decide_eq_true_eq] at h
    obtain ⟨⟨⟨⟨rfl, hg⟩, h1⟩, h2⟩, h3⟩ := h
    obtain ⟨e0, r, rfl⟩ := args_ne h3
    unfold wE
    exact pe_bltP (bnAnyOf x.calm x.good.gd x.good.hu f) (gl_of hg) (x.bn f) (sA xs X sc0 W _ x tk h1) h2
  | .isi a t, X, sc0, W, e, x, tk, h => by
    unfold cE at h
    split at h <;> first | cases h | skip
    simp only [Bool.and_eq_true, decide_eq_true_eq] at h
    obtain ⟨⟨⟨⟨⟨rfl, hg⟩, hz⟩, hm⟩, h1⟩, h2⟩ := h
    unfold wE
    exact pe_isiP hm (gl_of hg) x.isi (gl_of hz) (x.tys _ hm) (sE a X sc0 W _ x tk h1) h2
  | .fld a f, X, sc0, W, e, x, tk, h => by
    unfold cE at h
    split at h <;> first | cases h | skip
    simp only [Bool.and_eq_true, decide_eq_true_eq] at h
    obtain ⟨⟨rfl, h1⟩, h2⟩ := h
    unfold wE
    exact pe_fldP (fun c hc => x.nof c _ hc) (sE a X sc0 W _ x tk h1) h2
  | .meth a m xs ks ys, X, sc0, W, e, x, tk, h => by
    unfold cE at h
    split at h <;> first | cases h | skip
    simp only [Bool.and_eq_true, decide_eq_true_eq] at h
    obtain ⟨⟨⟨⟨⟨⟨⟨⟨⟨rfl, h1⟩, h2⟩, h3⟩, h4⟩, h5⟩, h6⟩, rfl⟩, h7⟩, h8⟩ := h
    unfold wE
    rename_i ob g ap es kws cp
    have hA := sA xs X sc0 W _ x tk h4
    have hK := sK ys X sc0 W _ x tk h7
    cases es with
    | nil =>
      cases xs with
      | nil =>
        unfold wA
        exact pe_methP0 (fun c q hq => x.mt c _ q hq) x.good.good tk (sE a X sc0 W _ x tk h1) hK h6 h2 h3 (by simpa using h8)
      | one a r => unfold cA at h4; cases h4
      | star a r => unfold cA at h4; cases h4
    | cons e es => exact pe_methP (fun c q hq => x.mt c _ q hq) x.good.good tk (sE a X sc0 W _ x tk h1) hA hK h5 h6 h2 h3 h8
  | .new c xs ks ys, X, sc0, W, e, x, tk, h => by
    unfold cE at h
    split at h <;> first | cases h | skip
    simp only [Bool.and_eq_true, decide_eq_true_eq] at h
    obtain ⟨⟨⟨⟨⟨⟨⟨⟨rfl, hg⟩, hp⟩, h1⟩, h0⟩, h2⟩, h3⟩, rfl⟩, h4⟩ := h
    obtain ⟨e0, r, rfl⟩ := args_ne h0
    unfold wE
    cases hq : o.tb.ini _ with
    | none =>
      refine ⟨fun pins s σ H Q I h => ?_⟩
      obtain ⟨_, _, _, _, _, _, t, _⟩ := h
      exact t.elim
    | some q =>
      obtain ⟨C, f, kc, hm, M, F⟩ := x.ini _ q hq
      exact pe_newP M kc F x.good tk (gl_of hg) hm (plain_nm hp).1 (sA xs X sc0 W _ x tk h1) (sK ys X sc0 W _ x tk h4) h2 h3
  | .app l y, X, sc0, W, e, x, tk, h => by
    unfold cE at h
    split at h <;> first | cases h | skip
    simp only [Bool.and_eq_true, decide_eq_true_eq] at h
    obtain ⟨⟨⟨⟨⟨rfl, h1⟩, h2⟩, h3⟩, h4⟩, h5⟩ := h
    unfold wE
    exact pe_appP (sE l X sc0 W _ x tk h1) (sE y X sc0 W _ x tk h4) h2 h3 h5
  | .popl l, X, sc0, W, e, x, tk, h => by
    unfold cE at h
    split at h <;> first | cases h | skip
    simp only [Bool.and_eq_true, decide_eq_true_eq] at h
    obtain ⟨⟨⟨rfl, h1⟩, h2⟩, h3⟩ := h
    unfold wE
    exact pe_poplP (sE l X sc0 W _ x tk h1) h2 h3
  | .dct0, X, sc0, W, e, x, tk, h => by
    unfold cE at h
    split at h <;> first | cases h | skip
    unfold wE
    exact pe_dctP
  | .get d k f, X, sc0, W, e, x, tk, h => by
    unfold cE at h
    split at h <;> first | cases h | skip
    simp only [Bool.and_eq_true, decide_eq_true_eq] at h
    obtain ⟨⟨⟨⟨⟨⟨⟨rfl, h1⟩, h2⟩, h3⟩, h4⟩, h5⟩, h6⟩, h7⟩ := h
    unfold wE
    exact pe_getP (sE d X sc0 W _ x tk h1) (sE k X sc0 W _ x tk h4) (sE f X sc0 W _ x tk h5) h2 h3 h6 h7
  | .isb neg a b, X, sc0, W, e, x, tk, h => by
    unfold cE at h
    split at h <;> first | cases h | skip
    simp only [Bool.and_eq_true, decide_eq_true_eq, beq_iff_eq] at h
    obtain ⟨⟨rfl, rfl⟩, h1⟩ := h
    unfold wE
    exact pe_isbP (sE a X sc0 W _ x tk h1)
  | .bm m ob xs, X, sc0, W, e, x, tk, h => by
    unfold cE at h
    split at h <;> first | cases h | skip
    simp only [Bool.and_eq_true, decide_eq_true_eq] at h
    obtain ⟨⟨⟨⟨⟨⟨rfl, h1⟩, h2⟩, h3⟩, h4⟩, h5⟩, h6⟩ := h
    unfold wE
    rename_i ob2 g ap es cp
    have hA := sA xs X sc0 W _ x tk h4
    cases es with
    | nil =>
      cases xs with
      | nil =>
        unfold wA
        exact pe_bm0P (sE ob X sc0 W _ x tk h1) h2 h3
      | one a r => unfold cA at h4; cases h4
      | star a r => unfold cA at h4; cases h4
    | cons e es => exact pe_bmP (sE ob X sc0 W _ x tk h1) hA h2 h3 h5 h6
  | .rvs a, X, sc0, W, e, x, tk, h => by
    unfold cE at h
    split at h <;> first | cases h | skip
    simp only [Bool.and_eq_true, beq_iff_eq] at h
    obtain ⟨rfl, h1⟩ := h
    unfold wE
    exact pe_rvsP (sE a X sc0 W _ x tk h1)
  | .dct ps, X, sc0, W, e, x, tk, h => by
    unfold cE at h
    split at h <;> first | cases h | skip
    simp only [Bool.and_eq_true, decide_eq_true_eq, Bool.not_eq_true'] at h
    obtain ⟨⟨h1, h2⟩, h3⟩ := h
    unfold wE
    obtain ⟨trs, g1, g2, g3, g4⟩ := sP ps X sc0 W _ _ _ x tk h1
    exact pe_dispP g1 g2 g3 g4 (by intro z; rw [z] at h2; cases h2) h3
  | .lc elt tg it ifs own, X, sc0, W, e, x, tk, h => by
    unfold cE at h
    split at h <;> first | cases h | skip
    simp only [Bool.and_eq_true] at h
    obtain ⟨⟨⟨⟨⟨⟨h1, h2⟩, h3⟩, h4⟩, h5⟩, h6⟩, h7⟩ := h
    rename_i e1 t1 i1 f1 scope p
    have hb := blkOk_by h3
    unfold wE
    refine imp_e (pe_lc (g := lowG X.K X.w (fun _ _ _ _ => False) (slotsG tg) (wG o tg)) (tt := lowT X.K X.w (fun _ _ _ _ => False) (wTs o ifs)) (te := low X.K X.w (fun _ _ _ _ => False) (wE o elt)) x.calm (by rw [x.nm]; exact x.nd) (sI it X sc0 W t1 _ x tk h1) (by rw [x.nm]; exact hb) (fun s H C cl fp => sG tg _ scope (fun _ _ _ _ => False) _ (blk_ok x hb.kind s H C cl fp) takes0 h4)
      (fun s H C cl fp => sTs ifs _ scope (fun _ _ _ _ => False) _ (blk_ok x hb.kind s H C cl fp) takes0 h5) (fun s H C cl fp => sE elt _ scope (fun _ _ _ _ => False) _ (blk_ok x hb.kind s H C cl fp) takes0 h6) (set_iter h2)) ?_
    exact low_lc (fun j hj => by simpa using List.all_eq_true.mp h7 j hj)
  | .bad, X, sc0, W, e, x, tk, h => by
    unfold wE
    exact pe_badP
  | .fmt a, X, sc0, W, e, x, tk, h => by
    unfold cE at h
    split at h <;> first | cases h | skip
    unfold wE
    exact pe_fmtP (sE a X sc0 W _ x tk h)
  | .fjoin xs, X, sc0, W, e, x, tk, h => by
    unfold cE at h
    split at h <;> first | cases h | skip
    rename_i es p
    simp only [Bool.and_eq_true, Bool.not_eq_true'] at h
    obtain ⟨ts, hj⟩ := sF xs X sc0 W es x tk h.1.1 h.2
    unfold wE
    cases es with
    | nil => have := h.1.2; cases this
    | cons v1 r =>
      cases r with
      | nil => exact pe_fjoin1P hj
      | cons v2 r => exact pe_fjoinP hj
theorem sF : ∀ (a : As) (X : Cx) (sc0 : Scope) (W : WX) (es : List Expr), XOk o fs N k sc0 X → Takes X W → cA fs N X.env.scope a es = true → noStarA a = true → ∃ ts, PJP X W es ts (wF o a)
  | .nil, X, sc0, W, es, x, tk, h, _ => by
    unfold cA at h
    cases es with
    | nil => unfold wF; exact ⟨_, .nil⟩
    | cons e r => cases h
  | .one a r, X, sc0, W, es, x, tk, h, ns => by
    unfold cA at h
    split at h <;> first | cases h | skip
    simp only [Bool.and_eq_true] at h
    obtain ⟨ts, hj⟩ := sF r X sc0 W _ x tk h.2 (by unfold noStarA at ns; exact ns)
    unfold wF
    exact ⟨_, .cons (sE a X sc0 W _ x tk h.1.1) hj⟩
  | .star a r, X, sc0, W, es, x, tk, h, ns => by unfold noStarA at ns; cases ns
theorem sT : ∀ (a : T) (X : Cx) (sc0 : Scope) (W : WX) (e : Expr), XOk o fs N k sc0 X → Takes X W → cT fs N X.env.scope a e = true → PT X e (lowT X.K X.w W (wT o a))
  | .e a, X, sc0, W, e, x, tk, h => by
    unfold cT at h
    rw [Bool.and_eq_true] at h
    unfold wT
    exact pt_eP (sE a X sc0 W _ x tk h.1) fun whole => plain_test e (by unfold plainT at h; cases e <;> first | rfl | exact h.2) X.env whole
  | .cmp op a b, X, sc0, W, e, x, tk, h => by
    unfold cT at h
    split at h <;> first | cases h | skip
    simp only [Bool.and_eq_true, decide_eq_true_eq, Bool.not_eq_true'] at h
    obtain ⟨⟨⟨rfl, h1⟩, h2⟩, h3⟩ := h
    unfold wT
    exact pt_cmpP (by have := x.good.hu; omega) (sE a X sc0 W _ x tk h1) (sE b X sc0 W _ x tk h2) h3
  | .chain o1 o2 a b c, X, sc0, W, e, x, tk, h => by
    unfold cT at h
    split at h <;> first | cases h | skip
    simp only [Bool.and_eq_true, decide_eq_true_eq, Bool.not_eq_true'] at h
    obtain ⟨⟨⟨⟨⟨rfl, rfl⟩, h1⟩, h2⟩, h3⟩, h4⟩ := h
    unfold wT
    exact pt_chainP (by have := x.good.hu; omega) (sE a X sc0 W _ x tk h1) (sE b X sc0 W _ x tk h2) (sE c X sc0 W _ x tk h3) h4
  | .and a b, X, sc0, W, e, x, tk, h => by
    have q := sW (.and a b) X sc0 W e x tk (by unfold cT at h; split at h <;> first | rfl | cases h) h
    exact q.pt
  | .or a b, X, sc0, W, e, x, tk, h => by
    have q := sW (.or a b) X sc0 W e x tk (by unfold cT at h; split at h <;> first | rfl | cases h) h
    exact q.pt
  | .not a, X, sc0, W, e, x, tk, h => by
    unfold cT at h
    split at h <;> first | cases h | skip
    unfold wT
    exact pt_notP (sT a X sc0 W _ x tk h)
theorem sTs : ∀ (a : Ts) (X : Cx) (sc0 : Scope) (W : WX) (es : List Expr), XOk o fs N k sc0 X → Takes X W → cTs fs N X.env.scope a es = true → PTs X es (lowT X.K X.w W (wTs o a))
  | .nil, X, sc0, W, es, x, tk, h => by
    unfold cTs at h
    cases es with
    | cons e r => cases h
    | nil =>
      unfold wTs
      refine imp_ts pts_nil ?_
      rintro σ H Q ⟨S, σ', G, W', Q', s, t, bk⟩
      exact bk true G H Step.refl s.at_ t
  | .cons t r, X, sc0, W, es, x, tk, h => by
    unfold cTs at h
    split at h <;> first | cases h | skip
    rw [Bool.and_eq_true] at h
    cases r with
    | cons t2 r2 => have h2 := h.2; unfold cTs at h2; cases h2
    | nil =>
      unfold wTs wTs
      refine imp_ts (pts_one (sT t X sc0 W _ x tk h.1)) ?_
      rintro σ H Q ⟨S, σ', G, W', Q', s, t, bk⟩
      refine ⟨S, σ', G, W', _, s, t, fun b G1 H1 st a1 q => bk b G1 H1 st a1 ?_⟩
      cases b <;> simpa using q
theorem sA : ∀ (a : As) (X : Cx) (sc0 : Scope) (W : WX) (es : List Expr), XOk o fs N k sc0 X → Takes X W → cA fs N X.env.scope a es = true → PA X es (lowA X.K X.w W (wA o a))
  | .nil, X, sc0, W, es, x, tk, h => by
    unfold cA at h
    cases es with
    | nil => unfold wA; exact pa_nilP
    | cons e r => cases h
  | .one a r, X, sc0, W, es, x, tk, h => by
    unfold cA at h
    split at h <;> first | cases h | skip
    simp only [Bool.and_eq_true] at h
    unfold wA
    exact pa_consP (sE a X sc0 W _ x tk h.1.1) (sA r X sc0 W _ x tk h.2) (no_star _ _ X.env h.1.2)
  | .star a r, X, sc0, W, es, x, tk, h => by
    unfold cA at h
    split at h <;> first | cases h | skip
    rw [Bool.and_eq_true] at h
    unfold wA
    exact pa_starP (sE a X sc0 W _ x tk h.1) (sA r X sc0 W _ x tk h.2)
theorem sK : ∀ (a : As) (X : Cx) (sc0 : Scope) (W : WX) (es : List Keyword), XOk o fs N k sc0 X → Takes X W → cK fs N X.env.scope a es = true → PK X es (lowA X.K X.w W (wA o a))
  | .nil, X, sc0, W, es, x, tk, h => by
    unfold cK at h
    cases es with
    | nil => unfold wA; exact pk_nilP
    | cons e r => cases h
  | .one a r, X, sc0, W, es, x, tk, h => by
    unfold cK at h
    split at h <;> first | cases h | skip
    simp only [Bool.and_eq_true] at h
    unfold wA
    exact pk_consP (sE a X sc0 W _ x tk h.1) (sK r X sc0 W _ x tk h.2)
  | .star a r, X, sc0, W, es, x, tk, h => by unfold cK at h; cases h
theorem sP : ∀ (a : Ps) (X : Cx) (sc0 : Scope) (W : WX) (pos : Pos) (ks : List (Option Expr)) (vs : List Expr), XOk o fs N k sc0 X → Takes X W → cP fs N X.env.scope a ks vs = true → ∃ trs, PPs X pos ks vs trs ∧ lowP X.K X.w W (wP o a) trs ∧ ks.all (·.isSome) = true ∧ ks.length = vs.length
  | .nil, X, sc0, W, pos, ks, vs, x, tk, h => by
    unfold cP at h
    rw [Bool.and_eq_true] at h
    obtain rfl := List.isEmpty_iff.1 h.1
    obtain rfl := List.isEmpty_iff.1 h.2
    exact ⟨[], pps_nil, by unfold wP; exact lowP_nil, rfl, rfl⟩
  | .cons a b r, X, sc0, W, pos, ks, vs, x, tk, h => by
    unfold cP at h
    split at h <;> first | cases h | skip
    simp only [Bool.and_eq_true] at h
    obtain ⟨trs, g1, g2, g3, g4⟩ := sP r X sc0 W pos _ _ x tk h.2
    exact ⟨_, pps_cons (sE a X sc0 W _ x tk h.1.1) (sE b X sc0 W _ x tk h.1.2) g1, by unfold wP; exact lowP_cons g2, by simpa using g3, by simp [g4]⟩
theorem sO : ∀ (a : Eo) (X : Cx) (sc0 : Scope) (W : WX) (e : Option Expr), XOk o fs N k sc0 X → Takes X W → cO fs N X.env.scope a e = true → L2.PO X e (lowO X.K X.w W (wO o a))
  | .none, X, sc0, W, e, x, tk, h => by
    unfold cO at h
    cases e with
    | none => unfold wO; exact po_noneP
    | some e => cases h
  | .some a, X, sc0, W, e, x, tk, h => by
    unfold cO at h
    split at h <;> first | cases h | skip
    unfold wO
    exact po_someP (sE a X sc0 W _ x tk h)
theorem sG : ∀ (a : Tg) (X : Cx) (sc0 : Scope) (W : WX) (e : Expr), XOk o fs N k sc0 X → Takes X W → cG fs N sc0 X.env.scope a e = true → PG X e (lowG X.K X.w W (slotsG a) (wG o a))
  | .name i, X, sc0, W, e, x, tk, h => by
    unfold cG at h
    split at h <;> first | cases h | skip
    simp only [Bool.and_eq_true, decide_eq_true_eq] at h
    unfold wG slotsG
    exact pg_nameP (by rw [x.nm]; exact x.nd) (by rw [x.nm]; exact h.1) (x.tg _ h.2).1 (x.tg _ h.2).2
  | .tup ts, X, sc0, W, e, x, tk, h => by
    unfold cG at h
    split at h <;> first | cases h | skip
    simp only [Bool.and_eq_true, decide_eq_true_eq] at h
    unfold wG slotsG
    exact pg_tupP x.calm (sGs ts X sc0 W _ x tk h.1.1) h.2 h.1.2
  | .head ts, X, sc0, W, e, x, tk, h => by
    unfold cG at h
    split at h <;> first | cases h | skip
    simp only [Bool.and_eq_true] at h
    unfold wG slotsG
    exact pg_headP x.calm (sGs ts X sc0 W _ x tk h.1.1) h.1.2 h.2
  | .sub a i, X, sc0, W, e, x, tk, h => by
    unfold cG at h
    split at h <;> first | cases h | skip
    simp only [Bool.and_eq_true] at h
    unfold wG slotsG
    exact pg_subP (by have := x.good.hu; omega) h.2 (sE a X sc0 W _ x tk h.1.1) (sE i X sc0 W _ x tk h.1.2)
theorem sGs : ∀ (a : Tgs) (X : Cx) (sc0 : Scope) (W : WX) (es : List Expr), XOk o fs N k sc0 X → Takes X W → cGs fs N sc0 X.env.scope a es = true → PGs X es (lowGs X.K X.w W (slotsGs a) (wGs o a))
  | .nil, X, sc0, W, es, x, tk, h => by
    unfold cGs at h
    cases es with
    | nil => unfold wGs slotsGs; exact pgs_nilP
    | cons e r => cases h
  | .cons t r, X, sc0, W, es, x, tk, h => by
    unfold cGs at h
    split at h <;> first | cases h | skip
    simp only [Bool.and_eq_true] at h
    unfold wGs slotsGs
    exact pgs_consP h.1.2 (sG t X sc0 W _ x tk h.1.1) (sGs r X sc0 W _ x tk h.2)
theorem sI : ∀ (a : It) (X : Cx) (sc0 : Scope) (W : WX) (tg e : Expr), XOk o fs N k sc0 X → Takes X W → cI fs N X.env.scope a tg e = true → PI X tg e (lowI X.K X.w W (wI o a))
  | .gen a, X, sc0, W, tg, e, x, tk, h => by
    unfold cI at h
    unfold wI
    exact pi_genP (sE a X sc0 W _ x tk h)
  | .enum a, X, sc0, W, tg, e, x, tk, h => by
    unfold cI at h
    split at h <;> first | cases h | skip
    simp only [Bool.and_eq_true, decide_eq_true_eq] at h
    obtain ⟨⟨⟨rfl, hg⟩, h1⟩, h2⟩ := h
    unfold wI
    exact pi_enumP (gl_of hg) x.enu (sE a X sc0 W _ x tk h1) h2
  | .zip b a1 a2, X, sc0, W, tg, e, x, tk, h => by
    unfold cI at h
    split at h <;> first | cases h | skip
    simp only [Bool.and_eq_true, decide_eq_true_eq] at h
    obtain ⟨⟨⟨⟨⟨⟨rfl, hg⟩, h1⟩, h2⟩, h3⟩, h4⟩, h5⟩ := h
    unfold wI
    exact pi_zipP (gl_of hg) x.zp (sE a1 X sc0 W _ x tk h1) (sE a2 X sc0 W _ x tk h2) h3 h4 (zkw_of h5)
  | .rev a, X, sc0, W, tg, e, x, tk, h => by
    unfold cI at h
    split at h <;> first | cases h | skip
    simp only [Bool.and_eq_true, decide_eq_true_eq] at h
    obtain ⟨⟨⟨rfl, hg⟩, h1⟩, h2⟩ := h
    unfold wI
    exact pi_revP (gl_of hg) x.rvd (sE a X sc0 W _ x tk h1) h2
  | .rng a, X, sc0, W, tg, e, x, tk, h => by
    unfold cI at h
    split at h <;> first | cases h | skip
    simp only [Bool.and_eq_true, decide_eq_true_eq] at h
    obtain ⟨⟨⟨rfl, hg⟩, h1⟩, h2⟩ := h
    unfold wI
    exact pi_rngP1 (gl_of hg) x.rng (sE a X sc0 W _ x tk h1) h2
  | .rng2 a b, X, sc0, W, tg, e, x, tk, h => by
    unfold cI at h
    split at h <;> first | cases h | skip
    simp only [Bool.and_eq_true, decide_eq_true_eq] at h
    obtain ⟨⟨⟨⟨⟨rfl, hg⟩, h1⟩, h2⟩, h3⟩, h4⟩ := h
    unfold wI
    exact pi_rngP2 (gl_of hg) x.rng (sE a X sc0 W _ x tk h1) (sE b X sc0 W _ x tk h2) h3 h4
theorem sW : ∀ (a : T) (X : Cx) (sc0 : Scope) (W : WX) (e : Expr), XOk o fs N k sc0 X → Takes X W → (match a, e with | .and .., .BoolOp .And _ _ => true | .or .., .BoolOp .Or _ _ => true | _, _ => false) = true → cT fs N X.env.scope a e = true → L2.PW X e (lowT X.K X.w W (wT o a))
  | .and a b, X, sc0, W, e, x, tk, hh, h => by
    unfold cT at h
    unfold wT
    split at h <;> first | cases h | skip
    · rw [Bool.and_eq_true] at h
      exact pw_andP (sT a X sc0 W _ x tk h.1) (pw_and1 (sT b X sc0 W _ x tk h.2))
    · rw [Bool.and_eq_true] at h
      exact pw_andP (sT a X sc0 W _ x tk h.1) (sW b X sc0 W _ x tk (by
        have h2 := h.2
        cases b <;> first | rfl | (unfold cT at h2; simp [plainT] at h2; done)) h.2)
  | .or a b, X, sc0, W, e, x, tk, hh, h => by
    unfold cT at h
    unfold wT
    split at h <;> first | cases h | skip
    · rw [Bool.and_eq_true] at h
      exact pw_orP (sT a X sc0 W _ x tk h.1) (pw_or1 (sT b X sc0 W _ x tk h.2))
    · rw [Bool.and_eq_true] at h
      exact pw_orP (sT a X sc0 W _ x tk h.1) (sW b X sc0 W _ x tk (by
        have h2 := h.2
        cases b <;> first | rfl | (unfold cT at h2; simp [plainT] at h2; done)) h.2)
  | .e _, _, _, _, _, _, _, hh, _ => by cases hh
  | .cmp .., _, _, _, _, _, _, hh, _ => by cases hh
  | .chain .., _, _, _, _, _, _, hh, _ => by cases hh
  | .not .., _, _, _, _, _, _, hh, _ => by cases hh
end
end
end Fv

set_option Elab.async false
set_option linter.all false
set_option maxRecDepth 100000
set_option maxHeartbeats 1000000
namespace Fv
open PySem L2
section
variable {X : Cx} {W : WX} {e tg : Expr} {pos : Pos} {te : TPE} {t u : TPS} {st : Stmt} {rest : List Stmt}
theorem low_seq : ∀ D σ H, lowS X.K X.w W (fun D σ G => t { D with nx := fun σ1 G1 => u D σ1 G1 } σ G) D σ H → tSeq (lowS X.K X.w W t) (lowS X.K X.w W u) D σ H := by
  rintro D σ H ⟨S, σ', G, D', s, q, b⟩
  refine ⟨S, σ', G, { D' with nx := fun σ1 G1 => u D' σ1 G1 }, s, q, ⟨fun τ' τ G1 H1 st a r q => ?_, b.rt, b.bk, b.ct⟩⟩
  exact ⟨S, τ', G1, D', (s.next st a).slots r, q, b.next st⟩
theorem pss_nilP : PSs X [] (lowS X.K X.w W fun D σ G => D.nx σ G) := by
  refine imp_ss pss_nil ?_
  rintro D σ H ⟨S, σ', G, D', s, q, b⟩
  exact b.nx _ _ _ _ Step.refl s.at_ s.sl q
theorem pss_consP (h1 : PS X st (lowS X.K X.w W t)) (h2 : PSs X rest (lowS X.K X.w W u)) : PSs X (st :: rest) (lowS X.K X.w W fun D σ G => t { D with nx := fun σ1 G1 => u D σ1 G1 } σ G) := imp_ss (pss_cons h1 h2) low_seq
theorem ps_exprP (he : PE X e (low X.K X.w W te)) (hs : swapsWith e none pos.line X.env = pure false) : PS X (.Expr e pos) (lowS X.K X.w W fun D σ G => te σ G (fun _ G1 => D.nx σ G1) D.ex) := by
  refine imp_s (ps_expr he hs) ?_
  rintro D σ H ⟨S, σ', G, D', s, q, b⟩
  refine low_bind s q fun x v G1 H1 st s1 r1 t1 => ?_
  exact b.nx _ _ _ _ st s1.at_ s1.sl t1
theorem ps_retP (he : PE X e (low X.K X.w W te)) : PS X (.Return (some e) pos) (lowS X.K X.w W fun D σ G => te σ G D.rt D.ex) := by
  refine imp_s (ps_ret he) ?_
  rintro D σ H ⟨S, σ', G, D', s, q, b⟩
  exact ⟨S, σ', G, D'.ex, D'.rt, s, q, b.rt⟩
theorem ps_asgP {g : TPG} {sl : List Nat} (he : PE X e (low X.K X.w W te)) (hg : PG X tg (lowG X.K X.w W sl g)) (ht : noStarE tg = true) (hs : swapsWithSole [tg] e pos.line X.env = pure false) (hw : swappedStores [tg] e X.env = pure none) :
    PS X (.Assign [tg] e pos) (lowS X.K X.w W fun D σ G => te σ G (fun x G1 => g x σ G1 D.nx D.ex) D.ex) := by
  refine imp_s (ps_asg he hg hs hw (by rw [asg_each tg [] X.env ht] <;> rfl)) ?_
  rintro D σ H ⟨S, σ', G, D', s, q, b⟩
  refine low_bind s q fun x v G1 H1 st s1 r1 t1 => ?_
  exact ⟨S, σ', G1, D'.ex, x, D'.nx, s1, r1, t1, fun τ' τ G2 H2 st2 a2 r2 _ q2 => b.nx τ' τ G2 H2 (st.trans st2) a2 r2 q2⟩
theorem ps_ifP {c : Expr} {a b : List Stmt} {tc : TPT} (hc : PT X c (lowT X.K X.w W tc)) (ha : PSs X a (lowS X.K X.w W t)) (hb : PSs X b (lowS X.K X.w W u)) :
    PS X (.If c a b pos) (lowS X.K X.w W fun D σ G => tc σ G (fun k G1 => if k = true then t D σ G1 else u D σ G1) D.ex) := by
  refine imp_s (ps_if hc ha hb) ?_
  rintro D σ H ⟨S, σ', G, D', s, q, b⟩
  refine ⟨S, σ', G, D'.ex, _, s, q, fun k G1 H1 st a q => ?_⟩
  cases k with
  | true => exact ⟨S, σ', G1, D', s.next st a, by simpa using q, b.next st⟩
  | false => exact ⟨S, σ', G1, D', s.next st a, by simpa using q, b.next st⟩
theorem ps_forP {iter : Expr} {body : List Stmt} {wi : TPI} {g : TPG} {sl : List Nat} {tb : TPS} (hp : PassesOwn (model X.prog X.w) X.A X.env X.xe) (hc : X.calm = true) (hi : PI X tg iter (lowI X.K X.w W wi)) (hg : PG X tg (lowG X.K X.w W sl g)) (hb : PSs X body (lowS X.K X.w W tb))
    (hs : ∀ x, foldedSetIterable iter X.env x = pure x) : PS X (.For tg iter body [] pos) (lowS X.K X.w W fun D σ G => wi σ G (fun xs kp G1 => forL kp g tb D xs σ G1) D.ex) := by
  refine imp_s (ps_for hp hc hi hg hb hs) ?_
  rintro D σ H ⟨S, σ', G, D', s, q, b⟩
  refine ⟨S, σ', G, D'.ex, _, s, q, fun xs kp G1 H1 J st1 a1 ok q => ?_⟩
  refine ⟨fun i m τ Hx => m = xs.length - i ∧ i ≤ xs.length ∧ ∃ τ' Gx, Step S H1 Hx ∧ At X.K X.w S Gx Hx ∧ RepS X.K X.w Hx τ' τ ∧ forL kp g tb D' (xs.drop i) τ' Gx, ⟨xs.length, by simp, Nat.zero_le _, σ', G1, Step.refl, a1, s.sl.mono st1.toStay, q⟩, ?_⟩
  rintro i m τ Hx ⟨rfl, hi, τ', Gx, stx, ax, rx, qx⟩
  by_cases hlt : i < xs.length
  · have ed : xs.drop i = xs[i] :: xs.drop (i + 1) := List.drop_eq_getElem_cons hlt
    rw [ed] at qx
    obtain ⟨kk, qx⟩ := qx
    obtain ⟨go, yl⟩ := (ok _ Gx Hx stx.toStay ax kk i).1 hlt
    refine .inr ⟨go, fun τ Hy => ∃ τ' Gy, Step S H1 Hy ∧ At X.K X.w S Gy Hy ∧ RepS X.K X.w Hy τ' τ ∧ forL kp g tb D' (xs.drop (i + 1)) τ' Gy, fun τ Hy h => ⟨xs.length - (i + 1), by omega, rfl, hlt, h⟩, fun x H' hy => ?_⟩
    obtain ⟨y, ey, sty, ay, ry⟩ := yl x H' hy
    have : y = xs[i] := by rw [List.getElem?_eq_getElem hlt] at ey; exact (Option.some.inj ey).symm
    subst this
    have sz := (st1.trans stx).trans sty
    have si := (s.next sz ay).slots (rx.mono sty.toStay)
    refine ⟨S, τ', Gx, D'.ex, _, _, si, ry, qx, fun ρ' ρ G2 H2 st2 a2 r2 _ q2 => ?_⟩
    have ba := b.next (sz.trans st2)
    refine ⟨S, ρ', G2, { D' with nx := fun σ3 G3 => ∃ G4, Sub G4 G3 ∧ forL kp g tb D' (xs.drop (i + 1)) σ3 G4, ct := fun σ3 G3 => ∃ G4, Sub G4 G3 ∧ forL kp g tb D' (xs.drop (i + 1)) σ3 G4, bk := D'.nx }, ⟨a2, r2, (si.next st2 a2).wx⟩, q2, ⟨fun κ' κ G3 H3 st3 a3 r3 q3 => ?_, ba.rt, ba.nx, fun κ' κ G3 H3 st3 a3 r3 q3 => ?_⟩⟩
    · obtain ⟨G4, sb, q3⟩ := q3
      exact ⟨κ', G4, stx.trans (sty.trans (st2.trans st3)), a3.sub sb, r3, q3⟩
    · obtain ⟨G4, sb, q3⟩ := q3
      exact ⟨κ', G4, stx.trans (sty.trans (st2.trans st3)), a3.sub sb, r3, q3⟩
  · have e : i = xs.length := by omega
    subst e
    rw [List.drop_length] at qx
    obtain ⟨kk, qx⟩ := qx
    exact .inl ⟨(ok _ Gx Hx stx.toStay ax kk _).2 rfl, b.nx τ' τ Gx Hx (st1.trans stx) ax rx qx⟩
end
theorem swaps_no {e : Expr} {tg : Option Expr} {n : Nat} {env : Env} (h : noComp e = true) : swapsWith e tg n env = pure false := by
  cases e <;> first | rfl | cases h
theorem plain_sole {tg e : Expr} {n : Nat} {env : Env} {sc : Scope} (h : plainAsg sc tg e = true) : swapsWithSole [tg] e n env = pure false := by
  unfold plainAsg at h
  rw [Bool.and_eq_true, Bool.or_eq_true] at h
  rcases h.1 with h1 | h1
  · exact swaps_no h1
  · show swapsWith e (some tg) n env = _
    cases tg <;> first | cases h1 | skip
    all_goals (cases e <;> rfl)
theorem filt_lt {α β : Type} {f : α → Option β} {p : α → Bool} (hp : ∀ x, p x = true → f x = none) : ∀ {l : List α}, l.any p = true → (l.filterMap f).length < l.length
  | [], h => by cases h
  | x :: xs, h => by
    rw [List.any_cons, Bool.or_eq_true] at h
    have hle : (xs.filterMap f).length ≤ xs.length := List.length_filterMap_le f xs
    rcases h with h | h
    · rw [List.filterMap_cons_none (hp x h), List.length_cons]; omega
    · have := filt_lt hp h
      rw [List.length_cons]
      cases e : f x with
      | none => rw [List.filterMap_cons_none e]; omega
      | some y => rw [List.filterMap_cons_some e, List.length_cons]; omega
theorem plain_stores {tg e : Expr} {env : Env} (h : plainAsg env.scope tg e = true) : swappedStores [tg] e env = pure none := by
  unfold plainAsg at h
  rw [Bool.and_eq_true] at h
  have h2 := h.2
  unfold swappedStores
  cases tg <;> first | rfl | (simp at h2; done) | skip
  rename_i ts k p
  cases e <;> first | rfl | skip
  rename_i vs k2 p2
  simp only [Bool.or_eq_true, Bool.and_eq_true, bne_iff_ne] at h2
  rcases h2 with h2 | h2
  · have h3 : (!(ts.length == 2 || ts.length == 3)) = true := by simp [h2.1, h2.2]
    simp [h3]
  · dsimp only
    split
    · rfl
    · split
      · rfl
      · rw [if_pos ?_]
        rw [Bool.or_eq_true]
        left
        rw [bne_iff_ne]
        refine Nat.ne_of_lt (filt_lt (p := notLoc env.scope) (fun t ht => ?_) h2)
        cases t <;> first | rfl | skip
        rename_i x px
        simp only [notLoc, Bool.not_eq_true'] at ht
        simp [Env.kindOf, ht]
theorem g_noStar {fs N : List Str} {sc0 sc : Scope} {t : Tg} {e : Expr} (h : cG fs N sc0 sc t e = true) : noStarE e = true := by
  cases t <;> (unfold cG at h; split at h <;> first | rfl | cases h)
theorem anyStar {l : List Expr} (h : l.all noStarE = true) : (l.any fun x => match x with | .Starred .. => true | _ => false) = false := by
  rw [List.any_eq_false]
  intro x hx
  have := List.all_eq_true.1 h x hx
  cases x <;> first | (intro z; cases z; done) | (exact absurd this (by intro z; cases z))
theorem loc_eq : (some NameKind.local == some NameKind.local) = true := rfl
theorem par2 {x y : Str} {px py pt pt2 : Pos} {kt k2 : Nat} {a b : Expr} {env : Env} (hk : env.scope.kind = .function) (hx : env.scope.names.lookup x = some .local) (hy : env.scope.names.lookup y = some .local) (hl : (py.line == px.line) = true) (hd : ([x, y] : List Str).eraseDups.length = 2)
    (h1 : [a, b].all (foldedForSure 8) = false) (h2 : [a, b].all (constantsAlone 8) = false) (h3 : [a, b].all noStarE = true) : swappedStores [.Tuple [.Name x px, .Name y py] kt pt] (.Tuple [a, b] k2 pt2) env = pure (some [x, y]) := by
  have hb : env.blockKind = .function := by unfold Env.blockKind; rw [hk]; rfl
  have e1 := anyStar h3
  have hp : (px.line == px.line) = true := by simp
  unfold swappedStores
  simp only [List.length_cons, List.length_nil, hb, List.filterMap_cons, List.filterMap_nil, Env.kindOf, hx, hy, List.head?_cons, Option.map_some, Option.getD_some, Expr.pos, hl, hp, loc_eq, Bool.and_self, if_true, h1, h2, hd]
  rw [if_neg (by decide)]
  split
  · rename_i h; exact absurd (h.symm.trans e1) (by decide)
  · rw [if_neg (by decide), if_neg (by decide)]
    rfl
theorem par3 {x y z : Str} {px py pz pt pt2 : Pos} {kt k2 : Nat} {a b c : Expr} {env : Env} (hk : env.scope.kind = .function) (hx : env.scope.names.lookup x = some .local) (hy : env.scope.names.lookup y = some .local) (hz : env.scope.names.lookup z = some .local) (hl : (py.line == px.line) = true) (hm : (pz.line == px.line) = true) (hd : ([x, y, z] : List Str).eraseDups.length = 3)
    (h1 : [a, b, c].all (foldedForSure 8) = false) (h2 : [a, b, c].all (constantsAlone 8) = false) (h3 : [a, b, c].all noStarE = true) : swappedStores [.Tuple [.Name x px, .Name y py, .Name z pz] kt pt] (.Tuple [a, b, c] k2 pt2) env = pure (some [x, y, z]) := by
  have hb : env.blockKind = .function := by unfold Env.blockKind; rw [hk]; rfl
  have e1 := anyStar h3
  have hp : (px.line == px.line) = true := by simp
  unfold swappedStores
  simp only [List.length_cons, List.length_nil, hb, List.filterMap_cons, List.filterMap_nil, Env.kindOf, hx, hy, hz, List.head?_cons, Option.map_some, Option.getD_some, Expr.pos, hl, hp, hm, loc_eq, Bool.and_self, if_true, h1, h2, hd]
  rw [if_neg (by decide)]
  split
  · rename_i h; exact absurd (h.symm.trans e1) (by decide)
  · rw [if_neg (by decide), if_neg (by decide)]
    rfl
section
variable {o : Orc} {fs N : List Str} {k : Nat}
mutual
theorem sS : ∀ (a : S) (X : Cx) (W : WX) (st : Stmt), XOk o fs N k X.env.scope X → PassesOwn (model X.prog X.w) X.A X.env X.xe → Takes X W → cS fs N X.env.scope a st = true → PS X st (lowS X.K X.w W (wS o a))
  | .doc, X, W, st, x, po, tk, h => by
    unfold cS at h
    split at h <;> first | cases h | skip
    unfold wS
    refine imp_s ps_doc ?_
    rintro D σ H ⟨S, σ', G, D', s, q, b⟩
    exact b.nx _ _ _ _ Step.refl s.at_ s.sl q
  | .expr a, X, W, st, x, po, tk, h => by
    unfold cS at h
    split at h <;> first | cases h | skip
    rw [Bool.and_eq_true] at h
    unfold wS
    exact ps_exprP (sE a X _ W _ x tk h.1) (swaps_no h.2)
  | .asg t a, X, W, st, x, po, tk, h => by
    unfold cS at h
    split at h <;> first | cases h | skip
    simp only [Bool.and_eq_true] at h
    unfold wS
    exact ps_asgP (sE a X _ W _ x tk h.1.2) (sG t X _ W _ x tk h.1.1) (g_noStar h.1.1) (plain_sole h.2) (plain_stores h.2)
  | .asgL i a, X, W, st, x, po, tk, h => by
    unfold cS at h
    split at h <;> first | cases h | skip
    split at h <;> first | cases h | skip
    rename_i y py e1 gs scope p sp _ elt tg it ifs own
    simp only [Bool.and_eq_true, decide_eq_true_eq, Bool.not_eq_true'] at h
    obtain ⟨⟨⟨⟨h1, h2⟩, h3⟩, h4⟩, h5⟩ := h
    unfold cE at h1
    split at h1 <;> first | cases h1 | skip
    rename_i e2 t1 i1 f1 scope2 p2 heq
    cases heq
    simp only [Bool.and_eq_true] at h1
    obtain ⟨⟨⟨⟨⟨⟨g1, g2⟩, g3⟩, g4⟩, g5⟩, g6⟩, g7⟩ := h1
    have hb := blkOk_by g3
    unfold wS wE
    refine imp_s (ps_setLc (g := lowG X.K X.w (fun _ _ _ _ => False) (slotsG tg) (wG o tg)) (tt := lowT X.K X.w (fun _ _ _ _ => False) (wTs o ifs)) (te := low X.K X.w (fun _ _ _ _ => False) (wE o elt)) x.calm (by rw [x.nm]; exact x.nd)
      (by rw [x.nm]; exact h2) h3 (sw_true x.kd h3 h4 h5) (sI it X _ W t1 _ x tk g1) (by rw [x.nm]; exact hb) (fun s H C cl fp => sG tg _ scope (fun _ _ _ _ => False) _ (blk_ok x hb.kind s H C cl fp) takes0 g4)
      (fun s H C cl fp => sTs ifs _ scope (fun _ _ _ _ => False) _ (blk_ok x hb.kind s H C cl fp) takes0 g5) (fun s H C cl fp => sE elt _ scope (fun _ _ _ _ => False) _ (blk_ok x hb.kind s H C cl fp) takes0 g6) (set_iter g2)) ?_
    rintro D σ H ⟨S, σ', G, D', s, q, b⟩
    refine low_lc (fun j hj => by simpa using List.all_eq_true.mp g7 j hj) σ H _ ⟨S, σ', G, D'.ex, fun v G1 => D'.nx (σ'.set i (some v)) G1, s, q, fun v u G1 H1 st a r q => ?_⟩
    exact b.nx _ _ _ _ st a ((s.sl.mono st.toStay).set i r) q
  | .par is xs, X, W, st, x, po, tk, h => by
    unfold cS at h
    split at h <;> first | cases h | skip
    rename_i ts k1 p1 es k2 p2 p3
    rw [Bool.and_eq_true] at h
    obtain ⟨hp, ha⟩ := h
    have hA := sA xs X _ W _ x tk ha
    unfold wS
    unfold parB at hp
    split at hp
    · rename_i i j y1 q1 y2 q2 a b
      simp only [Bool.and_eq_true, decide_eq_true_eq, Bool.not_eq_true'] at hp
      obtain ⟨⟨⟨⟨⟨⟨⟨⟨⟨⟨h1, h2⟩, h3⟩, h4⟩, h5⟩, h6⟩, h7⟩, h8⟩, h9⟩, ha1⟩, ha2⟩ := hp
      refine imp_s (ps_par x.calm (by rw [x.nm]; exact x.nd) (by rw [x.nm]; exact h1) (by rw [x.nm]; exact h2) h3 h4 h5 hA (par2 x.kd h4 h5 h6 h7 h8 h9 (by simp [ha1, ha2]))) ?_
      rintro D σ H ⟨S, σ', G, D', s, q, b⟩
      refine ⟨S, σ', G, D'.ex, _, s, q, fun xs vs G1 H1 st a r q => ?_⟩
      obtain ⟨ql, qn⟩ := q
      match xs, ql with
      | [u1, u2], _ =>
        obtain ⟨v1, r1, rfl, e1, v2, r2, rfl, e2, rfl⟩ := r
        exact ⟨v1, v2, rfl, b.nx _ _ _ _ st a (((s.sl.mono st.toStay).set i e1).set j e2) qn⟩
    · rename_i i j l y1 q1 y2 q2 y3 q3 a b c
      simp only [Bool.and_eq_true, decide_eq_true_eq, Bool.not_eq_true'] at hp
      obtain ⟨⟨⟨⟨⟨⟨⟨⟨⟨⟨⟨⟨⟨⟨⟨⟨h1, h2⟩, h2b⟩, h3⟩, h3b⟩, h3c⟩, h4⟩, h5⟩, h5b⟩, h6⟩, h6b⟩, h7⟩, h8⟩, h9⟩, ha1⟩, ha2⟩, ha3⟩ := hp
      refine imp_s (ps_par3 x.calm (by rw [x.nm]; exact x.nd) (by rw [x.nm]; exact h1) (by rw [x.nm]; exact h2) (by rw [x.nm]; exact h2b) h3 h3b h3c h4 h5 h5b hA (par3 x.kd h4 h5 h5b h6 h6b h7 h8 h9 (by simp [ha1, ha2, ha3]))) ?_
      rintro D σ H ⟨S, σ', G, D', s, q, b⟩
      refine ⟨S, σ', G, D'.ex, _, s, q, fun xs vs G1 H1 st a r q => ?_⟩
      obtain ⟨ql, qn⟩ := q
      match xs, ql with
      | [u1, u2, u3], _ =>
        obtain ⟨v1, r1, rfl, e1, v2, r2, rfl, e2, v3, r3, rfl, e3, rfl⟩ := r
        exact ⟨v1, v2, v3, rfl, b.nx _ _ _ _ st a ((((s.sl.mono st.toStay).set i e1).set j e2).set l e3) qn⟩
    · cases hp
  | .setf ob f a, X, W, st, x, po, tk, h => by
    unfold cS at h
    split at h <;> first | cases h | skip
    simp only [Bool.and_eq_true, decide_eq_true_eq] at h
    obtain ⟨⟨⟨rfl, h1⟩, h2⟩, h3⟩ := h
    unfold wS
    exact ps_setfP (fun c hc => x.nof c _ hc) (sE ob X _ W _ x tk h1) (sE a X _ W _ x tk h2) (swaps_no h3)
  | .mat a cs, X, W, st, x, po, tk, h => by
    unfold cS at h
    split at h <;> first | cases h | skip
    rw [Bool.and_eq_true] at h
    unfold wS
    refine imp_s (ps_mat (sE a X _ W _ x tk h.1) (sCs cs X W _ x po tk h.2)) ?_
    rintro D σ H ⟨S, σ', G, D', s, q, b⟩
    refine low_bind s q fun y v G1 H1 st s1 r1 t1 => ?_
    exact ⟨S, σ', G1, D', y, s1, r1, t1, b.next st⟩
  | .ret a, X, W, st, x, po, tk, h => by
    unfold cS at h
    split at h <;> first | cases h | skip
    unfold wS
    exact ps_retP (sE a X _ W _ x tk h)
  | .retN, X, W, st, x, po, tk, h => by
    unfold cS at h
    split at h <;> first | cases h | skip
    unfold wS
    refine imp_s ps_retN ?_
    rintro D σ H ⟨S, σ', G, D', s, q, b⟩
    exact b.rt .non .non _ _ Step.refl s.at_ rfl q
  | .ifs c a b, X, W, st, x, po, tk, h => by
    unfold cS at h
    split at h <;> first | cases h | skip
    simp only [Bool.and_eq_true] at h
    unfold wS
    exact ps_ifP (sT c X _ W _ x tk h.1.1) (sSs a X W _ x po tk h.1.2) (sSs b X W _ x po tk h.2)
  | .for_ t it b, X, W, st, x, po, tk, h => by
    unfold cS at h
    split at h <;> first | cases h | skip
    simp only [Bool.and_eq_true] at h
    unfold wS
    exact ps_forP po x.calm (sI it X _ W _ _ x tk h.1.1.2) (sG t X _ W _ x tk h.1.1.1) (sSs b X W _ x po tk h.2) (set_iter h.1.2)
  | .brk, X, W, st, x, po, tk, h => by
    unfold cS at h
    split at h <;> first | cases h | skip
    unfold wS
    refine imp_s ps_break ?_
    rintro D σ H ⟨S, σ', G, D', s, q, b⟩
    exact b.bk _ _ _ _ Step.refl s.at_ s.sl q
  | .cnt, X, W, st, x, po, tk, h => by
    unfold cS at h
    split at h <;> first | cases h | skip
    unfold wS
    refine imp_s ps_continue ?_
    rintro D σ H ⟨S, σ', G, D', s, q, b⟩
    exact b.ct _ _ _ _ Step.refl s.at_ s.sl q
  | .pass, X, W, st, x, po, tk, h => by
    unfold cS at h
    split at h <;> first | cases h | skip
    unfold wS
    refine imp_s ps_pass ?_
    rintro D σ H ⟨S, σ', G, D', s, q, b⟩
    exact b.nx _ _ _ _ Step.refl s.at_ s.sl q
  | .bad, X, W, st, x, po, tk, h => by
    unfold wS
    exact ps_badP
  | .whl c b, X, W, st, x, po, tk, h => by
    unfold cS at h
    split at h <;> first | cases h | skip
    rw [Bool.and_eq_true] at h
    unfold wS
    exact ps_whileP po (sT c X _ W _ x tk h.1) (sSs b X W _ x po tk h.2)
  | .tryN b, X, W, st, x, po, tk, h => by
    unfold cS at h
    split at h <;> first | cases h | skip
    unfold wS
    exact ps_tryNP (sSs b X.nox (fun _ _ _ _ => False) _ ⟨x.nm, x.nd, x.calm, x.good, x.bn, x.isi, x.rng, x.enu, x.zp, x.rvd, x.tys, x.gl, x.fn, x.nof, x.mt, x.ini, x.kd, x.tg⟩ PassesOwn.never takes0 h)
theorem sCs : ∀ (a : Cs) (X : Cx) (W : WX) (ms : List MatchCase), XOk o fs N k X.env.scope X → PassesOwn (model X.prog X.w) X.A X.env X.xe → Takes X W → cCs fs N X.env.scope a ms = true → PM X ms (lowM X.K X.w W (wCs o a))
  | .nil, X, W, ms, x, po, tk, h => by
    unfold cCs at h
    cases ms with
    | nil => unfold wCs; exact pm_nilP
    | cons e r => cases h
  | .str y b r, X, W, ms, x, po, tk, h => by
    unfold cCs at h
    split at h <;> first | cases h | skip
    simp only [Bool.and_eq_true, decide_eq_true_eq] at h
    obtain ⟨⟨rfl, h1⟩, h2⟩ := h
    unfold wCs
    exact pm_strP (by have := x.good.hu; omega) (sSs b X W _ x po tk h1) (sCs r X W _ x po tk h2)
  | .any b, X, W, ms, x, po, tk, h => by
    unfold cCs at h
    split at h <;> first | cases h | skip
    unfold wCs
    exact pm_anyP (sSs b X W _ x po tk h)
  | .pat p b r, X, W, ms, x, po, tk, h => by
    unfold cCs at h
    split at h <;> first | cases h | skip
    simp only [Bool.and_eq_true] at h
    unfold wCs
    exact pm_patP x.calm (by rw [x.nm]; exact x.nd) (by rw [x.nm]; exact h.1.1) (sSs b X W _ x po tk h.1.2) (sCs r X W _ x po tk h.2)
theorem sSs : ∀ (a : Ss) (X : Cx) (W : WX) (sts : List Stmt), XOk o fs N k X.env.scope X → PassesOwn (model X.prog X.w) X.A X.env X.xe → Takes X W → cSs fs N X.env.scope a sts = true → PSs X sts (lowS X.K X.w W (wSs o a))
  | .nil, X, W, sts, x, po, tk, h => by
    unfold cSs at h
    cases sts with
    | cons s r => cases h
    | nil => unfold wSs; exact pss_nilP
  | .cons s r, X, W, sts, x, po, tk, h => by
    unfold cSs at h
    split at h <;> first | cases h | skip
    rw [Bool.and_eq_true] at h
    unfold wSs
    exact pss_consP (sS s X W _ x po tk h.1) (sSs r X W _ x po tk h.2)
end
end
end Fv

set_option Elab.async false
set_option linter.all false
set_option maxRecDepth 100000
set_option maxHeartbeats 1000000
namespace Fv
open PySem L2
theorem forIn_yield {σ α : Type} (g : σ → α → σ) (ok : σ → List α → Prop) (body : α → σ → Sem (ForInStep σ)) (hb : ∀ x r st, ok st (x :: r) → body x st = pure (.yield (g st x)) ∧ ok (g st x) r) :
    ∀ (l : List α) (st : σ), ok st l → (forIn l st body : Sem σ) = pure (l.foldl g st)
  | [], st, _ => by rw [List.forIn_nil]; rfl
  | x :: r, st, h => by
    obtain ⟨h1, h2⟩ := hb x r st h
    rw [List.forIn_cons, h1]
    exact forIn_yield g ok body hb r (g st x) h2
theorem foldl_snoc {α β : Type} : ∀ (l : List α) (a : List α) (b : β), l.foldl (fun (st : List α × β) x => (st.1 ++ [x], st.2)) (a, b) = (a ++ l, b)
  | [], a, b => by simp
  | x :: l, a, b => by rw [List.foldl_cons, foldl_snoc l]; simp
/-- names that are not there yet are put behind -/
def putNew (st : List (Str × Value)) (q : Str × Value) : List (Str × Value) := if (st.lookup q.1).isNone = true then st ++ [q] else st
theorem lookup_app {α : Type} (n : Str) : ∀ (a b : List (Str × α)), (a ++ b).lookup n = ((a.lookup n).or (b.lookup n))
  | [], b => by simp
  | (m, v) :: a, b => by
    rw [List.cons_append, List.lookup_cons, List.lookup_cons]
    cases n == m with
    | true => rfl
    | false => exact lookup_app n a b
theorem lookup_putNew (n : Str) : ∀ (l st : List (Str × Value)), (l.foldl putNew st).lookup n = (st ++ l).lookup n
  | [], st => by simp
  | q :: l, st => by
    rw [List.foldl_cons, lookup_putNew n l, lookup_app, lookup_app, List.lookup_cons]
    unfold putNew
    split
    · rename_i h
      rw [lookup_app, List.lookup_cons]
      cases st.lookup n <;> cases hq : n == q.1 <;> simp
    · rename_i h
      cases e : st.lookup n with
      | some v => simp
      | none =>
        cases hq : n == q.1 with
        | false => simp
        | true =>
          have : n = q.1 := by simpa using hq
          rw [← this, e] at h
          simp at h
theorem lookup_none_of {α : Type} {n : Str} : ∀ {l : List (Str × α)}, n ∉ l.map (·.1) → l.lookup n = none
  | [], _ => rfl
  | (m, v) :: l, h => by
    rw [List.lookup_cons]
    have h1 : ¬ n = m := fun e => h (by simp [e])
    have h2 : n ∉ l.map (·.1) := fun e => h (by simp only [List.map_cons, List.mem_cons]; exact .inr e)
    have : (n == m) = false := by simpa using h1
    rw [this]
    exact lookup_none_of h2
section
variable {M : Model} {A : Around} {E : Value → Shared → Prop} {s : Shared} {fd : FuncData} {us : List Value} {kw : List (Str × Value)} {Q : List (Str × Value) → Shared → Prop}
theorem ko_run {kds : List (Str × Value)} (body : Str → List (Str × Value) × List Str → Sem (ForInStep (List (Str × Value) × List Str)))
    (hb : ∀ n st m, (st.lookup n).isNone = false → body n (st, m) = pure (.yield (st, m)))
    (hn : ∀ n st m (R : ForInStep (List (Str × Value) × List Str) → Shared → Prop), (st.lookup n).isNone = true → (∃ v, kds.lookup n = some v ∧ R (.yield (st ++ [(n, v)], m)) s) → wpAny M A (body n (st, m)) R E s) :
    ∀ (ko : List Str) (st : List (Str × Value)) (R : List (Str × Value) × List Str → Shared → Prop), (∀ n ∈ ko, (st.lookup n).isNone = true → ∃ v, kds.lookup n = some v) →
      R ((ko.filterMap fun n => (kds.lookup n).map (n, ·)).foldl putNew st, []) s → wpAny M A (forIn ko (st, []) body) R E s
  | [], st, R, _, h => by rw [List.forIn_nil]; exact wpAny_pure h
  | n :: ko, st, R, hk, h => by
    rw [List.forIn_cons]
    cases hz : (st.lookup n).isNone with
    | false =>
      rw [hb n st [] hz]
      refine wpAny_bind (wpAny_pure ?_)
      refine ko_run body hb hn ko st R (fun n hm => hk n (List.mem_cons_of_mem _ hm)) ?_
      rw [List.filterMap_cons] at h
      cases e : kds.lookup n with
      | none => rw [e] at h; exact h
      | some v =>
        rw [e] at h
        simp only [Option.map_some, List.foldl_cons] at h
        have : putNew st (n, v) = st := by unfold putNew; rw [if_neg (by rw [hz]; exact Bool.false_ne_true)]
        rw [this] at h
        exact h
    | true =>
      obtain ⟨v, e⟩ := hk n List.mem_cons_self hz
      refine wpAny_bind (hn n st [] _ hz ⟨v, e, ?_⟩)
      have e2 : putNew st (n, v) = st ++ [(n, v)] := by unfold putNew; rw [if_pos hz]
      rw [List.filterMap_cons, e] at h
      simp only [Option.map_some, List.foldl_cons, e2] at h
      refine ko_run body hb hn ko (st ++ [(n, v)]) R (fun m hm hz2 => hk m (List.mem_cons_of_mem _ hm) ?_) h
      rw [lookup_app] at hz2
      cases e3 : st.lookup m with
      | none => rfl
      | some w => rw [e3] at hz2; simp at hz2
theorem bind_run (pos ko : List Str) (hpo : fd.params.posonlyargs = []) (hkw : fd.params.kwarg = none) (epos : fd.params.args.map (·.arg) = pos) (eko : fd.params.kwonlyargs.map (·.arg) = ko)
    (c1 : ∀ q ∈ kw, q.1 ∈ pos ∨ q.1 ∈ ko) (c2 : (kw.map (·.1)).Nodup) (c3 : ∀ q ∈ kw, (pos.zip us).lookup q.1 = none) (c4 : us.length ≤ pos.length ∨ fd.params.vararg.isSome = true)
    (dopt : Option (Array Value)) (ds : List Value) (eds : (dopt.getD #[]).toList = ds) (hds : ds.length ≤ pos.length)
    (hD : ∀ {α : Type} (k : Option (Array Value) → Sem α) (Q : α → Shared → Prop), wpAny M A (k dopt) Q E s → wpAny M A (seqItems? fd.defaults >>= k) Q E s)
    (c5 : ∀ n ∈ pos.take (pos.length - ds.length), ((pos.zip us ++ kw).lookup n).isSome = true)
    (kds : List (Str × Value)) (hK : ∀ n ∈ ko, ((pos.zip us ++ kw ++ ((pos.drop (pos.length - ds.length)).zip ds)).lookup n).isNone = true → ∃ v, kds.lookup n = some v)
    (hK2 : ∀ n v, kds.lookup n = some v → ∃ d : Addr, fd.kwdefaults = .ref d ∧ ∀ (Q : Option Value → Shared → Prop), Q (some v) s → wpAny M A (nsGet d n) Q E s)
    (fin : ∀ binds, binds = ((pos ++ ko).filterMap fun n => ((pos.zip us ++ kw ++ ((pos.drop (pos.length - ds.length)).zip ds) ++ (ko.filterMap fun n => (kds.lookup n).map (n, ·))).lookup n).map (n, ·)) →
      match fd.params.vararg with
      | none => Q binds s
      | some a => wpAny M A (newTuple (us.drop pos.length)) (fun t s' => Q (binds ++ [(a.arg, t)]) s') E s) : wpAny M A (bindArgs fd ⟨us, kw⟩) Q E s := by
  have hkk : ∀ n ∈ ko, (((((pos.drop (pos.length - ds.length)).zip ds).foldl putNew (pos.zip us ++ kw)).lookup n).isNone = true) → ∃ v, kds.lookup n = some v := fun n hn hz => hK n hn (by rw [lookup_putNew] at hz; exact hz)
  unfold bindArgs
  simp only [hpo, hkw, epos, eko, List.map_nil, List.nil_append, Option.isSome_none, Bool.false_eq_true, if_false]
  rw [forIn_yield (g := fun (st : List (Str × Value) × List (Str × Value)) x => (st.1 ++ [x], st.2)) (ok := fun st r => (∀ q ∈ r, q.1 ∈ pos ∨ q.1 ∈ ko) ∧ (r.map (·.1)).Nodup ∧ ∀ q ∈ r, st.1.lookup q.1 = none)]
  · refine wpAny_bind (wpAny_pure ?_)
    refine hD _ _ ?_
    rw [foldl_snoc]
    simp only [eds]
    have e0 : ds.length - pos.length = 0 := by omega
    rw [e0, List.drop_zero]
    have e1 : (decide (us.length > pos.length) && fd.params.vararg.isNone) = false := by
      rcases c4 with h | h
      · have : decide (us.length > pos.length) = false := decide_eq_false (by omega)
        rw [this]; rfl
      · rw [show fd.params.vararg.isNone = false by cases e : fd.params.vararg with | none => rw [e] at h; cases h | some a => rfl, Bool.and_false]
    have e2 : (List.filter (fun n => (List.lookup n (pos.zip us ++ kw)).isNone) (List.take (pos.length - ds.length) pos)) = [] := by
      rw [List.filter_eq_nil_iff]
      intro n hn
      have := c5 n hn
      cases h : List.lookup n (pos.zip us ++ kw) with
      | none => rw [h] at this; cases this
      | some v => simp
    rw [e1, e2]
    simp only [Bool.false_eq_true, if_false, List.isEmpty_nil, Bool.not_true]
    rw [forIn_yield (g := putNew) (ok := fun _ _ => True)]
    · refine wpAny_bind (wpAny_pure ?_)
      refine wpAny_bind (ko_run (kds := kds) _ (fun n st m h => ?_) (fun n st m R h hv => ?_) ko _ _ hkk ?_)
      · simp only [h, Bool.false_eq_true, if_false]
      · obtain ⟨v, hv1, hv2⟩ := hv
        obtain ⟨d, h1, h2⟩ := hK2 n v hv1
        simp only [h, if_true, h1]
        exact wpAny_bind (h2 _ (wpAny_pure hv2))
      · simp only [List.isEmpty_nil, Bool.not_true, Bool.false_eq_true, if_false]
        have fe : ((pos ++ ko).filterMap fun n => (List.lookup n ((ko.filterMap fun n => (kds.lookup n).map (n, ·)).foldl putNew (((pos.drop (pos.length - ds.length)).zip ds).foldl putNew (pos.zip us ++ kw)))).map fun x => (n, x)) =
            ((pos ++ ko).filterMap fun n => ((pos.zip us ++ kw ++ ((pos.drop (pos.length - ds.length)).zip ds) ++ (ko.filterMap fun n => (kds.lookup n).map (n, ·))).lookup n).map (n, ·)) := by
          congr 1
          funext n
          rw [lookup_putNew, lookup_app, lookup_putNew, ← lookup_app]
        have f := fin _ fe
        cases hv : fd.params.vararg with
        | none =>
          rw [hv] at f
          exact wpAny_pure f
        | some a =>
          rw [hv] at f
          exact wpAny_bind (thn f fun t s' q => wpAny_pure q)
    · intro x r st _
      refine ⟨?_, trivial⟩
      unfold putNew
      split <;> rfl
    · trivial
  · rintro x r st ⟨h1, h2, h3⟩
    have hx : (pos.contains x.1 || ko.contains x.1) = true := by
      rcases h1 x List.mem_cons_self with h | h <;> simp [h]
    have hl : (List.lookup x.1 st.1).isSome = false := by rw [h3 x List.mem_cons_self]; rfl
    refine ⟨by simp only [hx, if_true, hl, Bool.false_eq_true, if_false], fun q hq => h1 q (List.mem_cons_of_mem _ hq), ?_, fun q hq => ?_⟩
    · rw [List.map_cons, List.nodup_cons] at h2
      exact h2.2
    · rw [List.map_cons, List.nodup_cons] at h2
      rw [lookup_app, h3 q (List.mem_cons_of_mem _ hq), List.lookup_cons]
      have hne : q.1 ≠ x.1 := fun e => h2.1 (by rw [← e]; exact List.mem_map_of_mem hq)
      have : (q.1 == x.1) = false := by simpa using hne
      rw [this]
      rfl
  · exact ⟨c1, c2, c3⟩
end
end Fv

set_option Elab.async false
set_option linter.all false
set_option maxRecDepth 100000
set_option maxHeartbeats 1000000
namespace Fv
open PySem L2
structure FDef where
  pos : List Str
  ko : List Str := []
  va : Option Str := none
  N : List Str
  body : Ss
  dfl : List PV := []
  kdf : List (Str × PV) := []
def FDef.ps (d : FDef) : List Str := d.pos ++ d.ko ++ d.va.toList
def tblG {α : Type} (pos ko : List Str) (dfl : List α) (kdf : List (Str × α)) (xs : List α) (kws : List (Str × α)) : List (Str × α) :=
  pos.zip xs ++ kws ++ (pos.drop (pos.length - dfl.length)).zip dfl ++ ko.filterMap fun n => (kdf.lookup n).map (n, ·)
def lookAll {α : Type} (tbl : List (Str × α)) : List Str → Option (List α)
  | [] => some []
  | n :: ns => match tbl.lookup n, lookAll tbl ns with
    | some v, some vs => some (v :: vs)
    | _, _ => none
def nodupB : List Str → Bool
  | [] => true
  | x :: xs => !xs.contains x && nodupB xs
def FDef.fits (d : FDef) (xs : List PV) (kws : List (Str × PV)) : Bool :=
  (kws.all fun q => (d.pos.contains q.1 || d.ko.contains q.1) && ((d.pos.zip xs).lookup q.1).isNone) && nodupB (kws.map (·.1)) && (decide (xs.length ≤ d.pos.length) || d.va.isSome) && decide (xs.length ≤ 1000) && decide (d.dfl.length ≤ d.pos.length)
    && ((d.pos.take (d.pos.length - d.dfl.length)).all fun n => ((d.pos.zip xs ++ kws).lookup n).isSome)
def FDef.args (d : FDef) (xs : List PV) (kws : List (Str × PV)) : Option (List PV) :=
  if d.fits xs kws = true then (lookAll (tblG d.pos d.ko d.dfl d.kdf xs kws) (d.pos ++ d.ko)).map fun vs => match d.va with
    | none => vs
    | some _ => vs ++ [.tup (xs.drop d.pos.length)]
  else none
def startP (N : List Str) (vs : List PV) : PSt := vs.map some ++ List.replicate (N.length - vs.length) none
/-- the end of a call: what is not wanted is forgotten -/
def endP (Q : VP) (P : PC) : PD := { nx := fun _ G1 => ∃ G2, Sub G2 G1 ∧ Q .non G2, rt := fun v G1 => ∃ G2, Sub G2 G1 ∧ Q v G2, bk := fun _ _ => False, ct := fun _ _ => False, ex := fun c fs _ G1 => ∃ G2, Sub G2 G1 ∧ P c fs G2 }
/-- what the defs do, calls nested at most so deep -/
def run (Γ : Str → Option FDef) (gl : Tab) : Nat → Orc
  | 0 => ⟨fun _ _ _ _ _ _ => False, gl⟩
  | k + 1 => ⟨fun f xs kws G Q P => match Γ f with
      | none => False
      | some d => match d.args xs kws with
        | none => False
        | some vs => wSs (run Γ gl k) d.body (endP Q P) (startP d.N vs) G, gl⟩
section
variable (K : PySem.W.Frag) (w : World)
def DflOk (dV : Value) (dfl : List PV) : Prop := (dfl = [] ∧ dV = .none) ∨ ∃ (T : Addr) (o : Obj) (its : List Value) (n : Nat) (vs : List V), dV = .ref T ∧ K.lookup T = some o ∧ o.data = .seq its.toArray n ∧ Vals vs its ∧ ∀ H, RepL K w H dfl vs
def KwdOk (kV : Value) (kdf : List (Str × PV)) : Prop := ∀ q ∈ kdf, ∃ (D : Addr) (u : Value) (v : V), kV = .ref D ∧ PySem.W.nsIn K D q.1 = some (some u) ∧ RelV v u ∧ ∀ H, RepV K w H q.2 v
/-- the def d stands at a -/
structure DefOk (fs : List Str) (d : FDef) (a : Addr) : Prop where
  ex : ∃ (oc dV kV doc pm cdv ct : Value) (od an : Option Addr) (osl : Array (Option Value)) (name qual : Str) (params : Arguments) (body : List Stmt) (scope : Scope),
    K.lookup a = some ⟨oc, od, .func (PySem.W.fnOf name qual params body scope dV kV doc pm an cdv ct), osl⟩ ∧ PySem.W.codeIn K cdv qual = true ∧ params.posonlyargs = [] ∧ params.kwarg = none ∧ params.args.map (·.arg) = d.pos ∧ params.kwonlyargs.map (·.arg) = d.ko ∧
      params.vararg.map (·.arg) = d.va ∧ FnScope d.N d.ps scope ∧ cSs fs d.N scope d.body body = true ∧ DflOk K w dV d.dfl ∧ KwdOk K w kV d.kdf
  kp : PySem.W.keepIn K (.ref a) = true
structure ModOk (fs : List Str) (Γ : Str → Option FDef) (tb : Tab) (mg : Str → Option Value) : Prop where
  bn : ∀ b : Bn, mg b.name = none
  isi : mg "isinstance" = none
  rng : mg "range" = none
  enu : mg "enumerate" = none
  zp : mg "zip" = none
  rvd : mg "reversed" = none
  tys : ∀ q ∈ isiTys, mg q.2 = none
  gl : ∀ x v, tb.gl x = some v → ∃ u vv, mg x = some u ∧ RelV vv u ∧ ∀ H, RepV K w H v vv
  fn : ∀ f ∈ fs, ∃ d a, Γ f = some d ∧ mg f = some (.ref a) ∧ DefOk K w fs d a
  nof : ∀ c f, tb.nof c f = true → ∃ C, KCls K c C ∧ Cls K C ∧ NoAttr K C f
  mt : ∀ c m q, tb.mt c m = some q → ∃ d C f, Γ q = some d ∧ KCls K c C ∧ Cls K C ∧ Meth K C m f ∧ DefOk K w fs d f
  ini : ∀ c q, tb.ini c = some q → ∃ d C f, Γ q = some d ∧ KCls K c C ∧ mg c = some (.ref C) ∧ Mk K C f ∧ DefOk K w fs d f
end
/-- a value of the text's and one of ours -/
def RU (K : PySem.W.Frag) (w : World) (H : Hp) (x : PV) (u : Value) : Prop := ∃ v, RepV K w H x v ∧ RelV v u
def RUs (K : PySem.W.Frag) (w : World) (H : Hp) : List (Str × PV) → List (Str × Value) → Prop := Paired fun p q => p.1 = q.1 ∧ RU K w H p.2 q.2
section
variable {K : PySem.W.Frag} {w : World} {H : Hp}
theorem RUs.lookup {l : List (Str × PV)} {m : List (Str × Value)} (r : RUs K w H l m) (n : Str) : (l.lookup n = none ∧ m.lookup n = none) ∨ ∃ x u, l.lookup n = some x ∧ m.lookup n = some u ∧ RU K w H x u := by
  induction r with
  | nil => exact .inl ⟨rfl, rfl⟩
  | cons r t ih =>
    rename_i p q l m
    rw [show l = l from rfl]
    obtain ⟨a, x⟩ := p
    obtain ⟨b, u⟩ := q
    obtain ⟨e, ru⟩ := r
    simp only at e
    subst e
    rw [List.lookup_cons, List.lookup_cons]
    cases n == a with
    | true => exact .inr ⟨x, u, rfl, rfl, ru⟩
    | false => exact ih
theorem RUs.app : ∀ {l : List (Str × PV)} {m : List (Str × Value)} {l2 : List (Str × PV)} {m2 : List (Str × Value)}, RUs K w H l m → RUs K w H l2 m2 → RUs K w H (l ++ l2) (m ++ m2)
  | _, _, _, _, .nil, s => s
  | _, _, _, _, .cons r t, s => .cons r (RUs.app t s)
theorem ru_zip : ∀ (ns : List Str) {xs : List PV} {vs : List V} {us : List Value}, RepL K w H xs vs → Vals vs us → RUs K w H (ns.zip xs) (ns.zip us)
  | [], _, _, _, _, _ => by simp [RUs]; exact .nil
  | n :: ns, [], _, _, l, r => by cases l; cases r; simp [RUs]; exact .nil
  | n :: ns, x :: xs, _, _, ⟨v, t, rfl, a, b⟩, .cons r q => .cons ⟨rfl, v, a, r⟩ (ru_zip ns b q)
theorem ru_kw {kws : List (Str × PV)} {kvs : List (Str × V)} (l : RepF K w H kws kvs) : ∀ {kw : List (Str × Value)}, KwV kvs kw → RUs K w H kws kw := by
  induction l with
  | nil => intro kw r; cases r; exact .nil
  | cons h t ih =>
    intro kw r
    cases r with
    | cons r1 r2 => exact .cons ⟨h.1.trans r1.1, _, h.2, r1.2⟩ (ih r2)
theorem ru_keys {l : List (Str × PV)} {m : List (Str × Value)} (r : RUs K w H l m) : l.map (·.1) = m.map (·.1) := by
  induction r with
  | nil => rfl
  | cons r t ih => rw [List.map_cons, List.map_cons, r.1, ih]
theorem ru_filter {kdf : List (Str × PV)} {kds : List (Str × Value)} (r : RUs K w H kdf kds) : ∀ ko : List Str, RUs K w H (ko.filterMap fun n => (kdf.lookup n).map (n, ·)) (ko.filterMap fun n => (kds.lookup n).map (n, ·))
  | [] => .nil
  | n :: ko => by
    rw [List.filterMap_cons, List.filterMap_cons]
    rcases r.lookup n with ⟨e1, e2⟩ | ⟨x, u, e1, e2, ru⟩
    · rw [e1, e2]; exact ru_filter r ko
    · rw [e1, e2]; exact .cons ⟨rfl, ru⟩ (ru_filter r ko)
theorem look_all {l : List (Str × PV)} {m : List (Str × Value)} (r : RUs K w H l m) : ∀ (ns : List Str) {ws : List PV}, lookAll l ns = some ws →
    ∃ (vs : List V) (us : List Value), RepL K w H ws vs ∧ Vals vs us ∧ vs.length = ns.length ∧ (ns.filterMap fun n => (m.lookup n).map (n, ·)) = ns.zip us
  | [], ws, e => by cases e; exact ⟨[], [], rfl, .nil, rfl, rfl⟩
  | n :: ns, ws, e => by
    unfold lookAll at e
    split at e <;> first | cases e | skip
    rename_i v vs e1 e2
    obtain ⟨vV, vU, r1, r2, r3, r4⟩ := look_all r ns e2
    rcases r.lookup n with ⟨h1, _⟩ | ⟨x, u, h1, h2, y, ry1, ry2⟩
    · rw [h1] at e1; cases e1
    · rw [h1] at e1
      cases e1
      refine ⟨y :: vV, u :: vU, ⟨y, vV, rfl, ry1, r1⟩, .cons ry2 r2, by simp [r3], ?_⟩
      rw [List.filterMap_cons, h2]
      show (n, u) :: _ = _
      rw [r4]
      rfl
theorem nodup_of : ∀ {l : List Str}, nodupB l = true → l.Nodup
  | [], _ => List.nodup_nil
  | x :: xs, h => by
    unfold nodupB at h
    rw [Bool.and_eq_true] at h
    rw [List.nodup_cons]
    exact ⟨by simpa using h.1, nodup_of h.2⟩
theorem start_rep {N : List Str} {ws : List PV} {vs : List V} (l : RepL K w H ws vs) : RepS K w H (startP N ws) (L2.start N vs) := by
  have hl := l.length
  refine ⟨by simp [startP, L2.start, hl], fun i x e => ?_⟩
  unfold startP at e
  unfold L2.start
  by_cases hi : i < ws.length
  · rw [List.getElem?_append_left (by simpa using hi), List.getElem?_map] at e
    cases e2 : ws[i]? with
    | none => rw [e2] at e; cases e
    | some y =>
      rw [e2] at e
      cases e
      obtain ⟨v, h1, h2⟩ := l.get e2
      exact ⟨v, by rw [List.getElem?_append_left (by simp; omega), List.getElem?_map, h1]; rfl, h2⟩
  · rw [List.getElem?_append_right (by simp; omega), List.getElem?_replicate] at e
    split at e <;> cases e
end
end Fv

set_option Elab.async false
set_option linter.all false
set_option maxRecDepth 100000
set_option maxHeartbeats 2000000
namespace Fv
open PySem L2
theorem kwd_list {K : PySem.W.Frag} {w : World} {kV : Value} : ∀ {kdf : List (Str × PV)}, KwdOk K w kV kdf → ∃ kds : List (Str × Value), (∀ H, RUs K w H kdf kds) ∧ ∀ n v, kds.lookup n = some v → ∃ D : Addr, kV = .ref D ∧ PySem.W.nsIn K D n = some (some v)
  | [], _ => ⟨[], fun _ => .nil, fun _ _ h => by simp at h⟩
  | q :: kdf, h => by
    obtain ⟨kds, h1, h2⟩ := kwd_list (kdf := kdf) fun p hp => h p (List.mem_cons_of_mem _ hp)
    obtain ⟨D, u, v, e1, e2, r1, r2⟩ := h q List.mem_cons_self
    refine ⟨(q.1, u) :: kds, fun H => .cons ⟨rfl, v, r2 H, r1⟩ (h1 H), fun n x hx => ?_⟩
    rw [List.lookup_cons] at hx
    cases hn : n == q.1 with
    | true =>
      rw [hn] at hx
      cases hx
      have : n = q.1 := by simpa using hn
      rw [this]
      exact ⟨D, e1, e2⟩
    | false => rw [hn] at hx; exact h2 n x hx
theorem zip_none {K : PySem.W.Frag} {w : World} {H : Hp} {l : List (Str × PV)} {m : List (Str × Value)} (r : RUs K w H l m) {n : Str} : (l.lookup n).isNone = (m.lookup n).isNone := by
  rcases r.lookup n with ⟨e1, e2⟩ | ⟨x, u, e1, e2, _⟩ <;> rw [e1, e2] <;> rfl
theorem look_mem {α : Type} {l : List (Str × α)} : ∀ {ns : List Str} {ws : List α} {n : Str}, lookAll l ns = some ws → n ∈ ns → ∃ v, l.lookup n = some v
  | m :: ns, ws, n, e, h => by
    unfold lookAll at e
    split at e <;> first | cases e | skip
    rename_i v vs e1 e2
    rcases List.mem_cons.mp h with rfl | h
    · exact ⟨v, e1⟩
    · exact look_mem e2 h
theorem filter_lookup {α : Type} {kdf : List (Str × α)} {n : Str} {v : α} : ∀ {ko : List Str}, (ko.filterMap fun n => (kdf.lookup n).map (n, ·)).lookup n = some v → kdf.lookup n = some v
  | [], h => by simp at h
  | m :: ko, h => by
    rw [List.filterMap_cons] at h
    cases e : kdf.lookup m with
    | none => rw [e] at h; exact filter_lookup h
    | some x =>
      rw [e] at h
      simp only [Option.map_some] at h
      rw [List.lookup_cons] at h
      cases hn : n == m with
      | true => rw [hn] at h; cases h; have : n = m := by simpa using hn
                rw [this]; exact e
      | false => rw [hn] at h; exact filter_lookup h
section
variable {P : Program} {w : World} {K : PySem.W.Frag} {mg : Str → Option Value} {base : Heap} {fs : List Str} {Γ : Str → Option FDef} {gl : Tab}
theorem run_gl : ∀ k, (run Γ gl k).tb = gl
  | 0 => rfl
  | _ + 1 => rfl
theorem fnP_step (m : ModOk K w fs Γ gl mg) (k : Nat) (ih : ∀ f d a, Γ f = some d → DefOk K w fs d a → FnP P w K mg base k a ((run Γ gl k).fn f)) (f : Str) (d : FDef) (a : Addr) (hd : Γ f = some d) (D : DefOk K w fs d a) :
    FnP P w K mg base (k + 1) a ((run Γ gl (k + 1)).fn f) := by
  obtain ⟨oc, dV, kV, doc, pm, cdv, ct, od, an, osl, name, qual, params, body, scope, lk, hcd, p1, p2, p3, p4, p5, sc, hc, dD, dK⟩ := D.ex
  intro A outer s H us kw vs kvs Q E g e0 rv rk ⟨S, G, xs, kws, Q', P', at_, rl, rf, hsp, bk, bx⟩
  unfold run at hsp
  dsimp only at hsp
  rw [hd] at hsp
  dsimp only at hsp
  split at hsp <;> first | exact hsp.elim | skip
  rename_i ws0 hws
  unfold FDef.args at hws
  split at hws <;> first | cases hws | skip
  rename_i hfit
  cases hlk : lookAll (tblG d.pos d.ko d.dfl d.kdf xs kws) (d.pos ++ d.ko) with
  | none => rw [hlk] at hws; cases hws
  | some ws =>
  rw [hlk] at hws
  simp only [Option.map_some, Option.some.injEq] at hws
  unfold FDef.fits at hfit
  simp only [Bool.and_eq_true, List.all_eq_true, Bool.or_eq_true, decide_eq_true_eq] at hfit
  obtain ⟨⟨⟨⟨⟨f1, f2⟩, f3⟩, f4⟩, f5⟩, f6⟩ := hfit
  have KX : K.In s.heap := e0.mod.kin.keeps fun b o e => (e0.bs b o e).1
  obtain ⟨kds, hkd, hkn⟩ := kwd_list dK
  obtain ⟨dopt, ds, dvs, e1, rd, rdl, hD⟩ : ∃ (dopt : Option (Array Value)) (ds : List Value) (dvs : List V), (dopt.getD #[]).toList = ds ∧ Vals dvs ds ∧ (∀ H, RepL K w H d.dfl dvs) ∧ ∀ {M : Model} {A' : Around} {Ex : Value → Shared → Prop} {α : Type} (kk : Option (Array Value) → Sem α) (R : α → Shared → Prop), wpAny M A' (kk dopt) R Ex s → wpAny M A' (seqItems? dV >>= kk) R Ex s := by
    rcases dD with ⟨h1, h2⟩ | ⟨T, o, its, n, dvs, h1, h2, h3, h4, h5⟩
    · subst h2
      refine ⟨none, [], [], rfl, .nil, fun H => by rw [h1]; rfl, fun kk R q => wpAny_bind (wpAny_pure q)⟩
    · subst h1
      exact ⟨some its.toArray, its, dvs, by simp, h4, h5, fun kk R q => wpAny_bind (wpAny_seqItems (KX _ _ h2) h3 q)⟩
  have hdl : d.dfl.length = ds.length := (rdl H).length.trans rd.length
  have rz : RUs K w H (d.pos.zip xs) (d.pos.zip us) := ru_zip _ rl rv
  have rw0 : RUs K w H kws kw := ru_kw rf rk
  have rt0 : RUs K w H (d.pos.zip xs ++ kws) (d.pos.zip us ++ kw) := rz.app rw0
  have rt1 : RUs K w H (d.pos.zip xs ++ kws ++ (d.pos.drop (d.pos.length - d.dfl.length)).zip d.dfl) (d.pos.zip us ++ kw ++ (d.pos.drop (d.pos.length - ds.length)).zip ds) := by
    rw [hdl]; exact rt0.app (ru_zip _ (rdl H) rd)
  have rt : RUs K w H (tblG d.pos d.ko d.dfl d.kdf xs kws) (d.pos.zip us ++ kw ++ (d.pos.drop (d.pos.length - ds.length)).zip ds ++ d.ko.filterMap fun n => (kds.lookup n).map (n, ·)) := rt1.app (ru_filter (hkd H) d.ko)
  obtain ⟨wV, wU, q1, q2, q3, q4⟩ := look_all rt _ hlk
  refine StX.run_bnd lk hcd sc (k := 2 * k + 1) g.room e0 (G := fun vsV H2 => ∃ stp : Step S H H2, At K w S G H2 ∧ RepL K w H2 ws0 vsV) (fun A' Ex Q2 hQ => ?_) fun s2 H2 vsV ⟨stp, at2, rp2⟩ hr' => ?_
  · refine bind_run d.pos d.ko p1 p2 p3 p4 (fun q hq => ?_) ?_ (fun q hq => ?_) ?_ dopt ds e1 (by rw [← hdl]; exact f5) hD (fun n hn => ?_) kds (fun n hn hz => ?_) (fun n v hv => ?_) fun binds hb => ?_
    · have : q.1 ∈ kws.map (·.1) := by rw [ru_keys rw0]; exact List.mem_map_of_mem hq
      obtain ⟨p, hp, e⟩ := List.mem_map.mp this
      have := (f1 p hp).1
      rw [e] at this
      simpa using this
    · rw [← ru_keys rw0]; exact nodup_of f2
    · have : q.1 ∈ kws.map (·.1) := by rw [ru_keys rw0]; exact List.mem_map_of_mem hq
      obtain ⟨p, hp, e⟩ := List.mem_map.mp this
      have := (f1 p hp).2
      rw [e, zip_none rz] at this
      simpa using this
    · rcases f3 with f3 | f3
      · left; rw [← rv.length, ← rl.length]; exact f3
      · right
        show params.vararg.isSome = true
        rw [← p5] at f3
        simpa using f3
    · rw [← hdl] at hn
      have := f6 n hn
      rcases rt0.lookup n with ⟨e1, e2⟩ | ⟨x, u, e1, e2, _⟩
      · rw [e1] at this; cases this
      · rw [e2]; rfl
    · obtain ⟨v, hv⟩ := look_mem hlk (List.mem_append_right _ hn)
      rw [← zip_none rt1] at hz
      unfold tblG at hv
      rw [lookup_app] at hv
      cases e3 : List.lookup n (d.pos.zip xs ++ kws ++ (d.pos.drop (d.pos.length - d.dfl.length)).zip d.dfl) with
      | some x => rw [e3] at hz; cases hz
      | none =>
        rw [e3, Option.none_or] at hv
        have hv2 := filter_lookup hv
        rcases (hkd H).lookup n with ⟨e4, _⟩ | ⟨x, u, _, e5, _⟩
        · rw [e4] at hv2; cases hv2
        · exact ⟨u, e5⟩
    · obtain ⟨D0, h1, h2⟩ := hkn n v hv
      exact ⟨D0, h1, fun R q => (PySem.W.looks_nsIn KX h2).here q⟩
    · rw [q4] at hb
      cases hva : params.vararg with
      | none =>
        have hdva : d.va = none := by rw [← p5, hva]; rfl
        rw [hdva] at hws
        show Q2 binds s
        rw [hb]
        have hps : d.ps = d.pos ++ d.ko := by unfold FDef.ps; rw [hdva]; simp
        rw [← hps]
        refine hQ s H wV wU e0 Un.refl rfl (fun _ _ z => z) q2 (by rw [q3, hps]) ⟨Step.refl, at_, ?_⟩
        rw [← hws]; exact q1
      | some ag =>
        have hdva : d.va = some ag.arg := by rw [← p5, hva]; rfl
        rw [hdva] at hws
        show wpAny _ _ (newTuple (us.drop d.pos.length)) _ _ s
        have hn : H s.heap.objs.size = none := e0.hok.fresh (Nat.le_refl _)
        have hul : us.length ≤ 1000 := by rw [← rv.length, ← rl.length]; exact f4
        have hsl : (us.drop d.pos.length).length ≤ sizeLine := by
          rw [List.length_drop]
          exact Nat.le_trans (by omega : us.length - d.pos.length ≤ 1000) (by decide)
        refine wpAny_newTuple ?_ hsl
        have rdrop := rv.drop d.pos.length
        have new : ObjOk P w (upd H s.heap.objs.size (.tup (vs.drop d.pos.length))) (s.heap.push ({ cls := .type "tuple", data := .seq (us.drop d.pos.length).toArray } : Obj)) s.heap.objs.size (.tup (vs.drop d.pos.length)) :=
          ⟨by rw [rdrop.length]; exact hsl, us.drop d.pos.length, rdrop, ⟨_, Heap.get?_push_size _ rfl, rfl, _, rfl⟩⟩
        have un := StX.un_laid (fs := frs outer) (s := s) (o := ({ cls := .type "tuple", data := .seq (us.drop d.pos.length).toArray } : Obj)) (u := .tup (vs.drop d.pos.length)) hn
        have hps : d.ps = (d.pos ++ d.ko) ++ [ag.arg] := by unfold FDef.ps; rw [hdva]; rfl
        have stp : Step S H (upd H s.heap.objs.size (.tup (vs.drop d.pos.length))) := at_.step_new hn
        have z := hQ _ _ (wV ++ [V.ref s.heap.objs.size]) (wU ++ [Value.ref s.heap.objs.size]) (StX.env0_laid e0 new) un rfl (fun e s' => StX.cxUp outer s H _ _ E e s' un (fun b o q => Heap.get?_push_of_some _ q) rfl) (q2.append (.cons rfl .nil))
          (by rw [List.length_append, hps, List.length_append, q3] <;> rfl) ⟨stp, at_.silent hn, by
            rw [← hws]
            refine (q1.mono stp.toStay).app (RepL.one ⟨_, vs.drop d.pos.length, rfl, SqT.of upd_same, (rl.drop _).mono stp.toStay⟩)⟩
        rw [hps, List.zip_append (by rw [← q2.length, q3])] at z
        rw [hb]
        exact z
  · have gX : GoodB k (A.deeper (PyProof.Rows.envOfC qual scope s2.heap.objs.size a cdv)) := ⟨hr', g.gd⟩
    have xo : XOk (run Γ gl k) fs d.N k scope (cxOf (L2.CX P w) P w K mg base d.N qual scope a cdv A outer s2 H2 E) :=
      ⟨rfl, sc.nd, rfl, gX, m.bn, m.isi, m.rng, m.enu, m.zp, m.rvd, m.tys, fun x v h => m.gl x v (by rw [run_gl] at h; exact h), fun f hf => by
        obtain ⟨d, a, h1, h2, D⟩ := m.fn f hf
        exact ⟨a, h2, D.kp, ih f d a h1 D⟩, fun c f h => m.nof c f (by rw [run_gl] at h; exact h), fun c x q h => by
        rw [run_gl] at h
        obtain ⟨d, C, f, h1, h2, h3, h4, D⟩ := m.mt c x q h
        exact ⟨C, f, h2, h3, h4, ih q d f h1 D⟩, fun c q h => by
        rw [run_gl] at h
        obtain ⟨d, C, f, h1, h2, h3, h4, D⟩ := m.ini c q h
        exact ⟨C, f, h2, h3, h4, ih q d f h1 D⟩, sc.kind, fun x h => ⟨by
        unfold locB at h
        split at h <;> first | cases h | skip
        · exact .inl ‹_›
        · exact .inr ‹_›, .inl rfl⟩⟩
    have tk : Takes (cxOf (L2.CX P w) P w K mg base d.N qual scope a cdv A outer s2 H2 E) (fun cls d _ H => E cls d H) := takes_of rfl rfl rfl rfl
    refine ⟨_, sSs d.body _ _ body xo (passes_of rfl) tk hc, ?_⟩
    refine ⟨S, startP d.N ws0, G, endP Q' P', ⟨at2, start_rep rp2, fun cls fs d τ' τ G1 H1 st1 a1 _ x1 ⟨G2, sb, q⟩ => bx cls fs d G2 H1 (stp.trans st1) (a1.sub sb) x1 q⟩, hsp, ⟨?_, ?_, fun _ _ _ _ _ _ _ z => z.elim, fun _ _ _ _ _ _ _ z => z.elim⟩⟩
    · rintro τ' τ G1 H1 st1 a1 _ ⟨G2, sb, q⟩
      exact bk .non .non G2 H1 (stp.trans st1) (a1.sub sb) rfl q
    · rintro x v G1 H1 st1 a1 r1 ⟨G2, sb, q⟩
      exact bk x v G2 H1 (stp.trans st1) (a1.sub sb) r1 q
theorem fnP_at (m : ModOk K w fs Γ gl mg) : ∀ (k : Nat) (f : Str) (d : FDef) (a : Addr), Γ f = some d → DefOk K w fs d a → FnP P w K mg base k a ((run Γ gl k).fn f)
  | 0, f, d, a, hd, D => by
    intro A outer s H us kw vs kvs Q E g e0 rv rk ⟨S, G, xs, kws, Q', P', at_, rl, rf, hsp, bk, bx⟩
    exact hsp.elim
  | k + 1, f, d, a, hd, D => fnP_step m k (fun f d a hd D => fnP_at m k f d a hd D) f d a hd D
theorem fnP_all (m : ModOk K w fs Γ gl mg) (k : Nat) (f : Str) (hf : f ∈ fs) : ∃ a, mg f = some (.ref a) ∧ PySem.W.keepIn K (.ref a) = true ∧ FnP P w K mg base k a ((run Γ gl k).fn f) := by
  obtain ⟨d, a, hd, hmg, D⟩ := m.fn f hf
  exact ⟨a, hmg, D.kp, fnP_at m k f d a hd D⟩
end
end Fv

set_option Elab.async false
set_option linter.all false
set_option maxRecDepth 100000
set_option maxHeartbeats 2000000
namespace Fv
open PySem PySem.Spec PyProof.Rows L2
theorem ints_rep {K : PySem.W.Frag} {w : World} {H : Hp} : ∀ ns : List Int, RepL K w H (ns.map PV.int) (ns.map V.int)
  | [] => rfl
  | n :: ns => ⟨.int n, _, rfl, rfl, ints_rep ns⟩
/-- what is tracked at the law's call: the script, where it is not the text's own -/
def hp0 (K : PySem.W.Frag) (a : Addr) (vs : List Value) (ns : List Int) : Hp := fun b => if b = a ∧ K.lookup a = none then some (.frz ⟨.type "list", none, .seq vs.toArray 0, #[]⟩ (.lst (ns.map V.int))) else none
theorem hp0_some {K : PySem.W.Frag} {a b : Addr} {vs : List Value} {ns : List Int} {o : HO} (h : hp0 K a vs ns b = some o) : b = a ∧ K.lookup a = none ∧ o = .frz ⟨.type "list", none, .seq vs.toArray 0, #[]⟩ (.lst (ns.map V.int)) := by
  unfold hp0 at h
  split at h
  · rename_i e
    exact ⟨e.1, e.2, (Option.some.inj h).symm⟩
  · cases h
theorem law_run {P : Program} {w : World} {K : PySem.W.Frag} {mg mb : Str → Option Value} {k : Nat} {fa a : Addr} {sp : List PV → List (Str × PV) → PH → VP → PC → Prop} {s1 : Shared} {vs : List Value} {ns : List Int}
    (KX : K.In s1.heap) (gn : s1.heap.Ns mainGlobals mg) (bn : s1.heap.Ns builtinsNs mb) (bb : ∀ x : Str, x ≠ "__name__" → mb x = bootBuiltins x) (lim : s1.heap.NoLimit) (ng : s1.gens = #[])
    (sc : s1.heap.get? a = some { cls := .type "list", data := .seq vs.toArray }) (hi : IntsAre vs ns) (hl : ns.length ≤ sizeLine) (hr : Room (2 * k) callerA)
    (F : ∀ base : Heap, K.In base → base.Ns mainGlobals mg → FnP P w K mg base k fa sp)
    (hsp : sp [.wl (ns.map .int)] [] (fun _ => none) (fun v _ => v = .bl true) fun _ _ _ => False) :
    codeAny (model P w) callerA (.call (.ref fa) ⟨[.ref a], []⟩) (fun r s' => r = .ok (.ret (.bool true)) ∧ OldK s1.heap s'.heap ∧ s'.os = s1.os ∧ AllBare s'.gens) s1 := by
  have rv := vals_ints hi
  have lv := hi.length
  have free : ∀ {b : Addr} {o : Obj}, s1.heap.get? b = some o → (b = a → K.lookup a ≠ none) → hp0 K a vs ns b = none := fun {b o} e h => by
    unfold hp0
    rw [if_neg fun z => h z.1 z.2]
  have up : ∀ {b : Addr} {o : Obj}, s1.heap.get? b = some o → hp0 K a vs ns b = none → (hidT s1.heap (hp0 K a vs ns)).get? b = some o := fun e n => hidT_get e n
  have dictFree : ∀ {b : Addr} {m : Str → Option Value}, s1.heap.Ns b m → (hidT s1.heap (hp0 K a vs ns)).Ns b m := by
    rintro b m ⟨o, es, ep, e, d, r⟩
    refine ⟨o, es, ep, up e (free e ?_), d, r⟩
    rintro rfl
    rw [sc] at e
    cases e
    cases d
  have kb : K.In (hidT s1.heap (hp0 K a vs ns)) := fun b o e => up (KX b o e) (free (KX b o e) (by rintro rfl; rw [e]; simp))
  have hM : Mod K mg (hidT s1.heap (hp0 K a vs ns)) := ⟨kb, dictFree gn, ⟨mb, dictFree bn, bb⟩, by obtain ⟨mc, h1, h2⟩ := lim; exact ⟨mc, dictFree h1, h2⟩⟩
  have hok : HOk P w (hp0 K a vs ns) s1.heap := fun b o e => by
    obtain ⟨rfl, _, rfl⟩ := hp0_some e
    exact ⟨sc, by rw [List.length_map]; exact hl, vs, _, rv, sc⟩
  have e0 : Env0 P w K mg (hidT s1.heap (hp0 K a vs ns)) callerA [] s1 (hp0 K a vs ns) :=
    ⟨rfl, hM, fun b o e => of_hidT e, Nat.le_of_eq (hidT_size _ _), trivial, (fun b z => by cases z), hok, .of_eq ng⟩
  have fz : FzL K (hp0 K a vs ns) a (ns.map V.int) := by
    cases hk : K.lookup a with
    | none => exact .inl ⟨_, by unfold hp0; rw [if_pos ⟨rfl, hk⟩]⟩
    | some o =>
      have e := KX a o hk
      rw [sc] at e
      cases e
      exact .inr ⟨_, vs.toArray, _, hk, rfl, rfl, rfl, by rw [List.size_toArray, lv]; exact hl, by simpa using rv⟩
  have at0 : At K w (fun _ => False) (fun _ => none) (hp0 K a vs ns) := ⟨fun _ z => z.elim, fun _ _ z => by cases z⟩
  refine codeAny_mono (F _ kb (dictFree gn) callerA [] s1 (hp0 K a vs ns) [.ref a] [] [.ref a] [] (fun v _ => v = .bl true) (fun _ _ _ => False) ⟨hr, rfl⟩ e0 (.cons rfl .nil) .nil
    ⟨_, _, [.wl (ns.map .int)], [], _, _, at0, RepL.one ⟨a, ns.map V.int, rfl, fz, ints_rep ns⟩, .nil, hsp, fun x v G1 H1 _ _ r q => by subst q; exact r, fun _ _ _ _ _ _ _ _ z => z⟩) fun r s' h => ?_
  cases r with
  | error e =>
    obtain ⟨_, _, _, _, _, _, _, _, _, _, _, _, z⟩ := h
    exact z.elim
  | ok fl =>
    cases fl with
    | next => exact False.elim h
    | brk => exact False.elim h
    | cont => exact False.elim h
    | ret u =>
      obtain ⟨v, H', os, bare, un, hok', r', rfl⟩ := h
      obtain rfl : u = Value.bool true := r'
      refine ⟨rfl, OldK.of_keep fun b o e => ?_, os, bare⟩
      cases q : hp0 K a vs ns b with
      | none => exact un.keep b o e q (by intro z; cases z) (by intro z; cases z)
      | some u =>
        obtain ⟨rfl, _, rfl⟩ := hp0_some q
        have q2 := hok' b _ (un.frzs b _ _ q)
        rw [sc] at e
        cases e
        exact q2.1
/-- the goal that the head leaves, from the reading of the law's def -/
theorem walk_fv {l : PySem.W.OpenLaw} {q : Program} {loose : List Str} {XP : (Str → Option Value) → Heap → Prop} {YP : World → Heap → Prop} {d : DefRec} {K : Params → PySem.W.Frag} {fs : List Str} {Γ : Str → Option FDef} {gl : Tab} {k : Nat}
    (hn : l.most = some 63) (hdf : d.params.defaults = []) (hr : Room (2 * k) callerA) (hf : d.name ∈ fs)
    (hY : ∀ (w : World) (h : Heap), YP w h → (K w.params).In h)
    (M : ∀ (w : World) (mg : Str → Option Value) (h : Heap), (K w.params).In h → h.Ns mainGlobals mg → ModOk (K w.params) w fs Γ gl mg)
    (hsp : ∀ ns : List Int, ns.length ≤ 63 → (run Γ gl k).fn d.name [.wl (ns.map .int)] [] (fun _ => none) (fun v _ => v = .bl true) fun _ _ _ => False) :
    PySem.W.WalkO q loose XP YP l.row.toRowW d [] (fun f vs => PySem.call f vs) := by
  refine Att.attach_call hn hdf fun w s₀ s₁ mg mb fa o pm cd doc a vs ns G Y ho hd hcd hmg hobj hints hlen hg => ?_
  have KX := hY w _ Y
  have mo := M w mg _ KX G.T.g
  obtain ⟨fa', h1, h2, _⟩ := fnP_all (P := l.prog) (base := s₁.heap) mo k d.name hf
  have e : fa' = fa := by rw [hmg] at h1; cases h1; rfl
  subst e
  refine law_run KX G.T.g G.T.b G.T.builtins G.T.nolimit hg hobj hints (Nat.le_trans hlen (by decide)) hr (fun base hk hb => ?_) (hsp ns hlen)
  obtain ⟨fb, g1, _, g3⟩ := fnP_all (P := l.prog) (base := base) mo k d.name hf
  rw [hmg] at g1
  cases g1
  exact g3
end Fv

set_option Elab.async false
set_option linter.all false
set_option maxRecDepth 100000
set_option maxHeartbeats 2000000
namespace Fv
open PySem PySem.Spec PyProof.Rows L2
def argsOf (st : Stmt) : Arguments := match st with
  | .FunctionDef _ a .. => a
  | _ => { posonlyargs := [], args := [], vararg := none, kwonlyargs := [], kw_defaults := [], kwarg := none, defaults := [] }
def bodyOf (st : Stmt) : List Stmt := match st with
  | .FunctionDef _ _ b .. => b
  | _ => []
def scopeB (N P : List Str) (sc : Scope) : Bool :=
  (sc.kind == .function) && !sc.isCoroutine && !sc.isGenerator && nodupB N && decide (N.take P.length = P)
    && (P.all fun x => locB sc x) && sc.names.all fun y => y.2 != .free
theorem scope_of {N P : List Str} {sc : Scope} (h : scopeB N P sc = true) : FnScope N P sc := by
  unfold scopeB at h
  simp only [Bool.and_eq_true, Bool.not_eq_true', decide_eq_true_eq, List.all_eq_true, bne_iff_ne, ne_eq] at h
  obtain ⟨⟨⟨⟨⟨⟨a, b⟩, c⟩, d⟩, e⟩, f⟩, g⟩ := h
  refine ⟨?_, b, c, nodup_of d, e, fun x hx => ?_, fun y hy => g y hy⟩
  · cases hk : sc.kind <;> rw [hk] at a <;> first | rfl | cases a
  · have := f x hx
    unfold locB at this
    split at this
    · rename_i q; exact .inl q
    · rename_i q; exact .inr q
    · cases this
def defB (fs : List Str) (d : FDef) (ps : Arguments) (body : List Stmt) (sc : Scope) : Bool :=
  ps.posonlyargs.isEmpty && ps.kwarg.isNone && decide (ps.args.map (·.arg) = d.pos) && decide (ps.kwonlyargs.map (·.arg) = d.ko) && decide (ps.vararg.map (·.arg) = d.va) && scopeB d.N d.ps sc && cSs fs d.N sc d.body body
section
variable {K : PySem.W.Frag} {w : World}
theorem def_mk {fs : List Str} {d : FDef} {a : Addr} {oc dV kV doc pm cdv ct : Value} {od an : Option Addr} {osl : Array (Option Value)} {name qual : Str} {params : Arguments} {body : List Stmt} {scope : Scope}
    (l1 : K.lookup a = some ⟨oc, od, .func (PySem.W.fnOf name qual params body scope dV kV doc pm an cdv ct), osl⟩) (c1 : PySem.W.codeIn K cdv qual = true) (k1 : PySem.W.keepIn K (.ref a) = true)
    (h : defB fs d params body scope = true) (hd : DflOk K w dV d.dfl) (hk : KwdOk K w kV d.kdf) : DefOk K w fs d a := by
  unfold defB at h
  simp only [Bool.and_eq_true, decide_eq_true_eq] at h
  obtain ⟨⟨⟨⟨⟨⟨e1, e2⟩, e3⟩, e4⟩, e5⟩, e6⟩, e7⟩ := h
  exact ⟨⟨oc, dV, kV, doc, pm, cdv, ct, od, an, osl, name, qual, params, body, scope, l1, c1, List.isEmpty_iff.1 e1, Option.isNone_iff_eq_none.1 e2, e3, e4, e5, scope_of e6, e7, hd, hk⟩, k1⟩
/-- a value that stands written -/
def CV (K : PySem.W.Frag) (w : World) (x : PV) (u : Value) : Prop := ∃ v, RelV v u ∧ ∀ H, RepV K w H x v
def CVs (K : PySem.W.Frag) (w : World) (xs : List PV) (us : List Value) : Prop := ∃ vs, Vals vs us ∧ ∀ H, RepL K w H xs vs
theorem cv_int {i : Int} {t : Tok} : CV K w (.int i) (.int i t) := ⟨.int i, ⟨t, rfl⟩, fun _ => rfl⟩
theorem cv_str {i : Str} {t : Tok} : CV K w (.str i) (.str i t) := ⟨.str i, ⟨t, rfl⟩, fun _ => rfl⟩
theorem cv_bl {b : Bool} : CV K w (.bl b) (.bool b) := ⟨.bl b, rfl, fun _ => rfl⟩
theorem cv_non : CV K w .non .none := ⟨.non, rfl, fun _ => rfl⟩
theorem cvs_nil : CVs K w [] [] := ⟨[], .nil, fun _ => rfl⟩
theorem cvs_cons {x : PV} {u : Value} {xs : List PV} {us : List Value} (h : CV K w x u) (t : CVs K w xs us) : CVs K w (x :: xs) (u :: us) := by
  obtain ⟨v, a, b⟩ := h
  obtain ⟨vs, c, d⟩ := t
  exact ⟨v :: vs, .cons a c, fun H => ⟨v, vs, rfl, b H, d H⟩⟩
theorem cv_tup {A : Addr} {od : Option Addr} {us : List Value} {n : Nat} {osl : Array (Option Value)} {xs : List PV} (h : K.lookup A = some ⟨.type "tuple", od, .seq us.toArray n, osl⟩) (hs : us.length ≤ sizeLine) (t : CVs K w xs us) : CV K w (.tup xs) (.ref A) := by
  obtain ⟨vs, c, d⟩ := t
  exact ⟨.ref A, rfl, fun H => ⟨A, vs, rfl, .inr ⟨_, us.toArray, n, h, rfl, rfl, by simpa using hs, by simpa using c⟩, d H⟩⟩
theorem cv_wl {A : Addr} {us : List Value} {n : Nat} {osl : Array (Option Value)} {xs : List PV} (h : K.lookup A = some ⟨.type "list", none, .seq us.toArray n, osl⟩) (hs : us.length ≤ sizeLine) (t : CVs K w xs us) : CV K w (.wl xs) (.ref A) := by
  obtain ⟨vs, c, d⟩ := t
  exact ⟨.ref A, rfl, fun H => ⟨A, vs, rfl, .inr ⟨_, us.toArray, n, h, rfl, rfl, rfl, by simpa using hs, by simpa using c⟩, d H⟩⟩
/-- a written dict with text keys -/
def entries (P : Params) : List (Str × Tok) → List Value → List DictEntry
  | kt :: ks, u :: us => ⟨PyData.keyHash P kt.1, .str kt.1 kt.2, u⟩ :: entries P ks us
  | _, _ => []
theorem entries_lit {P : Params} : ∀ (ks : List (Str × Tok)) (us : List Value), PySem.W.KeysLit P (entries P ks us)
  | [], _ => trivial
  | _ :: _, [] => trivial
  | kt :: ks, u :: us => ⟨⟨_, _, rfl, rfl⟩, entries_lit ks us⟩
theorem entries_find {P : Params} (z : Str) : ∀ (ks : List (Str × Tok)) (us : List Value) (vs : List V), Vals vs us → ks.length = us.length →
    match ((ks.map (·.1)).zip vs).lookup z with
    | some v => ∃ e, (entries P ks us).find? (·.key.isStr z) = some e ∧ RelV v e.val
    | none => (entries P ks us).find? (·.key.isStr z) = none
  | [], [], _, .nil, _ => rfl
  | kt :: ks, u :: us, v :: vs, .cons r rs, hl => by
    have ih := entries_find (P := P) z ks us vs rs (by simpa using hl)
    rw [List.map_cons, List.zip_cons_cons, List.lookup_cons]
    unfold entries
    rw [List.find?_cons]
    have e : (Value.str kt.1 kt.2).isStr z = (kt.1 == z) := rfl
    dsimp only
    rw [e]
    cases h : z == kt.1 with
    | true =>
      have h2 : (kt.1 == z) = true := by rw [beq_iff_eq] at h ⊢; exact h.symm
      rw [h2]
      exact ⟨_, rfl, r⟩
    | false =>
      have h2 : (kt.1 == z) = false := by rw [beq_eq_false_iff_ne] at h ⊢; exact fun q => h q.symm
      rw [h2]
      exact ih
theorem entries_ref {P : Params} : ∀ (ks : List (Str × Tok)) (us : List Value), (entries P ks us).any (·.refKey) = false
  | [], _ => rfl
  | _ :: _, [] => rfl
  | kt :: ks, u :: us => by
    unfold entries
    rw [List.any_cons, entries_ref ks us]
    rfl
theorem cv_wd {D : Addr} {kts : List (Str × Tok)} {us : List Value} {n : Nat} {xs : List PV} (h : K.lookup D = some ⟨.type "dict", none, .dict (entries w.params kts us).toArray n, #[]⟩) (lo : (D == sysModules) = false) (hl : kts.length = us.length) (t : CVs K w xs us) : CV K w (.wd (kts.map (·.1)) xs) (.ref D) := by
  obtain ⟨vs, c, d⟩ := t
  refine ⟨.ref D, rfl, fun H => ⟨D, vs, rfl, ⟨by rw [List.length_map, hl, c.length], ⟨_, n, h, by simpa using entries_lit kts us, lo⟩, fun z => ?_⟩, d H⟩⟩
  have f := entries_find (P := w.params) z kts us vs c hl
  have e : PySem.W.nsIn K D z = match (entries w.params kts us).find? (·.key.isStr z) with | some e => some (some e.val) | none => if (entries w.params kts us).any (·.refKey) then none else some none := by
    unfold PySem.W.nsIn
    rw [h]
    cases hf : (entries w.params kts us).find? (·.key.isStr z) <;> simp only [hf]
  split
  · rename_i v hv
    rw [hv] at f
    obtain ⟨en, f1, f2⟩ := f
    exact ⟨en.val, by rw [e, f1], f2⟩
  · rename_i hv
    rw [hv] at f
    rw [e, f]
    simp only [entries_ref]
    rfl
theorem dfl_none : DflOk K w .none [] := .inl ⟨rfl, rfl⟩
theorem dfl_mk {A : Addr} {oc : Value} {od : Option Addr} {us : List Value} {n : Nat} {osl : Array (Option Value)} {xs : List PV} (h : K.lookup A = some ⟨oc, od, .seq us.toArray n, osl⟩) (t : CVs K w xs us) : DflOk K w (.ref A) xs := by
  obtain ⟨vs, c, d⟩ := t
  exact .inr ⟨A, _, us, n, vs, rfl, h, rfl, c, d⟩
theorem kwd_none {kV : Value} : KwdOk K w kV [] := fun _ h => nomatch h
theorem kwd_cons {D : Addr} {x : Str} {v : PV} {u : Value} {r : List (Str × PV)} (h : PySem.W.nsIn K D x = some (some u)) (c : CV K w v u) (t : KwdOk K w (.ref D) r) : KwdOk K w (.ref D) ((x, v) :: r) := fun q hq => by
  rcases List.mem_cons.1 hq with rfl | hq
  · obtain ⟨vv, a, b⟩ := c
    exact ⟨D, u, vv, rfl, h, a, b⟩
  · exact t q hq
theorem all_cons {α : Type} {p : α → Prop} {x : α} {xs : List α} (h : p x) (t : ∀ y ∈ xs, p y) : ∀ y ∈ x :: xs, p y := fun y hy => by
  rcases List.mem_cons.1 hy with rfl | hy
  · exact h
  · exact t y hy
theorem all_nil {α : Type} {p : α → Prop} : ∀ y ∈ ([] : List α), p y := fun _ h => nomatch h
/-- the names of the text's def, each where it stands -/
def FnAt (K : PySem.W.Frag) (w : World) (fs : List Str) (Γ : Str → Option FDef) (mg : Str → Option Value) (f : Str) : Prop := ∃ d a, Γ f = some d ∧ mg f = some (.ref a) ∧ DefOk K w fs d a
/-- the text's constants -/
def GlAt (K : PySem.W.Frag) (w : World) (mg : Str → Option Value) (p : Str × PV) : Prop := ∃ u, mg p.1 = some u ∧ CV K w p.2 u
/-- the text's classes -/
def ClAt (K : PySem.W.Frag) (c : Str) : Prop := ∃ C, KCls K c C ∧ Cls K C
def NfAt (K : PySem.W.Frag) (p : Str × Str) : Prop := ∃ C, KCls K p.1 C ∧ NoAttr K C p.2
def MtAt (K : PySem.W.Frag) (w : World) (fs : List Str) (Γ : Str → Option FDef) (p : (Str × Str) × Str) : Prop := ∃ d C f, Γ p.2 = some d ∧ KCls K p.1.1 C ∧ Meth K C p.1.2 f ∧ DefOk K w fs d f
def InAt (K : PySem.W.Frag) (w : World) (fs : List Str) (Γ : Str → Option FDef) (mg : Str → Option Value) (p : Str × Str) : Prop := ∃ d C f, Γ p.2 = some d ∧ KCls K p.1 C ∧ mg p.1 = some (.ref C) ∧ Mk K C f ∧ DefOk K w fs d f
theorem mem_of_look {α β : Type} [BEq α] [LawfulBEq α] : ∀ {l : List (α × β)} {x : α} {v : β}, l.lookup x = some v → (x, v) ∈ l
  | [], _, _, e => by cases e
  | (a, b) :: r, x, v, e => by
    rw [List.lookup_cons] at e
    split at e
    · rename_i hx
      have := eq_of_beq hx
      subst this
      cases e
      exact List.mem_cons_self
    · exact List.mem_cons_of_mem _ (mem_of_look e)
/-- what the text's classes are -/
structure Cs0 where
  cl : List Str := []
  nf : List (Str × Str) := []
  mt : List ((Str × Str) × Str) := []
  ini : List (Str × Str) := []
def tabOf (gs : List (Str × PV)) (c : Cs0) : Tab := ⟨fun x => gs.lookup x, fun k m => c.mt.lookup (k, m), fun k f => c.nf.contains (k, f), fun k => c.ini.lookup k⟩
theorem mod_ok {fs : List Str} {Γ : Str → Option FDef} {gs : List (Str × PV)} {tb : Tab} {mg : Str → Option Value}
    (h1 : ∀ x ∈ (["len", "abs", "max", "min", "str", "repr", "tuple", "list", "all", "any", "isinstance", "range", "int", "bool", "dict", "enumerate", "zip", "sorted", "reversed"] : List Str), mg x = none)
    (h2 : ∀ p ∈ gs, GlAt K w mg p) (h3 : ∀ f ∈ fs, FnAt K w fs Γ mg f) (e : tb.gl = fun x => gs.lookup x) (h4 : ∀ c f, tb.nof c f = true → ∃ C, KCls K c C ∧ Cls K C ∧ NoAttr K C f) (h5 : ∀ c m q, tb.mt c m = some q → ∃ d C f, Γ q = some d ∧ KCls K c C ∧ Cls K C ∧ Meth K C m f ∧ DefOk K w fs d f)
    (h6 : ∀ c q, tb.ini c = some q → ∃ d C f, Γ q = some d ∧ KCls K c C ∧ mg c = some (.ref C) ∧ Mk K C f ∧ DefOk K w fs d f) : ModOk K w fs Γ tb mg where
  bn b := by cases b <;> exact h1 _ (by decide)
  isi := h1 _ (by decide)
  rng := h1 _ (by decide)
  enu := h1 _ (by decide)
  zp := h1 _ (by decide)
  rvd := h1 _ (by decide)
  tys q hq := h1 _ (by
    have : ∀ q ∈ isiTys, q.2 ∈ (["len", "abs", "max", "min", "str", "repr", "tuple", "list", "all", "any", "isinstance", "range", "int", "bool", "dict", "enumerate", "zip", "sorted", "reversed"] : List Str) := by decide
    exact this q hq)
  nof := h4
  mt := h5
  ini := h6
  gl x v z := by
    rw [e] at z
    dsimp only at z
    clear e h4 h5 h6
    revert z
    intro e
    have : (x, v) ∈ gs := by
      clear h2
      induction gs with
      | nil => cases e
      | cons p r ih =>
        obtain ⟨a, b⟩ := p
        simp only [List.lookup_cons] at e
        split at e
        · rename_i hx
          have := eq_of_beq hx
          subst this
          cases e
          exact List.mem_cons_self
        · exact List.mem_cons_of_mem _ (ih e)
    obtain ⟨u, a, vv, b, c⟩ := h2 _ this
    exact ⟨u, vv, a, b, c⟩
  fn f hf := h3 f hf
theorem mod_ok2 {fs : List Str} {Γ : Str → Option FDef} {gs : List (Str × PV)} {c : Cs0} {mg : Str → Option Value}
    (h1 : ∀ x ∈ (["len", "abs", "max", "min", "str", "repr", "tuple", "list", "all", "any", "isinstance", "range", "int", "bool", "dict", "enumerate", "zip", "sorted", "reversed"] : List Str), mg x = none)
    (h2 : ∀ p ∈ gs, GlAt K w mg p) (h3 : ∀ f ∈ fs, FnAt K w fs Γ mg f) (k1 : ∀ x ∈ c.cl, ClAt K x) (k2 : ∀ x ∈ c.nf, x.1 ∈ c.cl ∧ NfAt K x) (k3 : ∀ x ∈ c.mt, x.1.1 ∈ c.cl ∧ MtAt K w fs Γ x) (k4 : ∀ x ∈ c.ini, InAt K w fs Γ mg x) : ModOk K w fs Γ (tabOf gs c) mg :=
  mod_ok h1 h2 h3 rfl (fun x f e => by
    obtain ⟨a, C, b1, b2⟩ := k2 (x, f) (by simpa [tabOf] using e)
    obtain ⟨C2, d1, d2⟩ := k1 _ a
    cases b1.one d1
    exact ⟨C, b1, d2, b2⟩) (fun x m q e => by
    obtain ⟨a, d, C, f, b1, b2, b3, b4⟩ := k3 _ (mem_of_look e)
    obtain ⟨C2, d1, d2⟩ := k1 _ a
    cases b2.one d1
    exact ⟨d, C, f, b1, b2, d2, b3, b4⟩) (fun x q e => k4 _ (mem_of_look e))
end
end Fv

set_option Elab.async false
set_option linter.all false
set_option maxRecDepth 100000
set_option maxHeartbeats 2000000
namespace Fv
open PySem L2
theorem run_call {Γ : Str → Option FDef} {gl : Tab} {k : Nat} {f : Str} {d : FDef} {xs vs : List PV} {kws : List (Str × PV)} {G : PH} {Q : VP} {P : PC} (h1 : Γ f = some d) (h2 : d.args xs kws = some vs) (h3 : wSs (Fv.run Γ gl k) d.body (endP Q P) (startP d.N vs) G) : (Fv.run Γ gl (k + 1)).fn f xs kws G Q P := by
  unfold Fv.run
  simp only [h1, h2]
  exact h3
theorem atI_nat {α : Type} {xs : List α} {i : Nat} (h : i < xs.length) : L2.atI xs (i : Int) = some xs[i] := by
  unfold L2.atI L2.ixN
  rw [if_pos (by omega), if_pos (by omega)]
  simp [h]
theorem atI_int {α : Type} {xs : List α} {i : Int} (h0 : 0 ≤ i) (h : i.toNat < xs.length) : L2.atI xs i = some xs[i.toNat] := by
  have := atI_nat h
  rwa [Int.toNat_of_nonneg h0] at this
theorem atI_m1 {α : Type} {xs : List α} {x : α} : L2.atI (xs ++ [x]) (-1) = some x := by
  unfold L2.atI L2.ixN
  rw [if_neg (by omega), if_pos (by simp; omega)]
  have : ((-1 : Int) + ((xs ++ [x]).length : Nat)).toNat = xs.length := by simp; omega
  rw [this]
  simp
theorem atI_0 {α : Type} {x : α} {xs : List α} : L2.atI (x :: xs) 0 = some x := atI_nat (i := 0) (by simp)
theorem atI_1 {α : Type} {x0 x : α} {xs : List α} : L2.atI (x0 :: x :: xs) 1 = some x := atI_nat (i := 1) (by simp)
theorem atI_2 {α : Type} {x0 x1 x : α} {xs : List α} : L2.atI (x0 :: x1 :: x :: xs) 2 = some x := atI_nat (i := 2) (by simp)
theorem atI_3 {α : Type} {x0 x1 x2 x : α} {xs : List α} : L2.atI (x0 :: x1 :: x2 :: x :: xs) 3 = some x := atI_nat (i := 3) (by simp)
theorem atI_4 {α : Type} {x0 x1 x2 x3 x : α} {xs : List α} : L2.atI (x0 :: x1 :: x2 :: x3 :: x :: xs) 4 = some x := atI_nat (i := 4) (by simp)
theorem atI_5 {α : Type} {x0 x1 x2 x3 x4 x : α} {xs : List α} : L2.atI (x0 :: x1 :: x2 :: x3 :: x4 :: x :: xs) 5 = some x := atI_nat (i := 5) (by simp)
theorem kb_NoneType_tuple : L2.kitB "NoneType" "tuple" = some false := by decide +kernel
theorem kb_NoneType_int : L2.kitB "NoneType" "int" = some false := by decide +kernel
theorem kb_NoneType_bool : L2.kitB "NoneType" "bool" = some false := by decide +kernel
theorem kb_NoneType_str : L2.kitB "NoneType" "str" = some false := by decide +kernel
theorem kb_NoneType_list : L2.kitB "NoneType" "list" = some false := by decide +kernel
theorem kb_NoneType_dict : L2.kitB "NoneType" "dict" = some false := by decide +kernel
theorem kb_bool_tuple : L2.kitB "bool" "tuple" = some false := by decide +kernel
theorem kb_bool_int : L2.kitB "bool" "int" = some true := by decide +kernel
theorem kb_bool_bool : L2.kitB "bool" "bool" = some true := by decide +kernel
theorem kb_bool_str : L2.kitB "bool" "str" = some false := by decide +kernel
theorem kb_bool_list : L2.kitB "bool" "list" = some false := by decide +kernel
theorem kb_bool_dict : L2.kitB "bool" "dict" = some false := by decide +kernel
theorem kb_int_tuple : L2.kitB "int" "tuple" = some false := by decide +kernel
theorem kb_int_int : L2.kitB "int" "int" = some true := by decide +kernel
theorem kb_int_bool : L2.kitB "int" "bool" = some false := by decide +kernel
theorem kb_int_str : L2.kitB "int" "str" = some false := by decide +kernel
theorem kb_int_list : L2.kitB "int" "list" = some false := by decide +kernel
theorem kb_int_dict : L2.kitB "int" "dict" = some false := by decide +kernel
theorem kb_str_tuple : L2.kitB "str" "tuple" = some false := by decide +kernel
theorem kb_str_int : L2.kitB "str" "int" = some false := by decide +kernel
theorem kb_str_bool : L2.kitB "str" "bool" = some false := by decide +kernel
theorem kb_str_str : L2.kitB "str" "str" = some true := by decide +kernel
theorem kb_str_list : L2.kitB "str" "list" = some false := by decide +kernel
theorem kb_str_dict : L2.kitB "str" "dict" = some false := by decide +kernel
theorem kb_tuple_tuple : L2.kitB "tuple" "tuple" = some true := by decide +kernel
theorem kb_tuple_int : L2.kitB "tuple" "int" = some false := by decide +kernel
theorem kb_tuple_bool : L2.kitB "tuple" "bool" = some false := by decide +kernel
theorem kb_tuple_str : L2.kitB "tuple" "str" = some false := by decide +kernel
theorem kb_tuple_list : L2.kitB "tuple" "list" = some false := by decide +kernel
theorem kb_tuple_dict : L2.kitB "tuple" "dict" = some false := by decide +kernel
theorem kb_list_tuple : L2.kitB "list" "tuple" = some false := by decide +kernel
theorem kb_list_int : L2.kitB "list" "int" = some false := by decide +kernel
theorem kb_list_bool : L2.kitB "list" "bool" = some false := by decide +kernel
theorem kb_list_str : L2.kitB "list" "str" = some false := by decide +kernel
theorem kb_list_list : L2.kitB "list" "list" = some true := by decide +kernel
theorem kb_list_dict : L2.kitB "list" "dict" = some false := by decide +kernel
theorem kb_dict_tuple : L2.kitB "dict" "tuple" = some false := by decide +kernel
theorem kb_dict_int : L2.kitB "dict" "int" = some false := by decide +kernel
theorem kb_dict_bool : L2.kitB "dict" "bool" = some false := by decide +kernel
theorem kb_dict_str : L2.kitB "dict" "str" = some false := by decide +kernel
theorem kb_dict_list : L2.kitB "dict" "list" = some false := by decide +kernel
theorem kb_dict_dict : L2.kitB "dict" "dict" = some true := by decide +kernel
theorem o_add_ii {i j : Int} {G : PH} {Q : VP} : pAdd (.int i) (.int j) G Q = Q (.int (i + j)) G := rfl
theorem o_add_ss {a b : Str} {G : PH} {Q : VP} : pAdd (.str a) (.str b) G Q = (a.length + b.length ≤ sizeLine ∧ Q (.str (a ++ b)) G) := rfl
theorem o_add_tt {a b : List PV} {G : PH} {Q : VP} : pAdd (.tup a) (.tup b) G Q = (a.length + b.length ≤ sizeLine ∧ Q (.tup (a ++ b)) G) := rfl
theorem o_add_rr {a b : Addr} {G : PH} {Q : VP} : pAdd (.ref a) (.ref b) G Q = (match G a, G b with | some (.lst xs), some (.lst ys) => xs.length + ys.length ≤ sizeLine ∧ ∀ p, G p = none → Q (.ref p) (pu G p (.lst (xs ++ ys))) | _, _ => False) := rfl
theorem o_sub_ii {i j : Int} {G : PH} {Q : VP} : pSub (.int i) (.int j) G Q = Q (.int (i - j)) G := rfl
theorem o_mul_ii {i j : Int} {G : PH} {Q : VP} : pMul (.int i) (.int j) G Q = (L2.CMul i j ∧ Q (.int (i * j)) G) := rfl
theorem o_mul_rk {a : Addr} {k : Int} {G : PH} {Q : VP} : pMul (.ref a) (.int k) G Q = (match G a with | some (.lst xs) => (-(2 ^ 63) ≤ k ∧ k < 2 ^ 63) ∧ xs.length * k.toNat ≤ sizeLine ∧ ∀ p, G p = none → Q (.ref p) (pu G p (.lst (List.replicate k.toNat xs).flatten)) | _ => False) := rfl
theorem o_mul_tk {xs : List PV} {k : Int} {G : PH} {Q : VP} : pMul (.tup xs) (.int k) G Q = (xs ≠ [] ∧ 2 ≤ k ∧ k ≤ 1000 ∧ xs.length ≤ 1000 ∧ Q (.tup (List.replicate k.toNat xs).flatten) G) := rfl
theorem o_mod_ii {i j : Int} {G : PH} {Q : VP} : pMod (.int i) (.int j) G Q = (0 < j ∧ Q (.int (i % j)) G) := rfl
theorem o_div_ii {i j : Int} {G : PH} {Q : VP} : pDiv (.int i) (.int j) G Q = (L2.CDiv i j ∧ Q (.int (i / j)) G) := rfl
theorem o_pow_ii {i j : Int} {G : PH} {Q : VP} : pPow (.int i) (.int j) G Q = (L2.CPow i j ∧ Q (.int (i ^ j.toNat)) G) := rfl
theorem o_lt_ii {f : Int → Int → Bool} {g : List Nat → List Nat → Bool} {i j : Int} {Q : Bool → Prop} : pLt f g (.int i) (.int j) Q = Q (f i j) := rfl
theorem o_lt_ss {f : Int → Int → Bool} {g : List Nat → List Nat → Bool} {a b : Str} {Q : Bool → Prop} : pLt f g (.str a) (.str b) Q = Q (g a.cps.toList b.cps.toList) := rfl
theorem o_eq_nn {G : PH} {Q : Bool → Prop} : pEq G .non .non Q = Q true := rfl
theorem o_eq_ni {i2 : Int} {G : PH} {Q : Bool → Prop} : pEq G .non (.int i2) Q = Q false := rfl
theorem o_eq_in {i1 : Int} {G : PH} {Q : Bool → Prop} : pEq G (.int i1) .non Q = Q false := rfl
theorem o_eq_nb {b2 : Bool} {G : PH} {Q : Bool → Prop} : pEq G .non (.bl b2) Q = Q false := rfl
theorem o_eq_bn {b1 : Bool} {G : PH} {Q : Bool → Prop} : pEq G (.bl b1) .non Q = Q false := rfl
theorem o_eq_ns {x2 : Str} {G : PH} {Q : Bool → Prop} : pEq G .non (.str x2) Q = Q false := rfl
theorem o_eq_sn {x1 : Str} {G : PH} {Q : Bool → Prop} : pEq G (.str x1) .non Q = Q false := rfl
theorem o_eq_ii {i1 : Int} {i2 : Int} {G : PH} {Q : Bool → Prop} : pEq G (.int i1) (.int i2) Q = Q (i1 == i2) := rfl
theorem o_eq_bb {b1 : Bool} {b2 : Bool} {G : PH} {Q : Bool → Prop} : pEq G (.bl b1) (.bl b2) Q = Q (b1 == b2) := rfl
theorem o_eq_ss {x1 : Str} {x2 : Str} {G : PH} {Q : Bool → Prop} : pEq G (.str x1) (.str x2) Q = Q (x1 == x2) := rfl
theorem o_eq_is {i1 : Int} {x2 : Str} {G : PH} {Q : Bool → Prop} : pEq G (.int i1) (.str x2) Q = Q false := rfl
theorem o_eq_si {x1 : Str} {i2 : Int} {G : PH} {Q : Bool → Prop} : pEq G (.str x1) (.int i2) Q = Q false := rfl
theorem o_eq_bs {b1 : Bool} {x2 : Str} {G : PH} {Q : Bool → Prop} : pEq G (.bl b1) (.str x2) Q = Q false := rfl
theorem o_eq_sb {x1 : Str} {b2 : Bool} {G : PH} {Q : Bool → Prop} : pEq G (.str x1) (.bl b2) Q = Q false := rfl
theorem o_eq_tt {t1 : List PV} {t2 : List PV} {G : PH} {Q : Bool → Prop} : pEq G (.tup t1) (.tup t2) Q = (SeqAt.shaped (datH G 60 (.tup t1)) = true ∧ SeqAt.shaped (datH G 60 (.tup t2)) = true ∧ Q (PyData.eqv (datH G 60 (.tup t1)) (datH G 60 (.tup t2)))) := rfl
theorem o_eq_tr {t1 : List PV} {a2 : Addr} {G : PH} {Q : Bool → Prop} : pEq G (.tup t1) (.ref a2) Q = (SeqAt.shaped (datH G 60 (.tup t1)) = true ∧ SeqAt.shaped (datH G 60 (.ref a2)) = true ∧ Q (PyData.eqv (datH G 60 (.tup t1)) (datH G 60 (.ref a2)))) := rfl
theorem o_eq_tn {t1 : List PV} {G : PH} {Q : Bool → Prop} : pEq G (.tup t1) .non Q = (SeqAt.shaped (datH G 60 (.tup t1)) = true ∧ SeqAt.shaped (datH G 60 .non) = true ∧ Q (PyData.eqv (datH G 60 (.tup t1)) (datH G 60 .non))) := rfl
theorem o_eq_nt {t2 : List PV} {G : PH} {Q : Bool → Prop} : pEq G .non (.tup t2) Q = (SeqAt.shaped (datH G 60 .non) = true ∧ SeqAt.shaped (datH G 60 (.tup t2)) = true ∧ Q (PyData.eqv (datH G 60 .non) (datH G 60 (.tup t2)))) := rfl
theorem o_eq_ti {t1 : List PV} {i2 : Int} {G : PH} {Q : Bool → Prop} : pEq G (.tup t1) (.int i2) Q = (SeqAt.shaped (datH G 60 (.tup t1)) = true ∧ SeqAt.shaped (datH G 60 (.int i2)) = true ∧ Q (PyData.eqv (datH G 60 (.tup t1)) (datH G 60 (.int i2)))) := rfl
theorem o_eq_it {i1 : Int} {t2 : List PV} {G : PH} {Q : Bool → Prop} : pEq G (.int i1) (.tup t2) Q = (SeqAt.shaped (datH G 60 (.int i1)) = true ∧ SeqAt.shaped (datH G 60 (.tup t2)) = true ∧ Q (PyData.eqv (datH G 60 (.int i1)) (datH G 60 (.tup t2)))) := rfl
theorem o_eq_tb {t1 : List PV} {b2 : Bool} {G : PH} {Q : Bool → Prop} : pEq G (.tup t1) (.bl b2) Q = (SeqAt.shaped (datH G 60 (.tup t1)) = true ∧ SeqAt.shaped (datH G 60 (.bl b2)) = true ∧ Q (PyData.eqv (datH G 60 (.tup t1)) (datH G 60 (.bl b2)))) := rfl
theorem o_eq_bt {b1 : Bool} {t2 : List PV} {G : PH} {Q : Bool → Prop} : pEq G (.bl b1) (.tup t2) Q = (SeqAt.shaped (datH G 60 (.bl b1)) = true ∧ SeqAt.shaped (datH G 60 (.tup t2)) = true ∧ Q (PyData.eqv (datH G 60 (.bl b1)) (datH G 60 (.tup t2)))) := rfl
theorem o_eq_ts {t1 : List PV} {x2 : Str} {G : PH} {Q : Bool → Prop} : pEq G (.tup t1) (.str x2) Q = (SeqAt.shaped (datH G 60 (.tup t1)) = true ∧ SeqAt.shaped (datH G 60 (.str x2)) = true ∧ Q (PyData.eqv (datH G 60 (.tup t1)) (datH G 60 (.str x2)))) := rfl
theorem o_eq_st {x1 : Str} {t2 : List PV} {G : PH} {Q : Bool → Prop} : pEq G (.str x1) (.tup t2) Q = (SeqAt.shaped (datH G 60 (.str x1)) = true ∧ SeqAt.shaped (datH G 60 (.tup t2)) = true ∧ Q (PyData.eqv (datH G 60 (.str x1)) (datH G 60 (.tup t2)))) := rfl
theorem o_eq_rt {a1 : Addr} {t2 : List PV} {G : PH} {Q : Bool → Prop} : pEq G (.ref a1) (.tup t2) Q = (SeqAt.shaped (datH G 60 (.ref a1)) = true ∧ SeqAt.shaped (datH G 60 (.tup t2)) = true ∧ Q (PyData.eqv (datH G 60 (.ref a1)) (datH G 60 (.tup t2)))) := rfl
theorem o_eq_rr {a1 : Addr} {a2 : Addr} {G : PH} {Q : Bool → Prop} : pEq G (.ref a1) (.ref a2) Q = (SeqAt.shaped (datH G 60 (.ref a1)) = true ∧ SeqAt.shaped (datH G 60 (.ref a2)) = true ∧ Q (PyData.eqv (datH G 60 (.ref a1)) (datH G 60 (.ref a2)))) := rfl
theorem o_eq_rn {a1 : Addr} {G : PH} {Q : Bool → Prop} : pEq G (.ref a1) .non Q = (SeqAt.shaped (datH G 60 (.ref a1)) = true ∧ SeqAt.shaped (datH G 60 .non) = true ∧ Q (PyData.eqv (datH G 60 (.ref a1)) (datH G 60 .non))) := rfl
theorem o_eq_nr {a2 : Addr} {G : PH} {Q : Bool → Prop} : pEq G .non (.ref a2) Q = (SeqAt.shaped (datH G 60 .non) = true ∧ SeqAt.shaped (datH G 60 (.ref a2)) = true ∧ Q (PyData.eqv (datH G 60 .non) (datH G 60 (.ref a2)))) := rfl
theorem o_eq_ri {a1 : Addr} {i2 : Int} {G : PH} {Q : Bool → Prop} : pEq G (.ref a1) (.int i2) Q = (SeqAt.shaped (datH G 60 (.ref a1)) = true ∧ SeqAt.shaped (datH G 60 (.int i2)) = true ∧ Q (PyData.eqv (datH G 60 (.ref a1)) (datH G 60 (.int i2)))) := rfl
theorem o_eq_ir {i1 : Int} {a2 : Addr} {G : PH} {Q : Bool → Prop} : pEq G (.int i1) (.ref a2) Q = (SeqAt.shaped (datH G 60 (.int i1)) = true ∧ SeqAt.shaped (datH G 60 (.ref a2)) = true ∧ Q (PyData.eqv (datH G 60 (.int i1)) (datH G 60 (.ref a2)))) := rfl
theorem o_eq_rb {a1 : Addr} {b2 : Bool} {G : PH} {Q : Bool → Prop} : pEq G (.ref a1) (.bl b2) Q = (SeqAt.shaped (datH G 60 (.ref a1)) = true ∧ SeqAt.shaped (datH G 60 (.bl b2)) = true ∧ Q (PyData.eqv (datH G 60 (.ref a1)) (datH G 60 (.bl b2)))) := rfl
theorem o_eq_br {b1 : Bool} {a2 : Addr} {G : PH} {Q : Bool → Prop} : pEq G (.bl b1) (.ref a2) Q = (SeqAt.shaped (datH G 60 (.bl b1)) = true ∧ SeqAt.shaped (datH G 60 (.ref a2)) = true ∧ Q (PyData.eqv (datH G 60 (.bl b1)) (datH G 60 (.ref a2)))) := rfl
theorem o_eq_rs {a1 : Addr} {x2 : Str} {G : PH} {Q : Bool → Prop} : pEq G (.ref a1) (.str x2) Q = (SeqAt.shaped (datH G 60 (.ref a1)) = true ∧ SeqAt.shaped (datH G 60 (.str x2)) = true ∧ Q (PyData.eqv (datH G 60 (.ref a1)) (datH G 60 (.str x2)))) := rfl
theorem o_eq_sr {x1 : Str} {a2 : Addr} {G : PH} {Q : Bool → Prop} : pEq G (.str x1) (.ref a2) Q = (SeqAt.shaped (datH G 60 (.str x1)) = true ∧ SeqAt.shaped (datH G 60 (.ref a2)) = true ∧ Q (PyData.eqv (datH G 60 (.str x1)) (datH G 60 (.ref a2)))) := rfl
theorem o_tru_n {G : PH} {Q : Bool → Prop} : pTru .non G Q = Q false := rfl
theorem o_tru_b {b : Bool} {G : PH} {Q : Bool → Prop} : pTru (.bl b) G Q = Q b := rfl
theorem o_tru_i {i : Int} {G : PH} {Q : Bool → Prop} : pTru (.int i) G Q = Q (i != 0) := rfl
theorem o_tru_s {x : Str} {G : PH} {Q : Bool → Prop} : pTru (.str x) G Q = (x.length ≤ sizeLine ∧ Q (x.length != 0)) := rfl
theorem o_tru_t {x : List PV} {G : PH} {Q : Bool → Prop} : pTru (.tup x) G Q = Q (!x.isEmpty) := rfl
theorem o_tru_w {x : List PV} {G : PH} {Q : Bool → Prop} : pTru (.wl x) G Q = Q (!x.isEmpty) := rfl
theorem o_tru_r {a : Addr} {G : PH} {Q : Bool → Prop} : pTru (.ref a) G Q = (match G a with | some (.lst xs) => Q (!xs.isEmpty) | some (.dict xs) => Q (!xs.isEmpty) | _ => False) := rfl
theorem o_idx_t {xs : List PV} {i : Int} {G : PH} {Q : VP} : pIdx (.tup xs) (.int i) G Q = (match L2.atI xs i with | some v => Q v G | none => False) := rfl
theorem o_idx_w {xs : List PV} {i : Int} {G : PH} {Q : VP} : pIdx (.wl xs) (.int i) G Q = (match L2.atI xs i with | some v => Q v G | none => False) := rfl
theorem o_idx_r {a : Addr} {i : Int} {G : PH} {Q : VP} : pIdx (.ref a) (.int i) G Q = (match G a with | some (.lst xs) => (match L2.atI xs i with | some v => Q v G | none => False) | some (.dict kvs) => (match lkP kvs (.inl i) with | some v => Q v G | none => False) | _ => False) := rfl
theorem o_idx_rs {a : Addr} {z : Str} {G : PH} {Q : VP} : pIdx (.ref a) (.str z) G Q = (match G a with | some (.dict kvs) => (match lkP kvs (.inr z) with | some v => Q v G | none => False) | _ => False) := by
  cases h : G a with
  | none => simp [pIdx, h]
  | some o => cases o <;> simp only [pIdx, h, keyP] <;> try rfl
theorem o_idx_s {z : Str} {i : Int} {G : PH} {Q : VP} : pIdx (.str z) (.int i) G Q = (z.length ≤ sizeLine ∧ match L2.atI z.cps.toList i with | some c => Q (.str ⟨#[c]⟩) G | none => False) := rfl
theorem o_idx_d {ks : List Str} {vs : List PV} {z : Str} {G : PH} {Q : VP} : pIdx (.wd ks vs) (.str z) G Q = (ks.length = vs.length ∧ match (ks.zip vs).lookup z with | some v => Q v G | none => False) := rfl
theorem o_sl_t {xs : List PV} {lo hi : Option Int} {G : PH} {Q : VP} : pSl (.tup xs) lo hi G Q = Q (.tup ((xs.drop (HT.sIx xs.length 0 lo)).take (HT.sIx xs.length xs.length hi - HT.sIx xs.length 0 lo))) G := rfl
theorem o_sl_s {z : Str} {lo hi : Option Int} {G : PH} {Q : VP} : pSl (.str z) lo hi G Q = (z.length ≤ sizeLine ∧ Q (.str (L2.cutS z lo hi)) G) := rfl
theorem o_sl_r {a : Addr} {lo hi : Option Int} {G : PH} {Q : VP} : pSl (.ref a) lo hi G Q = (match G a with | some (.lst xs) => ∀ p, G p = none → Q (.ref p) (pu G p (.lst ((xs.drop (HT.sIx xs.length 0 lo)).take (HT.sIx xs.length xs.length hi - HT.sIx xs.length 0 lo)))) | _ => False) := rfl
theorem o_isi_n {t0 : String} {G : PH} {Q : VP} : pIsi t0 .non G Q = (match L2.kitB "NoneType" t0 with | some k => Q (.bl k) G | none => False) := rfl
theorem o_isi_b {t0 : String} {b : Bool} {G : PH} {Q : VP} : pIsi t0 (.bl b) G Q = (match L2.kitB "bool" t0 with | some k => Q (.bl k) G | none => False) := rfl
theorem o_isi_i {t0 : String} {i : Int} {G : PH} {Q : VP} : pIsi t0 (.int i) G Q = (match L2.kitB "int" t0 with | some k => Q (.bl k) G | none => False) := rfl
theorem o_isi_s {t0 : String} {x : Str} {G : PH} {Q : VP} : pIsi t0 (.str x) G Q = (match L2.kitB "str" t0 with | some k => Q (.bl k) G | none => False) := rfl
theorem o_isi_t {t0 : String} {t : List PV} {G : PH} {Q : VP} : pIsi t0 (.tup t) G Q = (match L2.kitB "tuple" t0 with | some k => Q (.bl k) G | none => False) := rfl
theorem o_isi_w {t0 : String} {w : List PV} {G : PH} {Q : VP} : pIsi t0 (.wl w) G Q = (match L2.kitB "list" t0 with | some k => Q (.bl k) G | none => False) := rfl
theorem o_isi_d {t0 : String} {ks : List Str} {vs : List PV} {G : PH} {Q : VP} : pIsi t0 (.wd ks vs) G Q = (match L2.kitB "dict" t0 with | some k => Q (.bl k) G | none => False) := rfl
theorem o_isi_r {t0 : String} {a : Addr} {G : PH} {Q : VP} : pIsi t0 (.ref a) G Q = (match (match G a with | some (.lst _) => some (.inl "list") | some (.dict _) => some (.inl "dict") | some (.dictT _) => some (.inl "dict") | some (.ins _ _) => none | none => none : Option (String ⊕ Addr)) with | some (.inl u) => (match L2.kitB u t0 with | some k => Q (.bl k) G | none => False) | _ => False) := rfl
theorem o_len_t {x : List PV} {G : PH} {Q : VP} : bLen [.tup x] G Q = Q (.int (x.length : Nat)) G := rfl
theorem o_len_w {x : List PV} {G : PH} {Q : VP} : bLen [.wl x] G Q = Q (.int (x.length : Nat)) G := rfl
theorem o_len_s {x : Str} {G : PH} {Q : VP} : bLen [.str x] G Q = (if x.length ≤ sizeLine then Q (.int (x.length : Nat)) G else False) := by by_cases h : x.length ≤ sizeLine <;> simp [bLen, pLen, h]
theorem o_len_r {a : Addr} {G : PH} {Q : VP} : bLen [.ref a] G Q = (match G a with | some (.lst xs) => Q (.int (xs.length : Nat)) G | some (.dict xs) => Q (.int (xs.length : Nat)) G | _ => False) := by cases h : G a with | none => simp [bLen, pLen, h] | some o => cases o <;> simp [bLen, pLen, h]
theorem o_abs {i : Int} {G : PH} {Q : VP} : bAbs [.int i] G Q = Q (.int (if i < 0 then -i else i)) G := rfl
theorem o_max {i j : Int} {G : PH} {Q : VP} : bMax [.int i, .int j] G Q = Q (.int (if j > i then j else i)) G := rfl
theorem o_min {i j : Int} {G : PH} {Q : VP} : bMin [.int i, .int j] G Q = Q (.int (if j < i then j else i)) G := rfl
theorem o_str {i : Int} {G : PH} {Q : VP} : bStr [.int i] G Q = (i.natAbs.log2 < 1920 ∧ Q (.str (Str.ofString (toString i))) G) := rfl
theorem o_str_s {z : Str} {G : PH} {Q : VP} : bStr [.str z] G Q = Q (.str z) G := rfl
theorem o_repr {x : PV} {G : PH} {Q : VP} : bRepr [x] G Q = (SeqAt.shaped (datH G 60 x) = true ∧ (datH G 60 x).showable = true ∧ (datH G 60 x).shown.length ≤ sizeLine ∧ Q (.str (datH G 60 x).shown) G) := rfl
theorem o_tuple_t {x : List PV} {G : PH} {Q : VP} : bTuple [.tup x] G Q = Q (.tup x) G := rfl
theorem o_tuple_r {a : Addr} {G : PH} {Q : VP} : bTuple [.ref a] G Q = (match G a with | some (.lst ys) => Q (.tup ys) G | _ => False) := rfl
theorem o_list_t {x : List PV} {G : PH} {Q : VP} : bList [.tup x] G Q = (∀ p, G p = none → Q (.ref p) (pu G p (.lst x))) := rfl
theorem o_list_r {a : Addr} {G : PH} {Q : VP} : bList [.ref a] G Q = (match G a with | some (.lst ys) => ∀ p, G p = none → Q (.ref p) (pu G p (.lst ys)) | _ => False) := rfl
theorem o_set_r {a : Addr} {i : Int} {v : PV} {G : PH} {Q : PH → Prop} : pSet (.ref a) (.int i) v G Q = (match G a with | some (.lst xs) => (match L2.ixN xs.length i with | some j => Q (pu G a (.lst (xs.set j v))) | none => False) | some (.dict kvs) => (kvs.length < sizeLine ∧ Q (pu G a (.dict (ptP kvs (.inl i) v)))) | _ => False) := rfl
theorem o_set_rs {a : Addr} {z : Str} {v : PV} {G : PH} {Q : PH → Prop} : pSet (.ref a) (.str z) v G Q = (match G a with | some (.dict kvs) => (kvs.length < sizeLine ∧ Q (pu G a (.dict (ptP kvs (.inr z) v)))) | _ => False) := by
  cases h : G a with
  | none => simp [pSet, h]
  | some o => cases o <;> simp only [pSet, h, keyP] <;> try rfl
theorem o_in_t {x : PV} {ys : List PV} {G : PH} {Q : Bool → Prop} : pIn G x (.tup ys) Q = pInS G x (.tup ys) ys Q := rfl
theorem o_in_w {x : PV} {ys : List PV} {G : PH} {Q : Bool → Prop} : pIn G x (.wl ys) Q = pInS G x (.wl ys) ys Q := rfl
theorem o_in_r {x : PV} {a : Addr} {G : PH} {Q : Bool → Prop} : pIn G x (.ref a) Q = (match G a with | some (.lst ys) => pInS G x (.ref a) ys Q | some (.dict kvs) => (match keyP x with | some k => Q (lkP kvs k).isSome | none => False) | _ => False) := rfl
theorem o_in_s {z a : Str} {G : PH} {Q : Bool → Prop} : pIn G (.str a) (.str z) Q = Q (!(Builtin.Str.occurrences z a 0 z.length 1).isEmpty) := rfl
theorem o_in_d {ks : List Str} {vs : List PV} {z : Str} {G : PH} {Q : Bool → Prop} : pIn G (.str z) (.wd ks vs) Q = (ks.length = vs.length ∧ Q (ks.contains z)) := rfl
theorem o_neg {o : Orc} {a : E} {σ : PSt} {G : PH} {Q : VP} {W : PX} {i : Int} : (fun (x : PV) (G : PH) (Q : VP) => match x with | .int i => Q (.int (-i)) G | _ => False) (.int i) G Q = Q (.int (-i)) G := rfl
/-- a loop, by what holds ahead of each turn -/
theorem for_inv {kp : Keep} {g : TPG} {tb : TPS} {D : PD} {xs : List PV} {σ : PSt} {G : PH} (I : List PV → PSt → PH → Prop) (h0 : I xs σ G) (hk : ∀ xs σ G, I xs σ G → Kept kp G) (hn : ∀ σ G, I [] σ G → D.nx σ G)
    (hs : ∀ (x : PV) (xs : List PV) (σ : PSt) (G : PH) (R : PSt → PH → Prop), I (x :: xs) σ G → (∀ σ3 G3 G4, Sub G4 G3 → I xs σ3 G4 → R σ3 G3) → g x σ G (fun σ2 G2 => tb { D with nx := R, ct := R, bk := D.nx } σ2 G2) D.ex) : forL kp g tb D xs σ G := by
  induction xs generalizing σ G with
  | nil => exact ⟨hk _ _ _ h0, hn _ _ h0⟩
  | cons x xs ih => exact ⟨hk _ _ _ h0, hs x xs σ G _ h0 fun σ3 G3 G4 s i => ⟨G4, s, ih i⟩⟩
theorem lc_inv {kp : Keep} {g : TPG} {tt : TPT} {te : TPE} {σ0 : PSt} {xs acc : List PV} {G : PH} {Q : List PV → PH → Prop} (I : List PV → List PV → PH → Prop) (h0 : I xs acc G) (hk : ∀ xs acc G, I xs acc G → Kept kp G) (hn : ∀ acc G, I [] acc G → Q acc G)
    (hs : ∀ (x : PV) (xs acc : List PV) (G : PH) (R : List PV → PH → Prop), I (x :: xs) acc G → (∀ acc G, I xs acc G → R acc G) → g x σ0 G (fun σ2 G2 => tt σ2 G2 (fun b G3 => if b = true then te σ2 G3 (fun y G4 => acc.length < sizeLine ∧ R (acc ++ [y]) G4) noX else R acc G3) noX) noX) : lcL kp g tt te σ0 xs acc G Q := by
  induction xs generalizing acc G with
  | nil => exact ⟨hk _ _ _ h0, hn _ _ h0⟩
  | cons x xs ih => exact ⟨hk _ _ _ h0, hs x xs acc G _ h0 fun acc G i => ih i⟩
theorem kept_nil {G : PH} : Kept [] G := fun _ h => nomatch h
theorem kept_one {a : Addr} {o : PO} {G : PH} (h : G a = some o) : Kept [(a, o)] G := fun p hp => by
  rcases List.mem_cons.1 hp with rfl | hp
  · exact h
  · cases hp
theorem atI_last {α : Type} {xs : List α} {x : α} : L2.atI (x :: xs) (-1) = some ((x :: xs).getLast (List.cons_ne_nil _ _)) := by
  unfold L2.atI L2.ixN
  rw [if_neg (by omega), if_pos (by simp; omega)]
  have : ((-1 : Int) + ((x :: xs).length : Nat)).toNat = xs.length := by simp; omega
  rw [this, Option.bind_some, List.getLast_eq_getElem, List.getElem?_eq_getElem (by simp)]
  simp
theorem ss_cons {o : Orc} {s : S} {r : Ss} {D : PD} {σ : PSt} {G : PH} (h : wS o s { D with nx := fun σ2 G2 => wSs o r D σ2 G2 } σ G) : wSs o (.cons s r) D σ G := h
/-- one statement, what follows kept out of sight -/
theorem ss_step {o : Orc} {s : S} {r : Ss} {D : PD} {σ : PSt} {G : PH} (h : ∀ N : PSt → PH → Prop, (∀ σ2 G2, wSs o r D σ2 G2 → N σ2 G2) → wS o s { D with nx := N } σ G) : wSs o (.cons s r) D σ G := h _ fun _ _ h => h
theorem ss_nil {o : Orc} {D : PD} {σ : PSt} {G : PH} (h : D.nx σ G) : wSs o .nil D σ G := h
/-- a bag: what is left of the digits, the mixer's start, the count -/
def BagO (o : PO) (c : Int) : Prop := ∃ d m n : Int, o = .lst [.int d, .int m, .int n] ∧ 0 ≤ d ∧ 0 ≤ m ∧ m < 2305843009213693951 ∧ 0 ≤ n ∧ n ≤ c
theorem BagO.mono {o : PO} {c e : Int} (h : BagO o c) (k : c ≤ e) : BagO o e := by
  obtain ⟨d, m, n, a, b, b2, b3, b4, b5⟩ := h
  exact ⟨d, m, n, a, b, b2, b3, b4, by omega⟩
theorem cmul_lit {i j : Int} (h : -2 ^ 64 < i ∧ i < 2 ^ 64) : L2.CMul i j := .inl h
def bBag : Ss := .cons (.asg (.name 2) (.ite (.cmp .Lt (.var 1) (.blt .len (.one (.var 0) (.nil)))) (.idx (.var 0) (.var 1)) (.cst (.int 0))))
    (.cons (.asg (.name 3) (.ite (.cmp .GtE (.blt .abs (.one (.var 2) (.nil))) (.bin .Pow (.cst (.int 10)) (.cst (.int 18)))) (.blt .abs (.one (.var 2) (.nil))) (.cst (.int 0))))
    (.cons (.ret (.lst (.one (.var 3) (.one (.bin .Mod (.bin .Mult (.bin .Add (.bin .Add (.bin .Mod (.var 2) (.cst (.int 2305843009213693951))) (.bin .Mult (.cst (.int 7919)) (.var 1))) (.cst (.int 3))) (.cst (.int 6700417))) (.cst (.int 2305843009213693951))) (.one (.cst (.int 0)) (.nil))))))
    (.nil)))
def dBag : FDef := { pos := ["_law_script", "_law_at"], ko := [], va := none, N := ["_law_script", "_law_at", "_law_cell", "_law_digits"], body := bBag, dfl := [], kdf := [] }
def bTake : Ss := .cons (.ifs (.cmp .Gt (.idx (.var 0) (.cst (.int 0))) (.cst (.int 0))) (.cons (.asg (.name 2) (.bin .Mod (.idx (.var 0) (.cst (.int 0))) (.var 1)))
    (.cons (.asg (.sub (.var 0) (.cst (.int 0))) (.bin .FloorDiv (.idx (.var 0) (.cst (.int 0))) (.var 1)))
    (.cons (.ret (.var 2))
    (.nil)))) (.nil))
    (.cons (.asg (.sub (.var 0) (.cst (.int 2))) (.bin .Add (.idx (.var 0) (.cst (.int 2))) (.cst (.int 1))))
    (.cons (.asg (.name 3) (.bin .Mod (.bin .Pow (.bin .Add (.idx (.var 0) (.cst (.int 1))) (.bin .Mult (.cst (.int 1000003)) (.idx (.var 0) (.cst (.int 2))))) (.cst (.int 3))) (.cst (.int 2305843009213693921))))
    (.cons (.asg (.name 3) (.bin .Mod (.bin .Pow (.bin .Add (.var 3) (.bin .Mult (.cst (.int 15485863)) (.idx (.var 0) (.cst (.int 2))))) (.cst (.int 2))) (.cst (.int 2305843009213693951))))
    (.cons (.ret (.bin .Mod (.bin .FloorDiv (.var 3) (.cst (.int 1024))) (.var 1)))
    (.nil)))))
def dTake : FDef := { pos := ["_law_bag_here", "_law_many"], ko := [], va := none, N := ["_law_bag_here", "_law_many", "_law_digit", "_law_mixed"], body := bTake, dfl := [], kdf := [] }
end Fv
local macro_rules | `(tactic| k_call_by "fv1" ($a, $bs,*)) => `(tactic| (try simp only [Fv.wSs, Fv.wS, Fv.wE, Fv.wT, Fv.wTs, Fv.wA, Fv.wO, Fv.wG, Fv.wGs, Fv.wI, Fv.wVar, Fv.wCst, Fv.wOp, Fv.wUn, Fv.wIte, Fv.wNil, Fv.wCons, Fv.wTup, Fv.wLst, Fv.wCall, Fv.wName, Fv.wGNil, Fv.wGCons, Fv.pBin, Fv.pCmp, Fv.pCmpB, Fv.pBn, Fv.pIsN, Fv.isNon, Fv.endP, List.getElem?_cons_zero, List.getElem?_cons_succ, List.set_cons_zero, List.set_cons_succ, List.map_cons, List.map_nil, List.zip_cons_cons, List.zip_nil_left, Option.map_some, decide_eq_true_eq, if_true, if_false, reduceCtorEq, ↓reduceIte, Bool.not_true, Bool.not_false, Bool.false_eq_true, Fv.pu_same, Fv.pu_pu, L2.ixN, Fv.atI_0, Fv.atI_1, Fv.atI_2, Fv.atI_3, Fv.atI_4, Fv.atI_5, List.length_cons, List.length_nil, Nat.reduceAdd, Int.reduceLT, Int.reduceLE, Int.cast_ofNat_Int, List.length_set, Nat.lt_add_one, true_and, Option.bind_some, Int.toNat_zero, Int.toNat_one, Int.reduceToNat, Nat.zero_add, Int.zero_lt_one, Int.reduceBEq, beq_self_eq_true, List.length_map, ite_true, ite_false, Int.reduceNeg, Fv.atI_last, List.getLast_cons_cons, List.getLast_singleton, Fv.kb_NoneType_tuple, Fv.kb_NoneType_int, Fv.kb_NoneType_bool, Fv.kb_NoneType_str, Fv.kb_NoneType_list, Fv.kb_NoneType_dict, Fv.kb_bool_tuple, Fv.kb_bool_int, Fv.kb_bool_bool, Fv.kb_bool_str, Fv.kb_bool_list, Fv.kb_bool_dict, Fv.kb_int_tuple, Fv.kb_int_int, Fv.kb_int_bool, Fv.kb_int_str, Fv.kb_int_list, Fv.kb_int_dict, Fv.kb_str_tuple, Fv.kb_str_int, Fv.kb_str_bool, Fv.kb_str_str, Fv.kb_str_list, Fv.kb_str_dict, Fv.kb_tuple_tuple, Fv.kb_tuple_int, Fv.kb_tuple_bool, Fv.kb_tuple_str, Fv.kb_tuple_list, Fv.kb_tuple_dict, Fv.kb_list_tuple, Fv.kb_list_int, Fv.kb_list_bool, Fv.kb_list_str, Fv.kb_list_list, Fv.kb_list_dict, Fv.kb_dict_tuple, Fv.kb_dict_int, Fv.kb_dict_bool, Fv.kb_dict_str, Fv.kb_dict_list, Fv.kb_dict_dict, Fv.o_add_ii, Fv.o_add_ss, Fv.o_add_tt, Fv.o_add_rr, Fv.o_sub_ii, Fv.o_mul_ii, Fv.o_mul_rk, Fv.o_mul_tk, Fv.o_mod_ii, Fv.o_div_ii, Fv.o_pow_ii, Fv.o_lt_ii, Fv.o_lt_ss, Fv.o_eq_nn, Fv.o_eq_ni, Fv.o_eq_in, Fv.o_eq_nb, Fv.o_eq_bn, Fv.o_eq_ns, Fv.o_eq_sn, Fv.o_eq_ii, Fv.o_eq_bb, Fv.o_eq_ss, Fv.o_eq_is, Fv.o_eq_si, Fv.o_eq_bs, Fv.o_eq_sb, Fv.o_eq_tt, Fv.o_eq_tr, Fv.o_eq_tn, Fv.o_eq_nt, Fv.o_eq_ti, Fv.o_eq_it, Fv.o_eq_tb, Fv.o_eq_bt, Fv.o_eq_ts, Fv.o_eq_st, Fv.o_eq_rt, Fv.o_eq_rr, Fv.o_eq_rn, Fv.o_eq_nr, Fv.o_eq_ri, Fv.o_eq_ir, Fv.o_eq_rb, Fv.o_eq_br, Fv.o_eq_rs, Fv.o_eq_sr, Fv.o_tru_n, Fv.o_tru_b, Fv.o_tru_i, Fv.o_tru_s, Fv.o_tru_t, Fv.o_tru_w, Fv.o_tru_r, Fv.o_idx_t, Fv.o_idx_w, Fv.o_idx_r, Fv.o_idx_s, Fv.o_idx_d, Fv.o_sl_t, Fv.o_sl_s, Fv.o_sl_r, Fv.o_isi_n, Fv.o_isi_b, Fv.o_isi_i, Fv.o_isi_s, Fv.o_isi_t, Fv.o_isi_w, Fv.o_isi_d, Fv.o_isi_r, Fv.o_len_t, Fv.o_len_w, Fv.o_len_s, Fv.o_len_r, Fv.o_abs, Fv.o_max, Fv.o_min, Fv.o_str, Fv.o_repr, Fv.o_tuple_t, Fv.o_tuple_r, Fv.o_list_t, Fv.o_list_r, Fv.o_set_r, Fv.o_in_t, Fv.o_in_w, Fv.o_in_r, Fv.o_in_s, Fv.o_in_d, Fv.setAll, eq_self, and_true, Fv.wZip, Fv.pSrc, Fv.o_idx_rs, Fv.o_set_rs, Fv.keyP, Fv.wP, Fv.keysP, Fv.pBm, Fv.onBm, Fv.onStr, Fv.onList, Fv.pLst, Fv.pSeq, Fv.mJoin, Fv.mSplit, Fv.mSplitM, Fv.mStarts, Fv.mRemPre, Fv.mExt, Fv.mIndex, Fv.mRev, Fv.mClear, Fv.mPopAt, Fv.pRvs, Fv.pIsB, Fv.wEnum, Fv.zipP, Fv.onWd, Fv.pGet, Fv.onLst, Fv.pApp, Fv.pPopl, Fv.pFld, Fv.pSetF, Fv.pMth, Fv.pNew, Fv.putP, Fv.wCs, Fv.o_str_s, Fv.wF, Fv.wFNil, Fv.wFCons, Fv.pPut, Fv.pFmt, Fv.wRev, Fv.bToi, Fv.bSrt, Fv.strsQ, $a:term, $[$bs:term],*]))
local macro_rules | `(tactic| k_call_by "fv2" ($a, $bs,*)) => `(tactic| (try simp only [Fv.wSs, Fv.wS, Fv.wE, Fv.wT, Fv.wTs, Fv.wA, Fv.wO, Fv.wG, Fv.wGs, Fv.wI, Fv.wVar, Fv.wCst, Fv.wOp, Fv.wUn, Fv.wIte, Fv.wNil, Fv.wCons, Fv.wTup, Fv.wLst, Fv.wCall, Fv.wName, Fv.wGNil, Fv.wGCons, Fv.pBin, Fv.pCmp, Fv.pCmpB, Fv.pBn, Fv.pIsN, Fv.isNon, Fv.endP, List.getElem?_cons_zero, List.getElem?_cons_succ, List.set_cons_zero, List.set_cons_succ, List.map_cons, List.map_nil, List.zip_cons_cons, List.zip_nil_left, Option.map_some, decide_eq_true_eq, if_true, if_false, reduceCtorEq, ↓reduceIte, Bool.not_true, Bool.not_false, Bool.false_eq_true, Fv.pu_same, Fv.pu_pu, L2.ixN, Fv.atI_0, Fv.atI_1, Fv.atI_2, Fv.atI_3, Fv.atI_4, Fv.atI_5, List.length_cons, List.length_nil, Nat.reduceAdd, Int.reduceLT, Int.reduceLE, Int.cast_ofNat_Int, List.length_set, Nat.lt_add_one, true_and, Option.bind_some, Int.toNat_zero, Int.toNat_one, Int.reduceToNat, Nat.zero_add, Int.zero_lt_one, Int.reduceBEq, beq_self_eq_true, List.length_map, ite_true, ite_false, Int.reduceNeg, Fv.atI_last, List.getLast_cons_cons, List.getLast_singleton, Fv.kb_NoneType_tuple, Fv.kb_NoneType_int, Fv.kb_NoneType_bool, Fv.kb_NoneType_str, Fv.kb_NoneType_list, Fv.kb_NoneType_dict, Fv.kb_bool_tuple, Fv.kb_bool_int, Fv.kb_bool_bool, Fv.kb_bool_str, Fv.kb_bool_list, Fv.kb_bool_dict, Fv.kb_int_tuple, Fv.kb_int_int, Fv.kb_int_bool, Fv.kb_int_str, Fv.kb_int_list, Fv.kb_int_dict, Fv.kb_str_tuple, Fv.kb_str_int, Fv.kb_str_bool, Fv.kb_str_str, Fv.kb_str_list, Fv.kb_str_dict, Fv.kb_tuple_tuple, Fv.kb_tuple_int, Fv.kb_tuple_bool, Fv.kb_tuple_str, Fv.kb_tuple_list, Fv.kb_tuple_dict, Fv.kb_list_tuple, Fv.kb_list_int, Fv.kb_list_bool, Fv.kb_list_str, Fv.kb_list_list, Fv.kb_list_dict, Fv.kb_dict_tuple, Fv.kb_dict_int, Fv.kb_dict_bool, Fv.kb_dict_str, Fv.kb_dict_list, Fv.kb_dict_dict, Fv.o_add_ii, Fv.o_add_ss, Fv.o_add_tt, Fv.o_add_rr, Fv.o_sub_ii, Fv.o_mul_ii, Fv.o_mul_rk, Fv.o_mul_tk, Fv.o_mod_ii, Fv.o_div_ii, Fv.o_pow_ii, Fv.o_lt_ii, Fv.o_lt_ss, Fv.o_eq_nn, Fv.o_eq_ni, Fv.o_eq_in, Fv.o_eq_nb, Fv.o_eq_bn, Fv.o_eq_ns, Fv.o_eq_sn, Fv.o_eq_ii, Fv.o_eq_bb, Fv.o_eq_ss, Fv.o_eq_is, Fv.o_eq_si, Fv.o_eq_bs, Fv.o_eq_sb, Fv.o_tru_n, Fv.o_tru_b, Fv.o_tru_i, Fv.o_tru_s, Fv.o_tru_t, Fv.o_tru_w, Fv.o_tru_r, Fv.o_idx_t, Fv.o_idx_w, Fv.o_idx_r, Fv.o_idx_s, Fv.o_idx_d, Fv.o_sl_t, Fv.o_sl_s, Fv.o_sl_r, Fv.o_isi_n, Fv.o_isi_b, Fv.o_isi_i, Fv.o_isi_s, Fv.o_isi_t, Fv.o_isi_w, Fv.o_isi_d, Fv.o_isi_r, Fv.o_len_t, Fv.o_len_w, Fv.o_len_s, Fv.o_len_r, Fv.o_abs, Fv.o_max, Fv.o_min, Fv.o_str, Fv.o_repr, Fv.o_tuple_t, Fv.o_tuple_r, Fv.o_list_t, Fv.o_list_r, Fv.o_set_r, Fv.o_in_t, Fv.o_in_w, Fv.o_in_r, Fv.o_in_s, Fv.o_in_d, Fv.setAll, eq_self, and_true, Fv.wZip, Fv.pSrc, Fv.o_idx_rs, Fv.o_set_rs, Fv.keyP, Fv.wP, Fv.keysP, Fv.pBm, Fv.onBm, Fv.onStr, Fv.onList, Fv.pLst, Fv.pSeq, Fv.mJoin, Fv.mSplit, Fv.mSplitM, Fv.mStarts, Fv.mRemPre, Fv.mExt, Fv.mIndex, Fv.mRev, Fv.mClear, Fv.mPopAt, Fv.pRvs, Fv.pIsB, Fv.wEnum, Fv.zipP, Fv.onWd, Fv.pGet, Fv.onLst, Fv.pApp, Fv.pPopl, Fv.pFld, Fv.pSetF, Fv.pMth, Fv.pNew, Fv.putP, Fv.wCs, Fv.run_gl, Fv.o_str_s, Fv.wF, Fv.wFNil, Fv.wFCons, Fv.pPut, Fv.pFmt, Fv.wRev, Fv.bToi, Fv.bSrt, Fv.strsQ, $a:term, $[$bs:term],*]))
namespace Fv
open PySem L2
section
variable {Γ : Str → Option FDef} {gl : Tab}
theorem s_take (hΓ : Γ "_law_take" = some dTake) (k : Nat) {G : PH} {a : Addr} {o : PO} {c many : Int} {Q : VP} {P : Fv.PC} (h : G a = some o) (b : BagO o c) (hc : c < 1000000000000) (hm : 0 < many) (hm2 : many < 2 ^ 30)
    (q : ∀ r o2, 0 ≤ r → r < many → BagO o2 (c + 1) → Q (.int r) (pu G a o2)) : (Fv.run Γ gl (k + 1)).fn "_law_take" [.ref a, .int many] [] G Q P := by
  obtain ⟨d, m, n, rfl, hd, hm0, hm1, hn0, hn⟩ := b
  refine run_call hΓ (d := dTake) rfl ?_
  show wSs _ bTake _ [some (.ref a), some (.int many), none, none] G
  k_call_by "fv1" (true_and, bTake, h)
  split
  · rename_i h0
    refine ⟨hm, ⟨hm, hm2⟩, _, Sub.refl _, ?_⟩
    exact q _ _ (Int.emod_nonneg _ (by omega)) (Int.emod_lt_of_pos _ hm) ⟨_, _, _, rfl, Int.ediv_nonneg hd (by omega), hm0, hm1, hn0, by omega⟩
  · have e1 : 0 ≤ (m + 1000003 * (n + 1)) ^ 3 % 2305843009213693921 := Int.emod_nonneg _ (by omega)
    have e2 : (m + 1000003 * (n + 1)) ^ 3 % 2305843009213693921 < 2305843009213693921 := Int.emod_lt_of_pos _ (by omega)
    generalize (m + 1000003 * (n + 1)) ^ 3 % 2305843009213693921 = X at e1 e2 ⊢
    refine ⟨.inl (by omega), ⟨by omega, by omega, by omega⟩, .inl (by omega), ⟨by omega, by omega, by omega⟩, ⟨by omega, by omega⟩, hm, _, Sub.refl _, ?_⟩
    exact q _ _ (Int.emod_nonneg _ (by omega)) (Int.emod_lt_of_pos _ hm) ⟨_, _, _, rfl, hd, hm0, hm1, by omega, by omega⟩
theorem pow18 : (10 : Int) ^ 18 = 1000000000000000000 := by decide
theorem atI_map {ns : List Int} {i : Int} (h0 : 0 ≤ i) (h1 : i < ns.length) : ∃ v, L2.atI (ns.map PV.int) i = some (.int v) := by
  rw [atI_int h0 (by simp; omega)]
  simp
theorem s_bag (hΓ : Γ "_law_bag" = some dBag) (k : Nat) {G : PH} {ns : List Int} {i : Int} {Q : VP} {P : Fv.PC} (h0 : 0 ≤ i) (h1 : i < 1000)
    (q : ∀ a o, G a = none → BagO o 0 → Q (.ref a) (pu G a o)) : (Fv.run Γ gl (k + 1)).fn "_law_bag" [.wl (ns.map .int), .int i] [] G Q P := by
  refine run_call hΓ (d := dBag) rfl ?_
  show wSs _ bBag _ [some (.wl (ns.map .int)), some (.int i), none, none] G
  have go : ∀ x : Int, wSs (Fv.run Γ gl k) (match bBag with | .cons _ r => r | .nil => .nil) (endP Q P) [some (.wl (ns.map .int)), some (.int i), some (.int x), none] G := fun x => by
    k_call_by "fv1" (true_and, bBag)
    have hx : 0 ≤ (if x < 0 then -x else x) := by split <;> omega
    have hm : ∀ z : Int, 0 ≤ z % 2305843009213693951 ∧ z % 2305843009213693951 < 2305843009213693951 := fun z => ⟨Int.emod_nonneg _ (by omega), Int.emod_lt_of_pos _ (by omega)⟩
    generalize (if x < 0 then -x else x) = y at hx ⊢
    refine ⟨⟨by omega, by omega, by omega⟩, ?_⟩
    split
    · refine ⟨.inl (by omega), .inr (by omega), by decide, fun p hp => ⟨_, Sub.refl _, q p _ hp ⟨_, _, _, rfl, hx, (hm _).1, (hm _).2, by omega, by omega⟩⟩⟩
    · refine ⟨.inl (by omega), .inr (by omega), by decide, fun p hp => ⟨_, Sub.refl _, q p _ hp ⟨_, _, _, rfl, by omega, (hm _).1, (hm _).2, by omega, by omega⟩⟩⟩
  show wSs _ (.cons _ (match bBag with | .cons _ r => r | .nil => .nil)) _ _ _
  generalize hb : (match bBag with | .cons _ r => r | .nil => .nil) = B at go ⊢
  k_call_by "fv1" (true_and, List.length_map)
  split
  · rename_i hl
    obtain ⟨v, e⟩ := atI_map (ns := ns) h0 hl
    simp only [e]
    exact go v
  · exact go 0
end
end Fv

set_option Elab.async false
set_option linter.all false
set_option maxRecDepth 100000
set_option maxHeartbeats 2000000
namespace Fv
open PySem L2
/-- a map of a value: always this number, or the found number and so much more -/
inductive Mp where
  | num (i : Int) | fnd (i : Int)
def Mp.i : Mp → Int
  | .num i => i
  | .fnd i => i
def Mp.pv : Mp → PV
  | .num i => .int i
  | .fnd i => .tup [.str "found", .int i]
def Mp.isF : Mp → Bool
  | .num _ => false
  | .fnd _ => true
def Mp.app (m : Mp) (x b : Int) : Int := match m with
  | .num i => i
  | .fnd n => (x + n) % b
def Mp.join (m n : Mp) (b : Int) : Mp := match n with
  | .num i => .num i
  | .fnd j => match m with
    | .num i => .num ((i + j) % b)
    | .fnd i => .fnd ((i + j) % b)
def Mp.comp (ms : List Mp) (b : Int) : Mp := ms.foldl (fun m n => m.join n b) (.fnd 0)
def Mp.ok (m : Mp) (b : Int) : Prop := 0 ≤ m.i ∧ m.i < b
def Mp.dat : Mp → PyData
  | .num i => .int i
  | .fnd i => .tuple [.str "found", .int i]
theorem Mp.dat_pv (m : Mp) (G : PH) : datH G 60 m.pv = m.dat := by
  cases m <;> simp [Mp.pv, Mp.dat, datH, PV.dat]
theorem Mp.shaped (m : Mp) : SeqAt.shaped m.dat = true := by
  cases m <;> simp [Mp.dat, SeqAt.shaped, PyData.canLay0, PyData.canLayAll0, PyData.depth, PyData.depthAll] <;> decide +kernel
theorem log2_small {i : Int} (h0 : 0 ≤ i) (h : i < 2 ^ 62) : i.natAbs.log2 < 1920 := by
  have : i.natAbs < 2 ^ 62 := by omega
  by_cases z : i.natAbs = 0
  · rw [z]; decide
  · have := (Nat.log2_lt z).2 this
    omega
theorem Mp.showable {m : Mp} {b : Int} (h : m.ok b) (hb : b < 2 ^ 62) : m.dat.showable = true := by
  have := log2_small h.1 (Int.lt_trans h.2 hb)
  cases m <;> simp [Mp.dat, PyData.showable, PyData.showableAll, Mp.i] at this ⊢ <;> exact this
theorem str_app (a b : Str) : (a ++ b).length = a.length + b.length := by
  show (a.cps ++ b.cps).size = _
  rw [Array.size_append]; rfl
theorem Mp.short {m : Mp} {b : Int} (h : m.ok b) (hb : b < 2 ^ 62) : m.dat.shown.length ≤ sizeLine := by
  have h2 := PyProof.Rows.int_text_len_1921 (log2_small h.1 (Int.lt_trans h.2 hb))
  have e : sizeLine = 16777216 := rfl
  cases m with
  | num i => exact Nat.le_trans h2 (by decide)
  | fnd i =>
    have j := join_length_add [reprText "found", Str.ofString (toString i)] (by simp)
    show (tupleText [reprText "found", Str.ofString (toString i)]).length ≤ _
    unfold tupleText
    rw [str_app, str_app]
    have p : piled [reprText "found", Str.ofString (toString i)] ≤ 2000 + 1921 := by
      have r : (reprText "found").length = 7 := by decide +kernel
      simp only [Mp.i] at h2
      simp only [piled, List.map_cons, List.map_nil, List.sum_cons, List.sum_nil]
      omega
    have q1 : (Str.ofString "(").length = 1 := by decide +kernel
    have q2 : (Str.ofString ")").length = 1 := by decide +kernel
    simp only [List.length_cons, List.length_nil]
    rw [if_neg (by decide)]
    omega
def bApply : Ss := .cons (.ret (.ite (.e (.isi (.var 0) "tuple")) (.bin .Mod (.bin .Add (.var 1) (.idx (.var 0) (.cst (.int 1)))) (.var 2)) (.var 0)))
    (.nil)
def dApply : FDef := { pos := ["mapping", "number"], ko := ["base"], va := none, N := ["mapping", "number", "base"], body := bApply, dfl := [], kdf := [("base", .int (3))] }
def bJoined : Ss := .cons (.ifs (.not (.e (.isi (.var 1) "tuple"))) (.cons (.ret (.var 1))
    (.nil)) (.nil))
    (.cons (.ifs (.not (.e (.isi (.var 0) "tuple"))) (.cons (.ret (.call "apply" (.one (.var 1) (.one (.var 0) (.nil))) ["base"] (.one (.var 2) (.nil))))
    (.nil)) (.nil))
    (.cons (.ret (.tup (.one (.glob "FOUND") (.one (.bin .Mod (.bin .Add (.idx (.var 0) (.cst (.int 1))) (.idx (.var 1) (.cst (.int 1)))) (.var 2)) (.nil)))))
    (.nil)))
def dJoined : FDef := { pos := ["first", "second", "base"], ko := [], va := none, N := ["first", "second", "base"], body := bJoined, dfl := [], kdf := [] }
def bComposed : Ss := .cons (.asg (.name 2) (.glob "SAME"))
    (.cons (.for_ (.name 3) (.gen (.var 1)) (.cons (.asg (.name 2) (.call "joined" (.one (.var 2) (.one (.var 3) (.one (.var 0) (.nil)))) [] (.nil)))
    (.nil)))
    (.cons (.ret (.var 2))
    (.nil)))
def dComposed : FDef := { pos := [], ko := ["base"], va := some "mappings", N := ["base", "mappings", "found", "mapping"], body := bComposed, dfl := [], kdf := [("base", .int (3))] }
def bLMap : Ss := .cons (.asg (.name 2) (.call "_law_take" (.one (.var 0) (.one (.var 1) (.nil))) [] (.nil)))
    (.cons (.ret (.idx (.lst (.one (.var 2) (.one (.tup (.one (.cst (.str "found")) (.one (.var 2) (.nil)))) (.nil)))) (.call "_law_take" (.one (.var 0) (.one (.cst (.int 2)) (.nil))) [] (.nil))))
    (.nil))
def dLMap : FDef := { pos := ["_law_bag_here", "_law_radix"], ko := [], va := none, N := ["_law_bag_here", "_law_radix", "_law_number"], body := bLMap, dfl := [], kdf := [] }
def bLJoined : Ss := .cons (.asg (.name 2) (.tup (.one (.cst (.str "found")) (.one (.cst (.int 0)) (.nil)))))
    (.cons (.for_ (.name 3) (.gen (.var 0)) (.cons (.ifs (.not (.e (.isi (.var 3) "tuple"))) (.cons (.asg (.name 2) (.var 3))
    (.nil)) (.cons (.ifs (.e (.isi (.var 2) "tuple")) (.cons (.asg (.name 2) (.tup (.one (.cst (.str "found")) (.one (.bin .Mod (.bin .Add (.idx (.var 2) (.cst (.int 1))) (.idx (.var 3) (.cst (.int 1)))) (.var 1)) (.nil)))))
    (.nil)) (.cons (.asg (.name 2) (.bin .Mod (.bin .Add (.var 2) (.idx (.var 3) (.cst (.int 1)))) (.var 1)))
    (.nil)))
    (.nil)))
    (.nil)))
    (.cons (.ret (.var 2))
    (.nil)))
def dLJoined : FDef := { pos := ["_law_mappings", "_law_radix"], ko := [], va := none, N := ["_law_mappings", "_law_radix", "_law_found", "_law_mapping"], body := bLJoined, dfl := [], kdf := [] }
section
variable {Γ : Str → Option FDef} {gl : Tab}
theorem b_apply (o : Orc) (m : Mp) {b x : Int} {D : PD} {G : PH} (hb : 0 < b) (q : D.rt (.int (m.app x b)) G) : wSs o bApply D [some m.pv, some (.int x), some (.int b)] G := by
  cases m with
  | num i =>
    k_call_by "fv1" (true_and, bApply, Mp.pv)
    exact q
  | fnd i =>
    k_call_by "fv1" (true_and, bApply, Mp.pv)
    exact ⟨hb, q⟩
theorem s_apply (hΓ : Γ "apply" = some dApply) (k : Nat) (m : Mp) {b x : Int} {G : PH} {Q : VP} {P : Fv.PC} (hb : 0 < b) (q : Q (.int (m.app x b)) G) : (Fv.run Γ gl (k + 1)).fn "apply" [m.pv, .int x] [("base", .int b)] G Q P :=
  run_call hΓ (d := dApply) rfl (b_apply _ m hb ⟨_, Sub.refl _, q⟩)
theorem s_apply3 (hΓ : Γ "apply" = some dApply) (k : Nat) (m : Mp) {x : Int} {G : PH} {Q : VP} {P : Fv.PC} (q : Q (.int (m.app x 3)) G) : (Fv.run Γ gl (k + 1)).fn "apply" [m.pv, .int x] [] G Q P :=
  run_call hΓ (d := dApply) rfl (b_apply _ m (by omega) ⟨_, Sub.refl _, q⟩)
theorem s_joined (hA : Γ "apply" = some dApply) (hJ : Γ "joined" = some dJoined) (hF : gl.gl "FOUND" = some (.str "found")) (k : Nat) (m n : Mp) {b : Int} {G : PH} {Q : VP} {P : Fv.PC} (hb : 0 < b) (q : Q (m.join n b).pv G) : (Fv.run Γ gl (k + 2)).fn "joined" [m.pv, n.pv, .int b] [] G Q P := by
  refine run_call hJ (d := dJoined) rfl ?_
  show wSs _ bJoined _ [some m.pv, some n.pv, some (.int b)] G
  cases n with
  | num i =>
    k_call_by "fv1" (true_and, bJoined, Mp.pv)
    exact ⟨_, Sub.refl _, q⟩
  | fnd i =>
    cases m with
    | num j =>
      k_call_by "fv1" (true_and, bJoined, Mp.pv)
      exact s_apply hA k (.fnd i) hb ⟨_, Sub.refl _, q⟩
    | fnd j =>
      have hF2 : (Fv.run Γ gl (k + 1)).tb.gl (Str.ofString "FOUND") = some (.str "found") := hF
      k_call_by "fv1" (true_and, bJoined, Mp.pv, hF2)
      exact ⟨hb, by decide, _, Sub.refl _, q⟩
theorem args_composed {xs : List PV} {b : Int} (h : xs.length ≤ 1000) : dComposed.args xs [("base", .int b)] = some [.int b, .tup xs] := by
  have hf : dComposed.fits xs [("base", .int b)] = true := by
    simp [FDef.fits, dComposed, nodupB, h]
  unfold FDef.args
  rw [if_pos hf]
  simp [dComposed, tblG, lookAll]
theorem args_composed3 {xs : List PV} (h : xs.length ≤ 1000) : dComposed.args xs [] = some [.int 3, .tup xs] := by
  have hf : dComposed.fits xs [] = true := by
    simp [FDef.fits, dComposed, nodupB, h]
  unfold FDef.args
  rw [if_pos hf]
  simp [dComposed, tblG, lookAll]
theorem b_composed (hA : Γ "apply" = some dApply) (hJ : Γ "joined" = some dJoined) (hF : gl.gl "FOUND" = some (.str "found")) (hS : gl.gl "SAME" = some (.tup [.str "found", .int 0])) (k : Nat) (ms : List Mp) {b : Int} {D : PD} {G : PH} (hb : 0 < b) (q : D.rt (Mp.comp ms b).pv G) :
    wSs (Fv.run Γ gl (k + 2)) bComposed D [some (.int b), some (.tup (ms.map Mp.pv)), none, none] G := by
  have hS2 : (Fv.run Γ gl (k + 2)).tb.gl (Str.ofString "SAME") = some (.tup [.str "found", .int 0]) := hS
  k_call_by "fv1" (true_and, bComposed, hS2)
  refine for_inv (fun xs σ G1 => ∃ (m : Mp) (r : List Mp) (x : Option PV), xs = r.map Mp.pv ∧ σ = [some (.int b), some (.tup (ms.map Mp.pv)), some m.pv, x] ∧ G1 = G ∧ r.foldl (fun m n => m.join n b) m = Mp.comp ms b) ⟨.fnd 0, ms, none, rfl, rfl, rfl, rfl⟩ (fun _ _ _ _ => kept_nil) ?_ ?_
  · rintro σ G1 ⟨m, r, x, e, rfl, rfl, h⟩
    cases r with
    | cons _ _ => cases e
    | nil =>
      k_call_by "fv1" (true_and, true_and)
      rw [← h] at q
      exact q
  · rintro x xs σ G1 R ⟨m, r, y, e, rfl, rfl, h⟩ hR
    cases r with
    | nil => cases e
    | cons n r =>
      cases e
      k_call_by "fv1" (true_and, true_and)
      exact s_joined hA hJ hF k m n hb (hR _ _ _ (Sub.refl _) ⟨_, r, _, rfl, rfl, rfl, h⟩)
theorem s_composed (hA : Γ "apply" = some dApply) (hJ : Γ "joined" = some dJoined) (hC : Γ "composed" = some dComposed) (hF : gl.gl "FOUND" = some (.str "found")) (hS : gl.gl "SAME" = some (.tup [.str "found", .int 0])) (k : Nat) (ms : List Mp) {b : Int} {G : PH} {Q : VP} {P : Fv.PC} (hb : 0 < b) (hl : ms.length ≤ 1000) (q : Q (Mp.comp ms b).pv G) :
    (Fv.run Γ gl (k + 3)).fn "composed" (ms.map Mp.pv) [("base", .int b)] G Q P :=
  run_call hC (args_composed (by simpa using hl)) (b_composed hA hJ hF hS k ms hb ⟨_, Sub.refl _, q⟩)
theorem s_composed3 (hA : Γ "apply" = some dApply) (hJ : Γ "joined" = some dJoined) (hC : Γ "composed" = some dComposed) (hF : gl.gl "FOUND" = some (.str "found")) (hS : gl.gl "SAME" = some (.tup [.str "found", .int 0])) (k : Nat) (ms : List Mp) {G : PH} {Q : VP} {P : Fv.PC} (hl : ms.length ≤ 1000) (q : Q (Mp.comp ms 3).pv G) :
    (Fv.run Γ gl (k + 3)).fn "composed" (ms.map Mp.pv) [] G Q P :=
  run_call hC (args_composed3 (by simpa using hl)) (b_composed hA hJ hF hS k ms (by omega) ⟨_, Sub.refl _, q⟩)
theorem sub_np {G : PH} {a p : Addr} {o1 o2 l : PO} (h : pu G a o1 p = none) : Sub (pu G a o2) (pu (pu (pu G a o1) p l) a o2) := fun b u e => by
  have hp : p ≠ a := by rintro rfl; rw [pu_same] at h; cases h
  rw [pu_ne hp] at h
  by_cases hb : b = a
  · subst hb; rw [pu_same] at e ⊢; exact e
  · rw [pu_ne hb] at e
    rw [pu_ne hb, pu_ne (by rintro rfl; rw [h] at e; cases e), pu_ne hb]; exact e
theorem s_map (hT : Γ "_law_take" = some dTake) (hM : Γ "_law_map" = some dLMap) (k : Nat) {G : PH} {a : Addr} {o : PO} {c b : Int} {Q : VP} {P : Fv.PC} (h : G a = some o) (bg : BagO o c) (hc : c < 100000000000) (hb : 0 < b) (hb2 : b < 2 ^ 30)
    (q : ∀ (m : Mp) o2, m.ok b → BagO o2 (c + 2) → Q m.pv (pu G a o2)) : (Fv.run Γ gl (k + 2)).fn "_law_map" [.ref a, .int b] [] G Q P := by
  refine run_call hM (d := dLMap) rfl ?_
  show wSs _ bLMap _ [some (.ref a), some (.int b), none] G
  k_call_by "fv1" (true_and, bLMap)
  refine s_take hT k h bg (by omega) hb hb2 fun r o2 r0 r1 bg2 => ?_
  refine ⟨by decide, by decide, fun p hp => ?_⟩
  have hpa : a ≠ p := by rintro rfl; rw [pu_same] at hp; cases hp
  refine s_take hT k (o := o2) (by rw [pu_ne hpa, pu_same]) bg2 (by omega) (by omega) (by omega) fun t o3 t0 t1 bg3 => ?_
  have hq : pu (pu (pu G a o2) p (.lst [.int r, .tup [.str "found", .int r]])) a o3 p = some (.lst [.int r, .tup [.str "found", .int r]]) := by rw [pu_ne hpa.symm, pu_same]
  have ht : t = 0 ∨ t = 1 := by omega
  rcases ht with rfl | rfl
  · k_call_by "fv1" (true_and, hq)
    exact ⟨_, sub_np hp, q (.num r) o3 ⟨r0, r1⟩ (bg3.mono (by omega))⟩
  · k_call_by "fv1" (true_and, hq)
    exact ⟨_, sub_np hp, q (.fnd r) o3 ⟨r0, r1⟩ (bg3.mono (by omega))⟩
theorem s_ljoined (hJ : Γ "_law_joined" = some dLJoined) (k : Nat) (ms : List Mp) {b : Int} {G : PH} {a : Addr} {Q : VP} {P : Fv.PC} (h : G a = some (.lst (ms.map Mp.pv))) (hb : 0 < b) (q : Q (Mp.comp ms b).pv G) :
    (Fv.run Γ gl (k + 1)).fn "_law_joined" [.ref a, .int b] [] G Q P := by
  refine run_call hJ (d := dLJoined) rfl ?_
  show wSs _ bLJoined _ [some (.ref a), some (.int b), none, none] G
  k_call_by "fv1" (true_and, bLJoined, h)
  refine ⟨by decide, ?_⟩
  refine for_inv (fun xs σ G1 => ∃ (m : Mp) (r : List Mp) (x : Option PV), xs = r.map Mp.pv ∧ σ = [some (.ref a), some (.int b), some m.pv, x] ∧ G1 = G ∧ r.foldl (fun m n => m.join n b) m = Mp.comp ms b) ⟨.fnd 0, ms, none, rfl, rfl, rfl, rfl⟩ (fun _ _ _ ⟨_, _, _, _, _, e, _⟩ => by subst e; exact kept_one h) ?_ ?_
  · rintro σ G1 ⟨m, r, x, e, rfl, rfl, h⟩
    cases r with
    | cons _ _ => cases e
    | nil =>
      k_call_by "fv1" (true_and, true_and)
      rw [← h] at q
      exact ⟨_, Sub.refl _, q⟩
  · rintro x xs σ G1 R ⟨m, r, y, e, rfl, rfl, h⟩ hR
    cases r with
    | nil => cases e
    | cons n r =>
      cases e
      cases n with
      | num i =>
        k_call_by "fv1" (true_and, Mp.pv)
        exact hR _ _ _ (Sub.refl _) ⟨.num i, r, _, rfl, rfl, rfl, h⟩
      | fnd i =>
        cases m with
        | num j =>
          k_call_by "fv1" (true_and, Mp.pv)
          exact ⟨hb, hR _ _ _ (Sub.refl _) ⟨.num ((j + i) % b), r, _, rfl, rfl, rfl, h⟩⟩
        | fnd j =>
          k_call_by "fv1" (true_and, Mp.pv)
          exact ⟨hb, by decide, hR _ _ _ (Sub.refl _) ⟨.fnd ((j + i) % b), r, _, rfl, rfl, rfl, h⟩⟩
end
end Fv

set_option Elab.async false
set_option linter.all false
set_option maxRecDepth 100000
set_option maxHeartbeats 2000000
namespace Fv
open PySem L2
def bP_is_whole : Ss := .cons (.ret (.and (.isi (.var 0) "int") (.no (.isi (.var 0) "bool")))) .nil
def dP_is_whole : FDef := { pos := ["thing"], ko := [], va := none, N := ["thing"], body := bP_is_whole, dfl := [], kdf := [] }
def bP_is_number : Ss := .cons (.ret (.and (.call "is_whole" (.one (.var 0) (.nil)) [] (.nil)) (.chain .LtE .Lt (.cst (.int 0)) (.var 0) (.var 1)))) .nil
def dP_is_number : FDef := { pos := ["thing", "base"], ko := [], va := none, N := ["thing", "base"], body := bP_is_number, dfl := [], kdf := [] }
def bP_is_name : Ss := .cons (.ret (.and (.isi (.var 0) "str") (.and (.chain .LtE .LtE (.cst (.int 1)) (.blt .len (.one (.var 0) (.nil))) (.glob "MOST_LETTERS")) (.blt .all (.one (.lc (.cmp .In (.var 1) (.glob "LETTERS")) (.name 1) (.gen (.var 0)) (.nil) [("sign", 1)]) (.nil)))))) .nil
def dP_is_name : FDef := { pos := ["thing"], ko := [], va := none, N := ["thing", "sign"], body := bP_is_name, dfl := [], kdf := [] }
def bP_is_map_1 : Ss := .cons (.ret (.and (.cmp .Eq (.blt .len (.one (.var 0) (.nil))) (.cst (.int 2))) (.and (.isi (.idx (.var 0) (.cst (.int 0))) "str") (.and (.cmp .Eq (.idx (.var 0) (.cst (.int 0))) (.glob "FOUND")) (.call "is_number" (.one (.idx (.var 0) (.cst (.int 1))) (.one (.var 1) (.nil))) [] (.nil)))))) .nil
def bP_is_map : Ss := .cons (.ifs (.not (.e (.isi (.var 0) "tuple"))) (.cons (.ret (.call "is_number" (.one (.var 0) (.one (.var 1) (.nil))) [] (.nil)))
    (.nil)) (.nil)) bP_is_map_1
def dP_is_map : FDef := { pos := ["thing", "base"], ko := [], va := none, N := ["thing", "base"], body := bP_is_map, dfl := [], kdf := [] }
def bP_Nest___init___4 : Ss := .cons (.setf (.var 0) "is_right" (.meth (.var 0) "filled" (.nil) [] (.nil))) .nil
def bP_Nest___init___3 : Ss := .cons (.setf (.var 0) "finals" (.dct0)) bP_Nest___init___4
def bP_Nest___init___2 : Ss := .cons (.setf (.var 0) "ends" (.dct0)) bP_Nest___init___3
def bP_Nest___init___1 : Ss := .cons (.setf (.var 0) "blocks" (.lst (.nil))) bP_Nest___init___2
def bP_Nest___init__ : Ss := .cons (.setf (.var 0) "rows" (.var 1)) bP_Nest___init___1
def dP_Nest___init__ : FDef := { pos := ["self", "rows"], ko := [], va := none, N := ["self", "rows"], body := bP_Nest___init__, dfl := [], kdf := [] }
def bP_Nest_filled_f1_2 : Ss := .cons (.ifs (.cmp .Gt (.blt .len (.one (.var 1) (.nil))) (.glob "MOST_DEPTH")) (.cons (.ret (.cst (.bl false)))
    (.nil)) (.nil)) .nil
def bP_Nest_filled_f1_1 : Ss := .cons (.ifs (.cmp .In (.var 3) (.glob "BEGINNINGS")) (.cons (.expr (.app (.var 1) (.var 2)))
    (.nil)) (.cons (.ifs (.cmp .Eq (.var 3) (.cst (.str "finally"))) (.cons (.ifs (.or (.cmp .Eq (.var 1) (.lst (.nil))) (.not (.e (.meth (.var 0) "takes_finally" (.one (.idx (.var 1) (.neg (.cst (.int 1)))) (.nil)) [] (.nil))))) (.cons (.ret (.cst (.bl false)))
    (.nil)) (.nil))
    (.cons (.asg (.sub (.fld (.var 0) "finals") (.idx (.var 1) (.neg (.cst (.int 1))))) (.var 2))
    (.nil))) (.cons (.ifs (.cmp .Eq (.var 3) (.cst (.str "done"))) (.cons (.ifs (.or (.cmp .Eq (.var 1) (.lst (.nil))) (.e (.meth (.var 0) "takes_finally" (.one (.idx (.var 1) (.neg (.cst (.int 1)))) (.nil)) [] (.nil)))) (.cons (.ret (.cst (.bl false)))
    (.nil)) (.nil))
    (.cons (.asg (.sub (.fld (.var 0) "ends") (.popl (.var 1))) (.var 2))
    (.nil))) (.nil))
    (.nil)))
    (.nil))) bP_Nest_filled_f1_2
def bP_Nest_filled_f1 : Ss := .cons (.expr (.app (.fld (.var 0) "blocks") (.blt .tuple (.one (.var 1) (.nil))))) bP_Nest_filled_f1_1
def bP_Nest_filled_2 : Ss := .cons (.ret (.cmp .Eq (.var 1) (.lst (.nil)))) .nil
def bP_Nest_filled_1 : Ss := .cons (.for_ (.tup (.cons (.name 2) (.cons (.head (.cons (.name 3) (.cons (.name 4) .nil))) (.nil)))) (.enum (.fld (.var 0) "rows")) bP_Nest_filled_f1) bP_Nest_filled_2
def bP_Nest_filled : Ss := .cons (.asg (.name 1) (.lst (.nil))) bP_Nest_filled_1
def dP_Nest_filled : FDef := { pos := ["self"], ko := [], va := none, N := ["self", "begun", "row", "word", "items"], body := bP_Nest_filled, dfl := [], kdf := [] }
def bP_Nest_takes_finally : Ss := .cons (.ret (.and (.cmp .Eq (.idx (.idx (.fld (.var 0) "rows") (.var 1)) (.cst (.int 0))) (.cst (.str "try"))) (.cmp .NotIn (.var 1) (.fld (.var 0) "finals")))) .nil
def dP_Nest_takes_finally : FDef := { pos := ["self", "begin"], ko := [], va := none, N := ["self", "begin"], body := bP_Nest_takes_finally, dfl := [], kdf := [] }
def bP_Nest_is_second : Ss := .cons (.ret (.and (.cmp .In (.var 2) (.fld (.var 0) "finals")) (.cmp .Gt (.var 1) (.idx (.fld (.var 0) "finals") (.var 2))))) .nil
def dP_Nest_is_second : FDef := { pos := ["self", "row", "begin"], ko := [], va := none, N := ["self", "row", "begin"], body := bP_Nest_is_second, dfl := [], kdf := [] }
def bP_Nest_place_1 : Ss := .cons (.ret (.lc (.tup (.one (.var 2) (.one (.meth (.var 0) "is_second" (.one (.var 1) (.one (.var 2) (.nil))) [] (.nil)) (.nil)))) (.name 2) (.gen (.idx (.fld (.var 0) "blocks") (.var 1))) (.nil) [("begin", 2)])) .nil
def bP_Nest_place : Ss := .cons (.ifs (.cmp .Eq (.var 1) (.blt .len (.one (.fld (.var 0) "rows") (.nil)))) (.cons (.ret (.lst (.nil)))
    (.nil)) (.nil)) bP_Nest_place_1
def dP_Nest_place : FDef := { pos := ["self", "row"], ko := [], va := none, N := ["self", "row", "begin"], body := bP_Nest_place, dfl := [], kdf := [] }
def bP_following_1 : Ss := .cons (.mat (.var 2) (.str "end" (.cons (.ret (.lst (.nil)))
    (.nil)) (.str "go" (.cons (.ret (.var 3))
    (.nil)) (.str "stop" (.cons (.ret (.lst (.one (.bin .Add (.var 1) (.cst (.int 1))) (.star (.var 3) (.nil)))))
    (.nil)) (.any (.cons (.ret (.lst (.one (.bin .Add (.var 1) (.cst (.int 1))) (.nil))))
    (.nil))))))) .nil
def bP_following : Ss := .cons (.asg (.head (.cons (.name 2) (.cons (.name 3) .nil))) (.idx (.var 0) (.var 1))) bP_following_1
def dP_following : FDef := { pos := ["rows", "row"], ko := [], va := none, N := ["rows", "row", "word", "goals"], body := bP_following, dfl := [], kdf := [] }
def bP_is_item : Ss := .cons (.mat (.var 0) (.str "N" (.cons (.ret (.call "is_name" (.one (.var 1) (.nil)) [] (.nil)))
    (.nil)) (.str "M" (.cons (.ret (.call "is_map" (.one (.var 1) (.one (.var 2) (.nil))) [] (.nil)))
    (.nil)) (.any (.cons (.ret (.and (.call "is_whole" (.one (.var 1) (.nil)) [] (.nil)) (.cmp .GtE (.var 1) (.cst (.int 0)))))
    (.nil)))))) .nil
def dP_is_item : FDef := { pos := ["letter", "thing", "base"], ko := [], va := none, N := ["letter", "thing", "base"], body := bP_is_item, dfl := [], kdf := [] }
def bP_form_of_f1 : Ss := .cons (.ifs (.cmp .Eq (.blt .len (.one (.var 2) (.nil))) (.var 1)) (.cons (.ret (.var 2))
    (.nil)) (.nil)) .nil
def bP_form_of_1 : Ss := .cons (.ret (.cst .non)) .nil
def bP_form_of : Ss := .cons (.for_ (.name 2) (.gen (.get (.glob "FORMS") (.var 0) (.tup (.nil)))) bP_form_of_f1) bP_form_of_1
def dP_form_of : FDef := { pos := ["word", "many"], ko := [], va := none, N := ["word", "many", "form"], body := bP_form_of, dfl := [], kdf := [] }
def bP_is_row_3 : Ss := .cons (.ret (.and (.cmp .IsNot (.var 4) (.cst .non)) (.blt .all (.one (.lc (.call "is_item" (.one (.var 6) (.one (.var 5) (.one (.var 1) (.nil)))) [] (.nil)) (.tup (.cons (.name 6) (.cons (.name 5) (.nil)))) (.zip true (.var 4) (.var 3)) (.nil) [("item", 5), ("letter", 6)]) (.nil))))) .nil
def bP_is_row_2 : Ss := .cons (.asg (.name 4) (.call "form_of" (.one (.var 2) (.one (.blt .len (.one (.var 3) (.nil))) (.nil))) [] (.nil))) bP_is_row_3
def bP_is_row_1 : Ss := .cons (.asg (.head (.cons (.name 2) (.cons (.name 3) .nil))) (.var 0)) bP_is_row_2
def bP_is_row : Ss := .cons (.ifs (.or (.not (.e (.isi (.var 0) "tuple"))) (.or (.cmp .Eq (.var 0) (.tup (.nil))) (.not (.e (.isi (.idx (.var 0) (.cst (.int 0))) "str"))))) (.cons (.ret (.cst (.bl false)))
    (.nil)) (.nil)) bP_is_row_1
def dP_is_row : FDef := { pos := ["thing", "base"], ko := [], va := none, N := ["thing", "base", "word", "items", "form", "item", "letter"], body := bP_is_row, dfl := [], kdf := [] }
def bP_has_circle_f2_2 : Ss := .cons (.ifs (.cmp .Eq (.var 2) (.var 1)) (.cons (.ret (.cst (.bl true)))
    (.nil)) (.nil)) .nil
def bP_has_circle_f2_1 : Ss := .cons (.asg (.name 2) (.idx (.call "following" (.one (.var 0) (.one (.var 2) (.nil))) [] (.nil)) (.cst (.int 0)))) bP_has_circle_f2_2
def bP_has_circle_f2 : Ss := .cons (.ifs (.or (.cmp .Eq (.var 2) (.blt .len (.one (.var 0) (.nil)))) (.cmp .In (.idx (.idx (.var 0) (.var 2)) (.cst (.int 0))) (.tup (.one (.cst (.str "stop")) (.one (.cst (.str "end")) (.nil)))))) (.cons (.brk)
    (.nil)) (.nil)) bP_has_circle_f2_1
def bP_has_circle_f1_1 : Ss := .cons (.for_ (.name 3) (.rng (.blt .len (.one (.var 0) (.nil)))) bP_has_circle_f2) .nil
def bP_has_circle_f1 : Ss := .cons (.asg (.name 2) (.var 1)) bP_has_circle_f1_1
def bP_has_circle_1 : Ss := .cons (.ret (.cst (.bl false))) .nil
def bP_has_circle : Ss := .cons (.for_ (.name 1) (.rng (.blt .len (.one (.var 0) (.nil)))) bP_has_circle_f1) bP_has_circle_1
def dP_has_circle : FDef := { pos := ["rows"], ko := [], va := none, N := ["rows", "start", "row", "turn"], body := bP_has_circle, dfl := [], kdf := [] }
def bP_has_right_goals_f1 : Ss := .cons (.ifs (.cmp .In (.var 2) (.glob "RESTLESS")) (.cons (.asg (.name 4) (.meth (.var 0) "place" (.one (.var 1) (.nil)) [] (.nil)))
    (.cons (.ifs (.e (.blt .any (.one (.lc (.var 6) (.tup (.cons (.name 5) (.cons (.name 6) (.nil)))) (.gen (.var 4)) (.nil) [("begin", 5), ("is_second", 6)]) (.nil)))) (.cons (.ret (.cst (.bl false)))
    (.nil)) (.nil))
    (.cons (.ifs (.e (.blt .any (.one (.lc (.or (.cmp .Gt (.var 7) (.blt .len (.one (.fld (.var 0) "rows") (.nil)))) (.cmp .NotEq (.meth (.var 0) "place" (.one (.var 7) (.nil)) [] (.nil)) (.var 4))) (.name 7) (.gen (.var 3)) (.nil) [("goal", 7)]) (.nil)))) (.cons (.ret (.cst (.bl false)))
    (.nil)) (.nil))
    (.nil)))) (.nil)) .nil
def bP_has_right_goals_1 : Ss := .cons (.ret (.cst (.bl true))) .nil
def bP_has_right_goals : Ss := .cons (.for_ (.tup (.cons (.name 1) (.cons (.head (.cons (.name 2) (.cons (.name 3) .nil))) (.nil)))) (.enum (.fld (.var 0) "rows")) bP_has_right_goals_f1) bP_has_right_goals_1
def dP_has_right_goals : FDef := { pos := ["nest"], ko := [], va := none, N := ["nest", "row", "word", "goals", "place", "begin", "is_second", "goal"], body := bP_has_right_goals, dfl := [], kdf := [] }
def bP_are_text_1 : Ss := .cons (.ret (.and (.cmp .LtE (.blt .len (.one (.var 0) (.nil))) (.glob "MOST_ROWS")) (.and (.fld (.var 1) "is_right") (.and (.call "has_right_goals" (.one (.var 1) (.nil)) [] (.nil)) (.no (.call "has_circle" (.one (.var 0) (.nil)) [] (.nil))))))) .nil
def bP_are_text : Ss := .cons (.asg (.name 1) (.new "Nest" (.one (.var 0) (.nil)) [] (.nil))) bP_are_text_1
def dP_are_text : FDef := { pos := ["rows"], ko := [], va := none, N := ["rows", "nest"], body := bP_are_text, dfl := [], kdf := [] }
def bP_is_text : Ss := .cons (.ret (.and (.isi (.var 0) "tuple") (.and (.blt .all (.one (.lc (.call "is_row" (.one (.var 2) (.one (.var 1) (.nil))) [] (.nil)) (.name 2) (.gen (.var 0)) (.nil) [("row", 2)]) (.nil))) (.call "are_text" (.one (.var 0) (.nil)) [] (.nil))))) .nil
def dP_is_text : FDef := { pos := ["thing"], ko := ["base"], va := none, N := ["thing", "base", "row"], body := bP_is_text, dfl := [], kdf := [("base", .int (3))] }
def bQ_f_law_bag_2 : Ss := .cons (.ret (.lst (.one (.var 3) (.one (.bin .Mod (.bin .Mult (.bin .Add (.bin .Add (.bin .Mod (.var 2) (.cst (.int 2305843009213693951))) (.bin .Mult (.cst (.int 7919)) (.var 1))) (.cst (.int 3))) (.cst (.int 6700417))) (.cst (.int 2305843009213693951))) (.one (.cst (.int 0)) (.nil)))))) .nil
def bQ_f_law_bag_1 : Ss := .cons (.asg (.name 3) (.ite (.cmp .GtE (.blt .abs (.one (.var 2) (.nil))) (.bin .Pow (.cst (.int 10)) (.cst (.int 18)))) (.blt .abs (.one (.var 2) (.nil))) (.cst (.int 0)))) bQ_f_law_bag_2
def bQ_f_law_bag : Ss := .cons (.asg (.name 2) (.ite (.cmp .Lt (.var 1) (.blt .len (.one (.var 0) (.nil)))) (.idx (.var 0) (.var 1)) (.cst (.int 0)))) bQ_f_law_bag_1
def dQ_f_law_bag : FDef := { pos := ["_law_script", "_law_at"], ko := [], va := none, N := ["_law_script", "_law_at", "_law_cell", "_law_digits"], body := bQ_f_law_bag, dfl := [], kdf := [] }
def bQ_f_law_take_4 : Ss := .cons (.ret (.bin .Mod (.bin .FloorDiv (.var 3) (.cst (.int 1024))) (.var 1))) .nil
def bQ_f_law_take_3 : Ss := .cons (.asg (.name 3) (.bin .Mod (.bin .Pow (.bin .Add (.var 3) (.bin .Mult (.cst (.int 15485863)) (.idx (.var 0) (.cst (.int 2))))) (.cst (.int 2))) (.cst (.int 2305843009213693951)))) bQ_f_law_take_4
def bQ_f_law_take_2 : Ss := .cons (.asg (.name 3) (.bin .Mod (.bin .Pow (.bin .Add (.idx (.var 0) (.cst (.int 1))) (.bin .Mult (.cst (.int 1000003)) (.idx (.var 0) (.cst (.int 2))))) (.cst (.int 3))) (.cst (.int 2305843009213693921)))) bQ_f_law_take_3
def bQ_f_law_take_1 : Ss := .cons (.asg (.sub (.var 0) (.cst (.int 2))) (.bin .Add (.idx (.var 0) (.cst (.int 2))) (.cst (.int 1)))) bQ_f_law_take_2
def bQ_f_law_take : Ss := .cons (.ifs (.cmp .Gt (.idx (.var 0) (.cst (.int 0))) (.cst (.int 0))) (.cons (.asg (.name 2) (.bin .Mod (.idx (.var 0) (.cst (.int 0))) (.var 1)))
    (.cons (.asg (.sub (.var 0) (.cst (.int 0))) (.bin .FloorDiv (.idx (.var 0) (.cst (.int 0))) (.var 1)))
    (.cons (.ret (.var 2))
    (.nil)))) (.nil)) bQ_f_law_take_1
def dQ_f_law_take : FDef := { pos := ["_law_bag_here", "_law_many"], ko := [], va := none, N := ["_law_bag_here", "_law_many", "_law_digit", "_law_mixed"], body := bQ_f_law_take, dfl := [], kdf := [] }
def bQ_f_law_map_1 : Ss := .cons (.ret (.idx (.lst (.one (.var 2) (.one (.tup (.one (.cst (.str "found")) (.one (.var 2) (.nil)))) (.nil)))) (.call "_law_take" (.one (.var 0) (.one (.cst (.int 2)) (.nil))) [] (.nil)))) .nil
def bQ_f_law_map : Ss := .cons (.asg (.name 2) (.call "_law_take" (.one (.var 0) (.one (.var 1) (.nil))) [] (.nil))) bQ_f_law_map_1
def dQ_f_law_map : FDef := { pos := ["_law_bag_here", "_law_radix"], ko := [], va := none, N := ["_law_bag_here", "_law_radix", "_law_number"], body := bQ_f_law_map, dfl := [], kdf := [] }
def bQ_f_law_plain_3 : Ss := .cons (.ret (.idx (.bin .Add (.var 5) (.lst (.one (.tup (.one (.cst (.str "stop")) (.nil))) (.one (.tup (.one (.cst (.str "stop")) (.one (.cst .non) (.nil)))) (.one (.tup (.one (.cst (.str "end")) (.nil))) (.nil)))))) (.var 4))) .nil
def bQ_f_law_plain_2 : Ss := .cons (.asg (.name 5) (.lst (.one (.tup (.one (.cst (.str "read")) (.one (.var 3) (.nil)))) (.one (.tup (.one (.cst (.str "stop")) (.nil))) (.one (.tup (.one (.cst (.str "read")) (.one (.var 3) (.nil)))) (.one (.tup (.one (.cst (.str "stop")) (.nil))) (.one (.tup (.one (.cst (.str "stop")) (.one (.cst .non) (.nil)))) (.one (.tup (.one (.cst (.str "go")) (.one (.cst .non) (.nil)))) (.one (.tup (.one (.cst (.str "read")) (.one (.var 3) (.nil)))) (.nil)))))))))) bQ_f_law_plain_3
def bQ_f_law_plain_1 : Ss := .cons (.ifs (.e (.var 2)) (.cons (.ret (.tup (.one (.cst (.str "read")) (.one (.var 3) (.nil)))))
    (.nil)) (.nil)) bQ_f_law_plain_2
def bQ_f_law_plain : Ss := .cons (.par [3, 4] (.one (.idx (.var 1) (.call "_law_take" (.one (.var 0) (.one (.blt .len (.one (.var 1) (.nil))) (.nil))) [] (.nil))) (.one (.call "_law_take" (.one (.var 0) (.one (.cst (.int 10)) (.nil))) [] (.nil)) (.nil)))) bQ_f_law_plain_1
def dQ_f_law_plain : FDef := { pos := ["_law_bag_here", "_law_names_here", "_law_is_second"], ko := [], va := none, N := ["_law_bag_here", "_law_names_here", "_law_is_second", "_law_name", "_law_kind", "_law_some"], body := bQ_f_law_plain, dfl := [], kdf := [] }
def bQ_f_law_rows_f1_1 : Ss := .cons (.ifs (.and (.cmp .Lt (.var 8) (.cst (.int 4))) (.and (.cmp .Gt (.var 3) (.cst (.int 0))) (.cmp .Gt (.idx (.var 5) (.cst (.int 0))) (.cst (.int 2))))) (.cons (.asg (.sub (.var 5) (.cst (.int 0))) (.bin .Sub (.idx (.var 5) (.cst (.int 0))) (.cst (.int 3))))
    (.cons (.par [9, 10] (.one (.idx (.var 2) (.call "_law_take" (.one (.var 0) (.one (.blt .len (.one (.var 2) (.nil))) (.nil))) [] (.nil))) (.one (.call "_law_map" (.one (.var 0) (.one (.var 1) (.nil))) [] (.nil)) (.nil))))
    (.cons (.asg (.name 11) (.call "_law_rows" (.one (.var 0) (.one (.var 1) (.one (.var 2) (.one (.bin .Sub (.var 3) (.cst (.int 1))) (.one (.var 4) (.one (.var 5) (.nil))))))) [] (.nil)))
    (.cons (.par [12, 13] (.one (.tup (.one (.cst (.str "with")) (.one (.var 9) (.one (.var 10) (.nil))))) (.one (.lst (.nil)) (.nil))))
    (.cons (.ifs (.cmp .Eq (.var 8) (.cst (.int 3))) (.cons (.par [12, 13] (.one (.tup (.one (.cst (.str "try")) (.nil))) (.one (.bin .Add (.lst (.one (.tup (.one (.cst (.str "finally")) (.nil))) (.nil))) (.call "_law_rows" (.one (.var 0) (.one (.var 1) (.one (.var 2) (.one (.bin .Sub (.var 3) (.cst (.int 1))) (.one (.cst (.bl true)) (.one (.var 5) (.nil))))))) [] (.nil))) (.nil))))
    (.nil)) (.nil))
    (.cons (.asg (.name 6) (.bin .Add (.bin .Add (.bin .Add (.bin .Add (.var 6) (.lst (.one (.var 12) (.nil)))) (.var 11)) (.var 13)) (.lst (.one (.tup (.one (.cst (.str "done")) (.nil))) (.nil)))))
    (.nil))))))) (.cons (.ifs (.cmp .Gt (.idx (.var 5) (.cst (.int 0))) (.cst (.int 0))) (.cons (.asg (.sub (.var 5) (.cst (.int 0))) (.bin .Sub (.idx (.var 5) (.cst (.int 0))) (.cst (.int 1))))
    (.cons (.expr (.app (.var 6) (.call "_law_plain" (.one (.var 0) (.one (.var 2) (.one (.var 4) (.nil)))) [] (.nil))))
    (.nil))) (.nil))
    (.nil))) .nil
def bQ_f_law_rows_f1 : Ss := .cons (.asg (.name 8) (.call "_law_take" (.one (.var 0) (.one (.cst (.int 8)) (.nil))) [] (.nil))) bQ_f_law_rows_f1_1
def bQ_f_law_rows_2 : Ss := .cons (.ret (.var 6)) .nil
def bQ_f_law_rows_1 : Ss := .cons (.for_ (.name 7) (.rng (.bin .Add (.cst (.int 1)) (.call "_law_take" (.one (.var 0) (.one (.cst (.int 4)) (.nil))) [] (.nil)))) bQ_f_law_rows_f1) bQ_f_law_rows_2
def bQ_f_law_rows : Ss := .cons (.asg (.name 6) (.lst (.nil))) bQ_f_law_rows_1
def dQ_f_law_rows : FDef := { pos := ["_law_bag_here", "_law_radix", "_law_names_here", "_law_deep", "_law_is_second", "_law_room"], ko := [], va := none, N := ["_law_bag_here", "_law_radix", "_law_names_here", "_law_deep", "_law_is_second", "_law_room", "_law_rows_here", "_law_turn", "_law_kind", "_law_name", "_law_mapping", "_law_inner", "_law_begin", "_law_middle"], body := bQ_f_law_rows, dfl := [], kdf := [] }
def bQ_f_law_places_f1_1 : Ss := .cons (.ifs (.cmp .In (.idx (.idx (.var 0) (.var 3)) (.cst (.int 0))) (.tup (.one (.cst (.str "with")) (.one (.cst (.str "try")) (.nil))))) (.cons (.asg (.name 1) (.bin .Add (.var 1) (.lst (.one (.tup (.one (.var 3) (.one (.cst (.bl false)) (.nil)))) (.nil)))))
    (.nil)) (.cons (.ifs (.cmp .Eq (.idx (.idx (.var 0) (.var 3)) (.cst (.int 0))) (.cst (.str "finally"))) (.cons (.asg (.name 1) (.bin .Add (.sl (.var 1) (.none) (.some (.neg (.cst (.int 1))))) (.lst (.one (.tup (.one (.idx (.idx (.var 1) (.neg (.cst (.int 1)))) (.cst (.int 0))) (.one (.cst (.bl true)) (.nil)))) (.nil)))))
    (.nil)) (.cons (.ifs (.cmp .Eq (.idx (.idx (.var 0) (.var 3)) (.cst (.int 0))) (.cst (.str "done"))) (.cons (.asg (.name 1) (.sl (.var 1) (.none) (.some (.neg (.cst (.int 1))))))
    (.nil)) (.nil))
    (.nil)))
    (.nil))) .nil
def bQ_f_law_places_f1 : Ss := .cons (.expr (.app (.var 2) (.blt .list (.one (.var 1) (.nil))))) bQ_f_law_places_f1_1
def bQ_f_law_places_2 : Ss := .cons (.ret (.bin .Add (.var 2) (.lst (.one (.lst (.nil)) (.nil))))) .nil
def bQ_f_law_places_1 : Ss := .cons (.for_ (.name 3) (.rng (.blt .len (.one (.var 0) (.nil)))) bQ_f_law_places_f1) bQ_f_law_places_2
def bQ_f_law_places : Ss := .cons (.par [1, 2] (.one (.lst (.nil)) (.one (.lst (.nil)) (.nil)))) bQ_f_law_places_1
def dQ_f_law_places : FDef := { pos := ["_law_rows_here"], ko := [], va := none, N := ["_law_rows_here", "_law_begun", "_law_found", "_law_k"], body := bQ_f_law_places, dfl := [], kdf := [] }
def bQ_f_law_circles_f1_2 : Ss := .cons (.ifs (.cmp .Eq (.var 2) (.var 1)) (.cons (.ret (.cst (.bl true)))
    (.nil)) (.nil)) .nil
def bQ_f_law_circles_f1_1 : Ss := .cons (.asg (.name 2) (.ite (.cmp .Eq (.idx (.idx (.var 0) (.var 2)) (.cst (.int 0))) (.cst (.str "go"))) (.idx (.idx (.var 0) (.var 2)) (.cst (.int 1))) (.bin .Add (.var 2) (.cst (.int 1))))) bQ_f_law_circles_f1_2
def bQ_f_law_circles_f1 : Ss := .cons (.ifs (.or (.cmp .GtE (.var 2) (.blt .len (.one (.var 0) (.nil)))) (.cmp .In (.idx (.idx (.var 0) (.var 2)) (.cst (.int 0))) (.tup (.one (.cst (.str "stop")) (.one (.cst (.str "end")) (.nil)))))) (.cons (.ret (.cst (.bl false)))
    (.nil)) (.nil)) bQ_f_law_circles_f1_1
def bQ_f_law_circles_2 : Ss := .cons (.ret (.cst (.bl false))) .nil
def bQ_f_law_circles_1 : Ss := .cons (.for_ (.name 3) (.rng (.blt .len (.one (.var 0) (.nil)))) bQ_f_law_circles_f1) bQ_f_law_circles_2
def bQ_f_law_circles : Ss := .cons (.asg (.name 2) (.var 1)) bQ_f_law_circles_1
def dQ_f_law_circles : FDef := { pos := ["_law_rows_here", "_law_start"], ko := [], va := none, N := ["_law_rows_here", "_law_start", "_law_k", "_law_turn"], body := bQ_f_law_circles, dfl := [], kdf := [] }
def bQ_f_law_text_f1 : Ss := .cons (.ifs (.cmp .Eq (.sl (.idx (.var 4) (.var 6)) (.some (.cst (.int 1))) (.none)) (.tup (.one (.cst .non) (.nil)))) (.cons (.asgL 7 (.lc (.var 8) (.name 8) (.rng (.bin .Add (.blt .len (.one (.var 4) (.nil))) (.cst (.int 1)))) (.cons (.cmp .Eq (.idx (.var 5) (.var 8)) (.idx (.var 5) (.var 6))) (.nil)) [("_law_goal", 8)]))
    (.cons (.asg (.sub (.var 4) (.var 6)) (.tup (.one (.idx (.idx (.var 4) (.var 6)) (.cst (.int 0))) (.one (.idx (.var 7) (.call "_law_take" (.one (.var 0) (.one (.blt .len (.one (.var 7) (.nil))) (.nil))) [] (.nil))) (.nil)))))
    (.nil))) (.nil)) .nil
def bQ_f_law_text_f2 : Ss := .cons (.ifs (.and (.cmp .Eq (.idx (.idx (.var 4) (.var 6)) (.cst (.int 0))) (.cst (.str "go"))) (.e (.call "_law_circles" (.one (.var 4) (.one (.var 6) (.nil))) [] (.nil)))) (.cons (.asg (.sub (.var 4) (.var 6)) (.tup (.one (.cst (.str "stop")) (.one (.idx (.idx (.var 4) (.var 6)) (.cst (.int 1))) (.nil)))))
    (.nil)) (.nil)) .nil
def bQ_f_law_text_4 : Ss := .cons (.ret (.blt .tuple (.one (.var 4) (.nil)))) .nil
def bQ_f_law_text_3 : Ss := .cons (.for_ (.name 6) (.rng (.blt .len (.one (.var 4) (.nil)))) bQ_f_law_text_f2) bQ_f_law_text_4
def bQ_f_law_text_2 : Ss := .cons (.for_ (.name 6) (.rng (.blt .len (.one (.var 4) (.nil)))) bQ_f_law_text_f1) bQ_f_law_text_3
def bQ_f_law_text_1 : Ss := .cons (.asg (.name 5) (.call "_law_places" (.one (.var 4) (.nil)) [] (.nil))) bQ_f_law_text_2
def bQ_f_law_text : Ss := .cons (.asg (.name 4) (.call "_law_rows" (.one (.var 0) (.one (.var 1) (.one (.var 2) (.one (.cst (.int 4)) (.one (.cst (.bl false)) (.one (.lst (.one (.call "_law_take" (.one (.var 0) (.one (.bin .Add (.var 3) (.cst (.int 1))) (.nil))) [] (.nil)) (.nil))) (.nil))))))) [] (.nil))) bQ_f_law_text_1
def dQ_f_law_text : FDef := { pos := ["_law_bag_here", "_law_radix", "_law_names_here", "_law_most"], ko := [], va := none, N := ["_law_bag_here", "_law_radix", "_law_names_here", "_law_most", "_law_rows_here", "_law_places_here", "_law_k", "_law_goals", "_law_goal"], body := bQ_f_law_text, dfl := [], kdf := [] }
def bQ_f_law_names_4 : Ss := .cons (.ret (.idx (.lst (.one (.var 5) (.one (.var 5) (.one (.lst (.one (.idx (.var 5) (.cst (.int 0))) (.one (.bin .Add (.idx (.var 4) (.call "_law_take" (.one (.var 0) (.one (.cst (.int 6)) (.nil))) [] (.nil))) (.cst (.str "x"))) (.nil)))) (.nil))))) (.call "_law_take" (.one (.var 0) (.one (.cst (.int 3)) (.nil))) [] (.nil)))) .nil
def bQ_f_law_names_3 : Ss := .cons (.asg (.name 5) (.lst (.one (.bin .Add (.var 2) (.idx (.var 1) (.var 3))) (.one (.bin .Add (.var 2) (.idx (.var 1) (.bin .Mod (.bin .Add (.var 3) (.cst (.int 7))) (.cst (.int 26))))) (.nil))))) bQ_f_law_names_4
def bQ_f_law_names_2 : Ss := .cons (.par [3, 4] (.one (.call "_law_take" (.one (.var 0) (.one (.cst (.int 26)) (.nil))) [] (.nil)) (.one (.lst (.one (.cst (.str "found")) (.one (.cst (.str "with")) (.one (.cst (.str "done")) (.one (.cst (.str "none")) (.one (.cst (.str "self")) (.one (.cst (.str "read")) (.nil)))))))) (.nil)))) bQ_f_law_names_3
def bQ_f_law_names_1 : Ss := .cons (.asg (.name 2) (.bm .join (.cst (.str "")) (.one (.lc (.idx (.var 1) (.call "_law_take" (.one (.var 0) (.one (.cst (.int 26)) (.nil))) [] (.nil))) (.name 6) (.rng (.call "_law_take" (.one (.var 0) (.one (.cst (.int 8)) (.nil))) [] (.nil))) (.nil) [("_law_k", 6)]) (.nil)))) bQ_f_law_names_2
def bQ_f_law_names : Ss := .cons (.asg (.name 1) (.cst (.str "abcdefghijklmnopqrstuvwxyz"))) bQ_f_law_names_1
def dQ_f_law_names : FDef := { pos := ["_law_bag_here"], ko := [], va := none, N := ["_law_bag_here", "_law_letters", "_law_stem", "_law_first", "_law_words", "_law_found", "_law_k"], body := bQ_f_law_names, dfl := [], kdf := [] }
def bQ_f_law_are_nested_f1_3 : Ss := .cons (.ifs (.cmp .Gt (.blt .len (.one (.var 1) (.nil))) (.cst (.int 5))) (.cons (.ret (.cst (.bl false)))
    (.nil)) (.nil)) .nil
def bQ_f_law_are_nested_f1_2 : Ss := .cons (.ifs (.cmp .Eq (.idx (.var 2) (.cst (.int 0))) (.cst (.str "done"))) (.cons (.ifs (.cmp .NotIn (.sl (.var 1) (.some (.neg (.cst (.int 1)))) (.none)) (.tup (.one (.lst (.one (.cst (.str "with")) (.nil))) (.one (.lst (.one (.cst (.str "finally")) (.nil))) (.nil))))) (.cons (.ret (.cst (.bl false)))
    (.nil)) (.nil))
    (.cons (.expr (.popl (.var 1)))
    (.nil))) (.nil)) bQ_f_law_are_nested_f1_3
def bQ_f_law_are_nested_f1_1 : Ss := .cons (.ifs (.cmp .Eq (.idx (.var 2) (.cst (.int 0))) (.cst (.str "finally"))) (.cons (.ifs (.cmp .NotEq (.sl (.var 1) (.some (.neg (.cst (.int 1)))) (.none)) (.lst (.one (.cst (.str "try")) (.nil)))) (.cons (.ret (.cst (.bl false)))
    (.nil)) (.nil))
    (.cons (.asg (.sub (.var 1) (.neg (.cst (.int 1)))) (.cst (.str "finally")))
    (.nil))) (.nil)) bQ_f_law_are_nested_f1_2
def bQ_f_law_are_nested_f1 : Ss := .cons (.ifs (.cmp .In (.idx (.var 2) (.cst (.int 0))) (.tup (.one (.cst (.str "with")) (.one (.cst (.str "try")) (.nil))))) (.cons (.expr (.app (.var 1) (.idx (.var 2) (.cst (.int 0)))))
    (.nil)) (.nil)) bQ_f_law_are_nested_f1_1
def bQ_f_law_are_nested_2 : Ss := .cons (.ret (.cmp .Eq (.var 1) (.lst (.nil)))) .nil
def bQ_f_law_are_nested_1 : Ss := .cons (.for_ (.name 2) (.gen (.var 0)) bQ_f_law_are_nested_f1) bQ_f_law_are_nested_2
def bQ_f_law_are_nested : Ss := .cons (.asg (.name 1) (.lst (.nil))) bQ_f_law_are_nested_1
def dQ_f_law_are_nested : FDef := { pos := ["_law_rows_here"], ko := [], va := none, N := ["_law_rows_here", "_law_begun", "_law_row"], body := bQ_f_law_are_nested, dfl := [], kdf := [] }
def bQ_f_law_are_text_f1_1 : Ss := .cons (.ifs (.e (.call "_law_circles" (.one (.var 0) (.one (.var 2) (.nil))) [] (.nil))) (.cons (.ret (.cst (.bl false)))
    (.nil)) (.nil)) .nil
def bQ_f_law_are_text_f1 : Ss := .cons (.ifs (.cmp .In (.idx (.idx (.var 0) (.var 2)) (.cst (.int 0))) (.tup (.one (.cst (.str "go")) (.one (.cst (.str "stop")) (.one (.cst (.str "end")) (.nil)))))) (.cons (.ifs (.cmp .NotEq (.lc (.cst (.int 1)) (.tup (.cons (.name 3) (.cons (.name 4) (.nil)))) (.gen (.idx (.var 1) (.var 2))) (.cons (.e (.var 4)) (.nil)) [("_law_begin", 3), ("_law_is_second", 4)]) (.lst (.nil))) (.cons (.ret (.cst (.bl false)))
    (.nil)) (.nil))
    (.cons (.ifs (.cmp .NotEq (.lc (.cst (.int 1)) (.name 5) (.gen (.sl (.idx (.var 0) (.var 2)) (.some (.cst (.int 1))) (.none))) (.cons (.or (.cmp .Gt (.var 5) (.blt .len (.one (.var 0) (.nil)))) (.cmp .NotEq (.idx (.var 1) (.var 5)) (.idx (.var 1) (.var 2)))) (.nil)) [("_law_goal", 5)]) (.lst (.nil))) (.cons (.ret (.cst (.bl false)))
    (.nil)) (.nil))
    (.nil))) (.nil)) bQ_f_law_are_text_f1_1
def bQ_f_law_are_text_3 : Ss := .cons (.ret (.cst (.bl true))) .nil
def bQ_f_law_are_text_2 : Ss := .cons (.for_ (.name 2) (.rng (.blt .len (.one (.var 0) (.nil)))) bQ_f_law_are_text_f1) bQ_f_law_are_text_3
def bQ_f_law_are_text_1 : Ss := .cons (.asg (.name 1) (.call "_law_places" (.one (.var 0) (.nil)) [] (.nil))) bQ_f_law_are_text_2
def bQ_f_law_are_text : Ss := .cons (.ifs (.or (.cmp .Gt (.blt .len (.one (.var 0) (.nil))) (.cst (.int 24))) (.not (.e (.call "_law_are_nested" (.one (.var 0) (.nil)) [] (.nil))))) (.cons (.ret (.cst (.bl false)))
    (.nil)) (.nil)) bQ_f_law_are_text_1
def dQ_f_law_are_text : FDef := { pos := ["_law_rows_here"], ko := [], va := none, N := ["_law_rows_here", "_law_places_here", "_law_k", "_law_begin", "_law_is_second", "_law_goal"], body := bQ_f_law_are_text, dfl := [], kdf := [] }
end Fv

set_option Elab.async false
set_option linter.all false
set_option maxRecDepth 100000
set_option maxHeartbeats 2000000
namespace Fv
open PySem hiding run
open L2
mutual
inductive Dt (G : PH) : PV → PyData → Prop
  | non : Dt G .non .none
  | bl (b : Bool) : Dt G (.bl b) (.bool b)
  | int (i : Int) : Dt G (.int i) (.int i)
  | str (x : Str) (h : PyData.strOk x = true) (hl : x.length ≤ 1000000) : Dt G (.str x) (.str x)
  | tup {xs : List PV} {ds : List PyData} (h : DtL G xs ds) : Dt G (.tup xs) (.tuple ds)
  | lst {a : Addr} {xs : List PV} {ds : List PyData} (e : G a = some (.lst xs)) (h : DtL G xs ds) : Dt G (.ref a) (.list ds)
inductive DtL (G : PH) : List PV → List PyData → Prop
  | nil : DtL G [] []
  | cons {x : PV} {d : PyData} {xs : List PV} {ds : List PyData} (h : Dt G x d) (t : DtL G xs ds) : DtL G (x :: xs) (d :: ds)
end
section
variable {G G2 : PH}
mutual
theorem Dt.dat : ∀ {x : PV} {d : PyData}, Dt G x d → ∀ n, d.depth ≤ n → datH G n x = d
  | _, _, .non, n, _ => by cases n <;> rfl
  | _, _, .bl _, n, _ => by cases n <;> rfl
  | _, _, .int _, n, _ => by cases n <;> rfl
  | _, _, .str _ _ _, n, _ => by cases n <;> rfl
  | _, _, .tup h, 0, e => by simp [PyData.depth] at e
  | _, _, .tup h, n + 1, e => by
    rw [datH, DtL.dat h n (by simpa [PyData.depth] using e)]
  | _, _, .lst _ h, 0, e => by simp [PyData.depth] at e
  | _, _, .lst ea h, n + 1, e => by
    rw [datH, ea]
    simp only [DtL.dat h n (by simpa [PyData.depth] using e)]
theorem DtL.dat : ∀ {xs : List PV} {ds : List PyData}, DtL G xs ds → ∀ n, PyData.depthAll ds ≤ n → xs.map (datH G n) = ds
  | _, _, .nil, _, _ => rfl
  | _, _, @DtL.cons _ x d xs ds h t, n, e => by
    have e2 : d.depth ≤ n ∧ PyData.depthAll ds ≤ n := by simpa [PyData.depthAll, Nat.max_le] using e
    rw [List.map_cons, Dt.dat h n e2.1, DtL.dat t n e2.2]
end
mutual
theorem Dt.lay : ∀ {x : PV} {d : PyData}, Dt G x d → d.canLay0 = true
  | _, _, .non => rfl
  | _, _, .bl _ => rfl
  | _, _, .int _ => rfl
  | _, _, .str _ h _ => by simpa [PyData.canLay0] using h
  | _, _, .tup h => by simpa [PyData.canLay0] using DtL.lay h
  | _, _, .lst _ h => by simpa [PyData.canLay0] using DtL.lay h
theorem DtL.lay : ∀ {xs : List PV} {ds : List PyData}, DtL G xs ds → PyData.canLayAll0 ds = true
  | _, _, .nil => rfl
  | _, _, .cons h t => by simp [PyData.canLayAll0, Dt.lay h, DtL.lay t]
end
mutual
theorem Dt.up (s : Sub G G2) : ∀ {x : PV} {d : PyData}, Dt G x d → Dt G2 x d
  | _, _, .non => .non
  | _, _, .bl b => .bl b
  | _, _, .int i => .int i
  | _, _, .str x h hl => .str x h hl
  | _, _, .tup h => .tup (DtL.up s h)
  | _, _, .lst e h => .lst (s _ _ e) (DtL.up s h)
theorem DtL.up (s : Sub G G2) : ∀ {xs : List PV} {ds : List PyData}, DtL G xs ds → DtL G2 xs ds
  | _, _, .nil => .nil
  | _, _, .cons h t => .cons (Dt.up s h) (DtL.up s t)
end
theorem Dt.shaped {x : PV} {d : PyData} (h : Dt G x d) (hd : d.depth ≤ 60) : SeqAt.shaped (datH G 60 x) = true := by
  rw [h.dat 60 hd]
  unfold SeqAt.shaped
  rw [h.lay, Bool.true_and, decide_eq_true_eq]
  omega
theorem eq_dt {x y : PV} {d e : PyData} {Q : Bool → Prop} (hx : Dt G x d) (hy : Dt G y e) (h1 : d.depth ≤ 60) (h2 : e.depth ≤ 60) (q : Q (PyData.eqv d e)) : pEq G x y Q := by
  unfold pEq
  split
  · rename_i h
    have : peq x y = PyData.eqv d e := by
      cases hx <;> cases hy <;> first | (simp [scalP] at h; done) | (unfold peq PyData.eqv; rfl)
    rw [this]; exact q
  · exact ⟨hx.shaped h1, hy.shaped h2, by rw [hx.dat 60 h1, hy.dat 60 h2]; exact q⟩
theorem feq_dt {x y : PV} {d e : PyData} (hx : Dt G x d) (hy : Dt G y e) (h1 : flatP x = true) (h2 : flatP y = true) : feq x y = PyData.eqv d e := by
  cases hx <;> cases hy <;> first | (simp [flatP] at h1; done) | (simp [flatP] at h2; done) | (unfold feq PyData.eqv; rfl)
theorem DtL.any {x : PV} {d : PyData} (hx : Dt G x d) (fx : flatP x = true) : ∀ {ys : List PV} {es : List PyData}, DtL G ys es → ys.all flatP = true → (ys.any fun y => feq y x) = es.any fun e => PyData.eqv e d
  | _, _, .nil, _ => rfl
  | _, _, .cons h t, f => by
    rw [List.all_cons, Bool.and_eq_true] at f
    rw [List.any_cons, List.any_cons, DtL.any hx fx t f.2, feq_dt h hx f.1 fx]
theorem in_dt {x c : PV} {ys : List PV} {d dc : PyData} {es : List PyData} {Q : Bool → Prop} (hx : Dt G x d) (hc : Dt G c dc) (hy : DtL G ys es) (h1 : d.depth ≤ 60) (h2 : dc.depth ≤ 60) (h3 : PyData.depthAll es ≤ 59) (q : Q (es.any fun e => PyData.eqv e d)) : pInS G x c ys Q := by
  unfold pInS
  split
  · rename_i h
    rw [Bool.and_eq_true] at h
    rw [DtL.any hx h.1 hy h.2]; exact q
  · refine ⟨hx.shaped h1, hc.shaped h2, ?_⟩
    have : (ys.any fun y => PyData.eqv (datH G 59 y) (datH G 60 x)) = es.any fun e => PyData.eqv e d := by
      rw [hx.dat 60 h1, ← hy.dat 59 h3, List.any_map]; rfl
    rw [this]; exact q
/-- data of values without addresses -/
def noRef : PV → Bool
  | .non => true
  | .bl _ => true
  | .int _ => true
  | .str x => PyData.strOk x && decide (x.length ≤ 1000000)
  | .tup xs => noRefs xs
  | _ => false
where noRefs : List PV → Bool
  | [] => true
  | x :: xs => noRef x && noRefs xs
mutual
theorem dt_of : ∀ x : PV, noRef x = true → Dt G x x.dat
  | .non, _ => .non
  | .bl b, _ => .bl b
  | .int i, _ => .int i
  | .str x, h => by
    simp only [noRef, Bool.and_eq_true, decide_eq_true_eq] at h
    exact .str x h.1 h.2
  | .tup xs, h => .tup (dts_of xs (by simpa [noRef] using h))
  | .ref _, h => by simp [noRef] at h
  | .ty _, h => by simp [noRef] at h
  | .wl _, h => by simp [noRef] at h
  | .wd _ _, h => by simp [noRef] at h
theorem dts_of : ∀ xs : List PV, noRef.noRefs xs = true → DtL G xs (dats xs)
  | [], _ => .nil
  | x :: xs, h => by
    have h2 : noRef x = true ∧ noRef.noRefs xs = true := by simpa [noRef.noRefs] using h
    exact .cons (dt_of x h2.1) (dts_of xs h2.2)
end
end
theorem lc_sub {kp : Keep} {g : TPG} {tt : TPT} {te : TPE} {σ0 : PSt} {xs : List PV} {G : PH} {Q : List PV → PH → Prop} (f : PV → Option PV) (hk : Kept kp G) (hl : xs.length ≤ sizeLine)
    (h : ∀ x ∈ xs, ∀ G1, Sub G G1 → ∀ (N : PV → PH → Prop) (M : PH → Prop), (∀ y G2, Sub G G2 → f x = some y → N y G2) → (∀ G2, Sub G G2 → f x = none → M G2) →
      g x σ0 G1 (fun σ2 G2 => tt σ2 G2 (fun b G3 => if b = true then te σ2 G3 N noX else M G3) noX) noX) (q : ∀ G2, Sub G G2 → Q (xs.filterMap f) G2) : lcL kp g tt te σ0 xs [] G Q := by
  have key : ∀ (ys acc : List PV) (G1 : PH), Sub G G1 → (∀ x ∈ ys, x ∈ xs) → acc.length + ys.length ≤ sizeLine → acc ++ ys.filterMap f = xs.filterMap f → lcL kp g tt te σ0 ys acc G1 Q := by
    intro ys
    induction ys with
    | nil => intro acc G1 s _ _ e; exact ⟨fun p hp => s _ _ (hk p hp), by rw [List.filterMap_nil, List.append_nil] at e; rw [e]; exact q _ s⟩
    | cons y ys ih =>
      intro acc G1 s hm hl e
      rw [List.length_cons] at hl
      refine ⟨fun p hp => s _ _ (hk p hp), h y (hm y List.mem_cons_self) G1 s _ _ (fun z G2 s2 ez => ⟨by omega, ih _ _ s2 (fun x hx => hm x (List.mem_cons_of_mem _ hx)) ?_ ?_⟩) fun G2 s2 ez => ih _ _ s2 (fun x hx => hm x (List.mem_cons_of_mem _ hx)) (by omega) ?_⟩
      · rw [List.length_append, List.length_singleton]; omega
      · rw [← e, List.filterMap_cons_some ez, List.append_assoc]; rfl
      · rw [← e, List.filterMap_cons_none ez]
  exact key xs [] G (Sub.refl _) (fun _ h => h) (by simpa using hl) rfl
theorem fm_all {f : PV → PV} (xs : List PV) : xs.filterMap (fun x => some (f x)) = xs.map f := by
  induction xs with
  | nil => rfl
  | cons x xs ih => rw [List.filterMap_cons_some (f := fun x => some (f x)) rfl, ih, List.map_cons]
theorem fm_all' {α β : Type} {f : α → β} (xs : List α) : xs.filterMap (fun x => some (f x)) = xs.map f := by
  induction xs with
  | nil => rfl
  | cons x xs ih => rw [List.filterMap_cons_some (f := fun x => some (f x)) rfl, ih, List.map_cons]
theorem allB_map {α : Type} (f : α → Bool) : ∀ xs : List α, allB (xs.map fun x => PV.bl (f x)) = some (xs.map f)
  | [] => rfl
  | x :: xs => by
    rw [List.map_cons, List.map_cons]
    unfold allB
    rw [allB_map f xs]
    rfl
def letters : Str := "abcdefghijklmnopqrstuvwxyz"
def letB (c : Nat) : Bool := !(Builtin.Str.occurrences letters ⟨#[c]⟩ 0 letters.length 1).isEmpty
def isWholeB : PV → Bool
  | .int _ => true
  | _ => false
def isNumB (x : PV) (b : Int) : Bool := match x with
  | .int i => decide (0 ≤ i) && decide (i < b)
  | _ => false
def isNameB : PV → Bool
  | .str z => decide (1 ≤ (z.length : Int)) && decide ((z.length : Int) ≤ 8) && z.cps.toList.all letB
  | _ => false
def isMapB (x : PV) (b : Int) : Bool := match x with
  | .tup [.str f, y] => (f == "found") && isNumB y b
  | .tup _ => false
  | x => isNumB x b
structure KindsF (Γ : Str → Option FDef) (gl : Tab) : Prop where
  whole : Γ "is_whole" = some dP_is_whole
  number : Γ "is_number" = some dP_is_number
  name_ : Γ "is_name" = some dP_is_name
  map_ : Γ "is_map" = some dP_is_map
  LETTERS : gl.gl "LETTERS" = some (.str letters)
  MOST_LETTERS : gl.gl "MOST_LETTERS" = some (.int 8)
  FOUND : gl.gl "FOUND" = some (.str "found")
section
variable {Γ : Str → Option FDef} {gl : Tab} {G : PH} {Q : VP} {P : Fv.PC} {x : PV} {d : PyData}
theorem s_is_whole (F : KindsF Γ gl) (k : Nat) (hx : Dt G x d) (q : Q (.bl (isWholeB x)) G) : (Fv.run Γ gl (k + 1)).fn "is_whole" [x] [] G Q P := by
  refine run_call F.whole (d := dP_is_whole) rfl ?_
  show wSs _ bP_is_whole _ [some x] G
  cases hx <;> k_call_by "fv2" (true_and, bP_is_whole) <;> first | exact ⟨_, Sub.refl _, q⟩ | skip
  rename_i e _
  k_call_by "fv2" (true_and, e)
  exact ⟨_, Sub.refl _, q⟩
theorem s_is_number (F : KindsF Γ gl) (k : Nat) (hx : Dt G x d) {b : Int} (q : Q (.bl (isNumB x b)) G) : (Fv.run Γ gl (k + 2)).fn "is_number" [x, .int b] [] G Q P := by
  refine run_call F.number (d := dP_is_number) rfl ?_
  show wSs _ bP_is_number _ [some x, some (.int b)] G
  k_call_by "fv2" (true_and, bP_is_number)
  refine s_is_whole F k hx ?_
  cases hx <;> k_call_by "fv2" (true_and, isWholeB) <;> first | exact ⟨_, Sub.refl _, q⟩ | skip
  rename_i i
  by_cases h0 : (0 : Int) ≤ i
  · k_call_by "fv2" (true_and, h0)
    refine ⟨_, Sub.refl _, ?_⟩
    simpa [isNumB, h0] using q
  · k_call_by "fv2" (true_and, h0)
    refine ⟨_, Sub.refl _, ?_⟩
    simpa [isNumB, h0] using q
theorem size_small {n : Nat} (h : n ≤ 1000000) : n ≤ sizeLine := by have : sizeLine = 16777216 := rfl; omega
theorem sub_pu {G1 G2 : PH} {p : Addr} {o : PO} (s : Sub G1 G2) (h : G2 p = none) : Sub G1 (pu G2 p o) := s.trans (Sub.new h)
theorem signs_len {z : Str} : (signsP z).length = z.length := by simp [signsP, Str.length]
theorem s_is_name (F : KindsF Γ gl) (k : Nat) (hx : Dt G x d) (q : Q (.bl (isNameB x)) G) : (Fv.run Γ gl (k + 1)).fn "is_name" [x] [] G Q P := by
  refine run_call F.name_ (d := dP_is_name) rfl ?_
  show wSs _ bP_is_name _ [some x, none] G
  cases hx <;> k_call_by "fv2" (true_and, bP_is_name) <;> first | exact ⟨_, Sub.refl _, q⟩ | skip
  · rename_i z hz hl
    have hs := size_small hl
    k_call_by "fv2" (true_and, hs, F.MOST_LETTERS)
    by_cases h1 : (1 : Int) ≤ (z.length : Nat)
    · by_cases h2 : ((z.length : Nat) : Int) ≤ 8
      · k_call_by "fv2" (true_and, h1, h2, wipeP)
        refine lc_sub (fun y => match y with | .str ⟨#[c]⟩ => some (.bl (letB c)) | _ => none) kept_nil (by rw [signs_len]; exact hs) ?_ ?_
        · intro y hy G1 s1 N M hN hM
          obtain ⟨c, hc, rfl⟩ := List.mem_map.1 hy
          k_call_by "fv2" (true_and, F.LETTERS)
          exact hN _ _ s1 rfl
        · intro G2 s2 D hD
          have e : (signsP z).filterMap (fun y => match y with | .str ⟨#[c]⟩ => some (.bl (letB c)) | _ => none) = z.cps.toList.map fun c => PV.bl (letB c) := by
            unfold signsP
            rw [List.filterMap_map]
            exact fm_all' _
          rw [e]
          k_call_by "fv2" (true_and, bAll, allB_map)
          refine ⟨_, sub_pu s2 hD, ?_⟩
          simpa [isNameB, h1, h2, List.all_map, Function.comp_def] using q
      · k_call_by "fv2" (true_and, h1, h2)
        refine ⟨_, Sub.refl _, ?_⟩
        simpa [isNameB, h1, h2] using q
    · k_call_by "fv2" (true_and, h1)
      refine ⟨_, Sub.refl _, ?_⟩
      simpa [isNameB, h1] using q
  · rename_i e _
    k_call_by "fv2" (true_and, e)
    exact ⟨_, Sub.refl _, q⟩
theorem s_is_map (F : KindsF Γ gl) (k : Nat) (hx : Dt G x d) {b : Int} (q : Q (.bl (isMapB x b)) G) : (Fv.run Γ gl (k + 3)).fn "is_map" [x, .int b] [] G Q P := by
  refine run_call F.map_ (d := dP_is_map) rfl ?_
  show wSs _ bP_is_map _ [some x, some (.int b)] G
  have num : (∀ xs, x ≠ .tup xs) → isMapB x b = isNumB x b := fun h => by
    cases hx <;> first | rfl | exact absurd rfl (h _)
  have H := hx
  cases hx with
  | tup h =>
    rename_i xs ds
    refine ss_step fun N hN => ?_
    k_call_by "fv2" (true_and, true_and)
    refine hN _ _ ?_
    cases h with
    | nil => k_call_by "fv2" (true_and, bP_is_map_1); exact ⟨_, Sub.refl _, q⟩
    | cons h1 t =>
      cases t with
      | nil => k_call_by "fv2" (true_and, bP_is_map_1); exact ⟨_, Sub.refl _, by simpa [isMapB] using q⟩
      | cons h2 t2 =>
        cases t2 with
        | nil =>
          rename_i x1 d1 x2 d2
          cases h1 <;> k_call_by "fv2" (true_and, bP_is_map_1, F.FOUND) <;> first | exact ⟨_, Sub.refl _, q⟩ | skip
          · rename_i f hf hl
            by_cases hff : f = "found"
            · subst hff
              k_call_by "fv2" (true_and, true_and)
              refine s_is_number F k h2 ?_
              exact ⟨_, Sub.refl _, by simpa [isMapB] using q⟩
            · have : (f == (("found" : String) : Str)) = false := by simpa using hff
              k_call_by "fv2" (true_and, this)
              exact ⟨_, Sub.refl _, by simpa [isMapB, this] using q⟩
          · rename_i e _
            k_call_by "fv2" (true_and, e)
            exact ⟨_, Sub.refl _, q⟩
        | cons h3 t3 =>
          rename_i x1 d1 x2 d2 x3 d3 xs3 ds3
          have e1 : (((xs3.length + 1 + 1 + 1 : Nat) : Int) == 2) = false := by simp; omega
          k_call_by "fv2" (true_and, bP_is_map_1, e1)
          exact ⟨_, Sub.refl _, by simpa [isMapB] using q⟩
  | lst e h =>
    k_call_by "fv2" (true_and, bP_is_map, e)
    exact s_is_number F k H ⟨_, Sub.refl _, by rw [← num (by intro _ z; cases z)]; exact q⟩
  | non => k_call_by "fv2" (true_and, bP_is_map); exact s_is_number F k H ⟨_, Sub.refl _, q⟩
  | bl b => k_call_by "fv2" (true_and, bP_is_map); exact s_is_number F k H ⟨_, Sub.refl _, q⟩
  | int i => k_call_by "fv2" (true_and, bP_is_map); exact s_is_number F k H ⟨_, Sub.refl _, q⟩
  | str z h hl => k_call_by "fv2" (true_and, bP_is_map); exact s_is_number F k H ⟨_, Sub.refl _, q⟩
end
end Fv

set_option Elab.async false
set_option linter.all false
set_option maxRecDepth 100000
set_option maxHeartbeats 4000000
namespace Fv
open PySem hiding run
open L2
def isItemB (l : Str) (x : PV) (b : Int) : Bool :=
  if (l == "N") = true then isNameB x else if (l == "M") = true then isMapB x b else match x with
    | .int i => decide (0 ≤ i)
    | _ => false
def formsTbl : List (Str × List Str) := [("with", ["NM"]), ("try", [""]), ("finally", [""]), ("done", [""]), ("read", ["N"]), ("stop", ["", "R"]), ("go", ["R"]), ("end", [""])]
def formsOf (w : Str) : List Str := (formsTbl.lookup w).getD []
def formOf (w : Str) (n : Nat) : Option Str := (formsOf w).find? fun f => ((f.length : Int) == (n : Int))
def itemsB (b : Int) : List Nat → List PV → Bool
  | c :: cs, x :: xs => isItemB ⟨#[c]⟩ x b && itemsB b cs xs
  | _, _ => true
def isRowB (x : PV) (b : Int) : Bool := match x with
  | .tup (.str w :: its) => match formOf w its.length with
    | some f => itemsB b f.cps.toList its
    | none => false
  | _ => false
structure RowF (Γ : Str → Option FDef) (gl : Tab) : Prop extends KindsF Γ gl where
  item : Γ "is_item" = some dP_is_item
  form : Γ "form_of" = some dP_form_of
  row : Γ "is_row" = some dP_is_row
  FORMS : gl.gl "FORMS" = some (.wd (formsTbl.map (·.1)) (formsTbl.map fun p => .tup (p.2.map .str)))
def optStr : Option Str → PV
  | some f => .str f
  | none => .non
theorem look_zip {α β : Type} (g : α → β) (z : Str) : ∀ t : List (Str × α), ((t.map (·.1)).zip (t.map fun p => g p.2)).lookup z = (t.lookup z).map g
  | [] => rfl
  | (k, a) :: t => by
    rw [List.map_cons, List.map_cons, List.zip_cons_cons, List.lookup_cons, List.lookup_cons]
    cases z == k with
    | true => rfl
    | false => exact look_zip g z t
theorem forms_len {w f : Str} (h : f ∈ formsOf w) : f.length ≤ 2 := by
  unfold formsOf at h
  cases e : formsTbl.lookup w with
  | none => rw [e] at h; simp at h
  | some fs =>
    rw [e] at h
    have hm := mem_of_look e
    simp only [Option.getD_some] at h
    have : ∀ p ∈ formsTbl, ∀ f ∈ p.2, f.length ≤ 2 := by decide
    exact this _ hm _ h
section
variable {Γ : Str → Option FDef} {gl : Tab} {G : PH} {Q : VP} {P : Fv.PC} {x : PV} {d : PyData}
theorem s_is_item (F : RowF Γ gl) (k : Nat) (hx : Dt G x d) {l : Str} {b : Int} (q : Q (.bl (isItemB l x b)) G) : (Fv.run Γ gl (k + 4)).fn "is_item" [.str l, x, .int b] [] G Q P := by
  refine run_call F.item (d := dP_is_item) rfl ?_
  show wSs _ bP_is_item _ [some (.str l), some x, some (.int b)] G
  k_call_by "fv2" (true_and, bP_is_item)
  split
  · rename_i h
    exact s_is_name F.toKindsF _ hx ⟨_, Sub.refl _, by unfold isItemB at q; rw [if_pos h] at q; exact q⟩
  · rename_i h
    split
    · rename_i h2
      exact s_is_map F.toKindsF _ hx ⟨_, Sub.refl _, by unfold isItemB at q; rw [if_neg h, if_pos h2] at q; exact q⟩
    · rename_i h2
      refine s_is_whole F.toKindsF _ hx ?_
      unfold isItemB at q
      rw [if_neg h, if_neg h2] at q
      cases hx <;> k_call_by "fv2" (true_and, isWholeB) <;> exact ⟨_, Sub.refl _, q⟩
theorem s_form_of (F : RowF Γ gl) (k : Nat) {w : Str} {n : Nat} (q : Q (optStr (formOf w n)) G) : (Fv.run Γ gl (k + 1)).fn "form_of" [.str w, .int n] [] G Q P := by
  refine run_call F.form (d := dP_form_of) rfl ?_
  show wSs _ bP_form_of _ [some (.str w), some (.int n), none] G
  refine ss_step fun N hN => ?_
  k_call_by "fv2" (true_and, F.FORMS)
  refine ⟨by simp, ?_⟩
  rw [look_zip (fun fs : List Str => PV.tup (fs.map .str))]
  have e : ((formsTbl.lookup w).map fun fs : List Str => PV.tup (fs.map .str)).getD (.tup []) = .tup ((formsOf w).map .str) := by
    unfold formsOf
    cases formsTbl.lookup w <;> rfl
  rw [e]
  k_call_by "fv2" (true_and, true_and)
  refine for_inv (fun xs σ G1 => ∃ (r : List Str) (y : Option PV), xs = r.map .str ∧ G1 = G ∧ σ = [some (.str w), some (.int n), y] ∧ (∀ f ∈ r, f.length ≤ 2) ∧ (r.find? fun f => ((f.length : Int) == (n : Int))) = formOf w n) ⟨formsOf w, none, rfl, rfl, rfl, fun f h => forms_len h, rfl⟩ (fun _ _ _ _ => kept_nil) ?_ ?_
  · rintro σ G1 ⟨r, y, e, rfl, rfl, hl, hf⟩
    cases r with
    | cons _ _ => cases e
    | nil =>
      rw [List.find?_nil] at hf
      refine hN _ _ ?_
      k_call_by "fv2" (true_and, bP_form_of_1)
      rw [← hf] at q
      exact ⟨_, Sub.refl _, q⟩
  · rintro x xs σ G1 R ⟨r, y, e, rfl, rfl, hl, hf⟩ hR
    cases r with
    | nil => cases e
    | cons f r =>
      cases e
      have hz : f.length ≤ sizeLine := size_small (by have := hl f List.mem_cons_self; omega)
      k_call_by "fv2" (true_and, bP_form_of_f1, hz)
      split
      · rename_i h
        have hq : (((f.length : Nat) : Int) == (n : Int)) = true := by simpa using h
        rw [List.find?_cons, hq] at hf
        rw [← hf] at q
        exact ⟨_, Sub.refl _, q⟩
      · rename_i h
        have hq : (((f.length : Nat) : Int) == (n : Int)) = false := by simpa using h
        rw [List.find?_cons, hq] at hf
        exact hR _ _ _ (Sub.refl _) ⟨r, _, rfl, rfl, rfl, fun f hf => hl f (List.mem_cons_of_mem _ hf), hf⟩
def itB (b : Int) : PV → Bool
  | .tup [.str l, x] => isItemB l x b
  | _ => false
theorem items_zip (b : Int) : ∀ (cs : List Nat) (xs : List PV), cs.length = xs.length → ((zipP (cs.map fun c => PV.str ⟨#[c]⟩) xs).map (itB b)).all id = itemsB b cs xs
  | [], [], _ => rfl
  | c :: cs, x :: xs, h => by
    rw [List.map_cons]
    unfold zipP itemsB
    rw [List.map_cons, List.all_cons, items_zip b cs xs (by simpa using h)]
    rfl
theorem DtL.len : ∀ {xs : List PV} {ds : List PyData}, DtL G xs ds → xs.length = ds.length
  | _, _, .nil => rfl
  | _, _, .cons _ t => by rw [List.length_cons, List.length_cons, DtL.len t]
theorem DtL.get : ∀ {xs : List PV} {ds : List PyData}, DtL G xs ds → ∀ x ∈ xs, ∃ d ∈ ds, Dt G x d
  | _, _, .nil, _, h => nomatch h
  | _, _, .cons (d := d) h t, x, hx => by
    rcases List.mem_cons.1 hx with rfl | hx
    · exact ⟨d, List.mem_cons_self, h⟩
    · obtain ⟨d, hd, hx⟩ := DtL.get t x hx
      exact ⟨d, List.mem_cons_of_mem _ hd, hx⟩
theorem zip_mem {z : Str} {xs : List PV} {y : PV} (h : y ∈ zipP (signsP z) xs) : ∃ c x, y = .tup [.str ⟨#[c]⟩, x] ∧ x ∈ xs := by
  obtain ⟨i, hi, e⟩ := List.mem_iff_getElem.1 h
  have l := zipP_len (signsP z) xs
  have i1 : i < (signsP z).length := by omega
  have i2 : i < xs.length := by omega
  have g := zipP_get (xs := signsP z) (ys := xs) (i := i) (x := (signsP z)[i]) (y := xs[i]) (by simp [i1]) (by simp [i2])
  rw [List.getElem?_eq_getElem hi] at g
  have g2 := Option.some.inj g
  obtain ⟨c, hc, ec⟩ := List.mem_map.1 (List.getElem_mem i1)
  exact ⟨c, xs[i], by rw [← e, g2, ← ec], List.getElem_mem i2⟩
theorem s_is_row (F : RowF Γ gl) (k : Nat) (hx : Dt G x d) (hd : d.depth ≤ 60) {b : Int} (q : ∀ G2, Sub G G2 → Q (.bl (isRowB x b)) G2) : (Fv.run Γ gl (k + 5)).fn "is_row" [x, .int b] [] G Q P := by
  refine run_call F.row (d := dP_is_row) rfl ?_
  show wSs _ bP_is_row _ [some x, some (.int b), none, none, none, none, none] G
  have no : isRowB x b = false → ∃ G2, Sub G2 G ∧ Q (.bl false) G2 := fun h => ⟨_, Sub.refl _, by rw [← h]; exact q _ (Sub.refl _)⟩
  refine ss_step fun N hN => ?_
  have H := hx
  cases hx with
  | tup h =>
    rename_i xs ds
    cases h with
    | nil =>
      k_call_by "fv2" (true_and, true_and)
      refine ⟨by decide, eq_dt H (.tup .nil) hd (by decide) ?_⟩
      exact no rfl
    | cons h1 t =>
      rename_i x1 d1 xs ds
      k_call_by "fv2" (true_and, true_and)
      refine ⟨by decide, eq_dt H (.tup .nil) hd (by decide) ?_⟩
      show if false = true then _ else _
      k_call_by "fv2" (true_and, true_and)
      cases h1 with
      | str w hw hwl =>
        k_call_by "fv2" (true_and, true_and)
        refine hN _ _ (ss_step fun N1 hN1 => ?_)
        k_call_by "fv2" (true_and, true_and)
        intro p hp
        have sp : Sub G (pu G p (.lst xs)) := Sub.new hp
        refine hN1 _ _ (ss_step fun N2 hN2 => ?_)
        k_call_by "fv2" (true_and, true_and)
        refine s_form_of F _ ?_
        refine hN2 _ _ ?_
        cases ef : formOf w xs.length with
        | none =>
          k_call_by "fv2" (true_and, bP_is_row_3, optStr)
          exact ⟨_, Sub.refl _, by have := q _ sp; simp only [isRowB, ef] at this; exact this⟩
        | some f =>
          have hm := List.mem_of_find?_eq_some ef
          have hl := List.find?_some ef
          have hl2 : f.length = xs.length := by
            have h : ((f.length : Nat) : Int) = (xs.length : Nat) := by simpa using hl
            omega
          k_call_by "fv2" (true_and, bP_is_row_3, optStr, wipeP)
          refine ⟨fun _ => by rw [signs_len]; exact hl2, ?_⟩
          refine lc_sub (fun y => some (PV.bl (itB b y))) (kept_one pu_same) (by rw [zipP_len, signs_len, hl2, Nat.min_self, ← hl2]; exact size_small (by have := forms_len hm; omega)) ?_ ?_
          · intro y hy G1 s1 N3 M3 hN3 hM3
            obtain ⟨c, x2, rfl, hx2⟩ := zip_mem hy
            obtain ⟨d2, hd2, h2⟩ := t.get x2 hx2
            k_call_by "fv2" (true_and, true_and)
            refine ⟨rfl, s_is_item F k (h2.up (sp.trans s1)) (hN3 _ _ s1 rfl)⟩
          · intro G2 s2 D hD
            have e := items_zip b f.cps.toList xs (by simpa [Str.length] using hl2)
            have e2 : signsP f = f.cps.toList.map fun c => PV.str ⟨#[c]⟩ := rfl
            rw [← e2] at e
            have ef2 : ∀ ys : List PV, ys.filterMap (fun y => some (PV.bl (itB b y))) = ys.map fun y => PV.bl (itB b y) := fun ys => by
              induction ys with
              | nil => rfl
              | cons y ys ih => rw [List.filterMap_cons, List.map_cons, ih]
            k_call_by "fv2" (true_and, bAll)
            rw [ef2, allB_map]
            refine ⟨_, Sub.refl _, ?_⟩
            show Q (.bl (((zipP (signsP f) xs).map (itB b)).all id)) _
            rw [e]
            have := q _ (sub_pu (sp.trans s2) hD (o := .lst (((zipP (signsP f) xs).map fun y => PV.bl (itB b y)))))
            simp only [isRowB, ef] at this
            exact this
      | lst e h =>
        k_call_by "fv2" (true_and, e)
        exact no rfl
      | _ => k_call_by "fv2" (true_and, true_and); exact no rfl
  | lst e h =>
    k_call_by "fv2" (true_and, e)
    exact no rfl
  | _ => k_call_by "fv2" (true_and, true_and); exact no rfl
end
end Fv

set_option Elab.async false
set_option linter.all false
set_option maxRecDepth 100000
set_option maxHeartbeats 4000000
namespace Fv
open PySem hiding run
open L2
theorem sw_with_try : (("with" : Str) == "try") = false := by decide +kernel
theorem sw_with_finally : (("with" : Str) == "finally") = false := by decide +kernel
theorem sw_with_done : (("with" : Str) == "done") = false := by decide +kernel
theorem sw_with_read : (("with" : Str) == "read") = false := by decide +kernel
theorem sw_with_stop : (("with" : Str) == "stop") = false := by decide +kernel
theorem sw_with_go : (("with" : Str) == "go") = false := by decide +kernel
theorem sw_with_end : (("with" : Str) == "end") = false := by decide +kernel
theorem sw_try_with : (("try" : Str) == "with") = false := by decide +kernel
theorem sw_try_finally : (("try" : Str) == "finally") = false := by decide +kernel
theorem sw_try_done : (("try" : Str) == "done") = false := by decide +kernel
theorem sw_try_read : (("try" : Str) == "read") = false := by decide +kernel
theorem sw_try_stop : (("try" : Str) == "stop") = false := by decide +kernel
theorem sw_try_go : (("try" : Str) == "go") = false := by decide +kernel
theorem sw_try_end : (("try" : Str) == "end") = false := by decide +kernel
theorem sw_finally_with : (("finally" : Str) == "with") = false := by decide +kernel
theorem sw_finally_try : (("finally" : Str) == "try") = false := by decide +kernel
theorem sw_finally_done : (("finally" : Str) == "done") = false := by decide +kernel
theorem sw_finally_read : (("finally" : Str) == "read") = false := by decide +kernel
theorem sw_finally_stop : (("finally" : Str) == "stop") = false := by decide +kernel
theorem sw_finally_go : (("finally" : Str) == "go") = false := by decide +kernel
theorem sw_finally_end : (("finally" : Str) == "end") = false := by decide +kernel
theorem sw_done_with : (("done" : Str) == "with") = false := by decide +kernel
theorem sw_done_try : (("done" : Str) == "try") = false := by decide +kernel
theorem sw_done_finally : (("done" : Str) == "finally") = false := by decide +kernel
theorem sw_done_read : (("done" : Str) == "read") = false := by decide +kernel
theorem sw_done_stop : (("done" : Str) == "stop") = false := by decide +kernel
theorem sw_done_go : (("done" : Str) == "go") = false := by decide +kernel
theorem sw_done_end : (("done" : Str) == "end") = false := by decide +kernel
theorem sw_read_with : (("read" : Str) == "with") = false := by decide +kernel
theorem sw_read_try : (("read" : Str) == "try") = false := by decide +kernel
theorem sw_read_finally : (("read" : Str) == "finally") = false := by decide +kernel
theorem sw_read_done : (("read" : Str) == "done") = false := by decide +kernel
theorem sw_read_stop : (("read" : Str) == "stop") = false := by decide +kernel
theorem sw_read_go : (("read" : Str) == "go") = false := by decide +kernel
theorem sw_read_end : (("read" : Str) == "end") = false := by decide +kernel
theorem sw_stop_with : (("stop" : Str) == "with") = false := by decide +kernel
theorem sw_stop_try : (("stop" : Str) == "try") = false := by decide +kernel
theorem sw_stop_finally : (("stop" : Str) == "finally") = false := by decide +kernel
theorem sw_stop_done : (("stop" : Str) == "done") = false := by decide +kernel
theorem sw_stop_read : (("stop" : Str) == "read") = false := by decide +kernel
theorem sw_stop_go : (("stop" : Str) == "go") = false := by decide +kernel
theorem sw_stop_end : (("stop" : Str) == "end") = false := by decide +kernel
theorem sw_go_with : (("go" : Str) == "with") = false := by decide +kernel
theorem sw_go_try : (("go" : Str) == "try") = false := by decide +kernel
theorem sw_go_finally : (("go" : Str) == "finally") = false := by decide +kernel
theorem sw_go_done : (("go" : Str) == "done") = false := by decide +kernel
theorem sw_go_read : (("go" : Str) == "read") = false := by decide +kernel
theorem sw_go_stop : (("go" : Str) == "stop") = false := by decide +kernel
theorem sw_go_end : (("go" : Str) == "end") = false := by decide +kernel
theorem sw_end_with : (("end" : Str) == "with") = false := by decide +kernel
theorem sw_end_try : (("end" : Str) == "try") = false := by decide +kernel
theorem sw_end_finally : (("end" : Str) == "finally") = false := by decide +kernel
theorem sw_end_done : (("end" : Str) == "done") = false := by decide +kernel
theorem sw_end_read : (("end" : Str) == "read") = false := by decide +kernel
theorem sw_end_stop : (("end" : Str) == "stop") = false := by decide +kernel
theorem sw_end_go : (("end" : Str) == "go") = false := by decide +kernel
/-- a row, its word and its items -/
structure Row where
  w : Str
  its : List PV
def Row.pv (r : Row) : PV := .tup (.str r.w :: r.its)
inductive RowOk : Row → Prop
  | wth (n : Str) (m : Mp) : RowOk ⟨"with", [.str n, m.pv]⟩
  | try_ : RowOk ⟨"try", []⟩
  | fin : RowOk ⟨"finally", []⟩
  | done : RowOk ⟨"done", []⟩
  | read (n : Str) : RowOk ⟨"read", [.str n]⟩
  | stop : RowOk ⟨"stop", []⟩
  | stopg (g : Nat) : RowOk ⟨"stop", [.int g]⟩
  | go (g : Nat) : RowOk ⟨"go", [.int g]⟩
  | end_ : RowOk ⟨"end", []⟩
def fol (r : Row) (i : Nat) : List PV := if (r.w == "end") = true then [] else if (r.w == "go") = true then r.its else if (r.w == "stop") = true then .int ((i : Int) + 1) :: r.its else [.int ((i : Int) + 1)]
def goTo (r : Row) : Nat := match r.its with
  | [.int g] => g.toNat
  | _ => 0
def nextR (rs : List Row) (k : Nat) : Option Nat := match rs[k]? with
  | none => none
  | some r => if (("stop" : Str) == r.w || ("end" : Str) == r.w) = true then none else if (r.w == "go") = true then some (goTo r) else some (k + 1)
def circ (rs : List Row) (s : Nat) : Nat → Nat → Bool
  | 0, _ => false
  | t + 1, k => match nextR rs k with
    | none => false
    | some j => if ((j : Int) == (s : Int)) = true then true else circ rs s t j
theorem circ_succ {rs : List Row} {s t k : Nat} : circ rs s (t + 1) k = (match nextR rs k with | none => false | some j => if ((j : Int) == (s : Int)) = true then true else circ rs s t j) := rfl
def hasCirc (rs : List Row) : Bool := (List.range rs.length).any fun s => circ rs s rs.length s
theorem o_in2 {w a b : Str} {G : PH} {c : PV} {Q : Bool → Prop} : pInS G (.str w) c [.str a, .str b] Q = Q (a == w || b == w) := by
  simp [pInS, flatP, feq]
theorem o_in3 {w a b d : Str} {G : PH} {c : PV} {Q : Bool → Prop} : pInS G (.str w) c [.str a, .str b, .str d] Q = Q (a == w || (b == w || d == w)) := by
  simp [pInS, flatP, feq]
theorem atI_row {rs : List Row} {i : Nat} (h : i < rs.length) : L2.atI (rs.map Row.pv) (i : Int) = some (.tup (.str rs[i].w :: rs[i].its)) := by
  rw [atI_nat (by simpa using h), List.getElem_map]
  rfl
theorem size_le {n : Nat} (h : n ≤ 1000) : n ≤ sizeLine := size_small (by omega)
theorem RowOk.len {r : Row} (h : RowOk r) : r.its.length ≤ 2 := by cases h <;> simp
theorem range_ints (n : Nat) (lo : Int) : rangeP lo n = ((List.range n).map fun i : Nat => lo + (i : Int)).map PV.int := by
  unfold rangeP; rw [List.map_map]; rfl
theorem range0 (n : Nat) : rangeP 0 n = (List.range n).map fun i : Nat => PV.int (i : Int) := by
  unfold rangeP
  congr 1
  funext i
  rw [Int.zero_add]
section
variable {Γ : Str → Option FDef} {gl : Tab} {G : PH} {Q : VP} {P : Fv.PC}
theorem s_following (hF : Γ "following" = some dP_following) (k : Nat) {rs : List Row} {i : Nat} (hi : i < rs.length) (ok : RowOk rs[i]) (q : ∀ a G2, Sub G G2 → G2 a = some (.lst (fol rs[i] i)) → Q (.ref a) G2) : (Fv.run Γ gl (k + 1)).fn "following" [.tup (rs.map Row.pv), .int i] [] G Q P := by
  refine run_call hF (d := dP_following) rfl ?_
  show wSs _ bP_following _ [some (.tup (rs.map Row.pv)), some (.int i), none, none] G
  unfold fol at q
  k_call_by "fv2" (true_and, bP_following, bP_following_1, atI_row hi)
  intro p hp
  k_call_by "fv2" (true_and, true_and)
  split
  · rename_i h
    rw [if_pos h] at q
    refine ⟨by decide, fun p2 hp2 => ?_⟩
    exact ⟨_, Sub.refl _, q _ _ ((Sub.new hp).trans (Sub.new hp2)) pu_same⟩
  · rename_i h
    rw [if_neg h] at q
    split
    · rename_i h
      rw [if_pos h] at q
      exact ⟨_, Sub.refl _, q _ _ (Sub.new hp) pu_same⟩
    · rename_i h
      rw [if_neg h] at q
      split
      · rename_i h
        rw [if_pos h] at q
        refine ⟨size_le (by have := ok.len; simp; omega), fun p2 hp2 => ?_⟩
        exact ⟨_, Sub.refl _, q _ _ ((Sub.new hp).trans (Sub.new hp2)) (by simp [pu_same])⟩
      · rename_i h
        rw [if_neg h] at q
        refine ⟨by decide, fun p2 hp2 => ?_⟩
        exact ⟨_, Sub.refl _, q _ _ ((Sub.new hp).trans (Sub.new hp2)) (by simp [pu_same])⟩
theorem fol_next {rs : List Row} {k : Nat} (hk : k < rs.length) (ok : RowOk rs[k]) (hw : ¬(("stop" : Str) == rs[k].w || ("end" : Str) == rs[k].w) = true) : ∃ j r, fol rs[k] k = .int (j : Nat) :: r ∧ nextR rs k = some j := by
  have e : rs[k]? = some rs[k] := List.getElem?_eq_getElem hk
  unfold nextR
  rw [e]
  revert ok hw
  generalize rs[k] = r
  intro ok hw
  cases ok <;> first | (refine absurd ?_ hw; simp; done) | skip
  · exact ⟨k + 1, [], rfl, rfl⟩
  · exact ⟨k + 1, [], rfl, rfl⟩
  · exact ⟨k + 1, [], rfl, rfl⟩
  · exact ⟨k + 1, [], rfl, rfl⟩
  · exact ⟨k + 1, [], rfl, rfl⟩
  · rename_i g
    exact ⟨g, [], rfl, rfl⟩
/-- all rows' numbers are rows or the end -/
def GoalsIn (rs : List Row) : Prop := ∀ r ∈ rs, ∀ g : Int, .int g ∈ r.its → g ≤ rs.length
theorem s_has_circle (hC : Γ "has_circle" = some dP_has_circle) (hF : Γ "following" = some dP_following) (k : Nat) {rs : List Row} (hn : rs.length ≤ 1000) (ok : ∀ r ∈ rs, RowOk r) (hg : ∀ i j, nextR rs i = some j → j ≤ rs.length) (q : ∀ G2, Sub G G2 → Q (.bl (hasCirc rs)) G2) :
    (Fv.run Γ gl (k + 2)).fn "has_circle" [.tup (rs.map Row.pv)] [] G Q P := by
  refine run_call hC (d := dP_has_circle) rfl ?_
  show wSs _ bP_has_circle _ [some (.tup (rs.map Row.pv)), none, none, none] G
  refine ss_step fun N hN => ?_
  k_call_by "fv2" (true_and, true_and)
  refine ⟨by omega, by omega, ?_⟩
  rw [Int.toNat_natCast, range0]
  refine for_inv (fun xs σ G1 => ∃ (r : List Nat) (x1 x2 x3 : Option PV), xs = (r.map fun i : Nat => PV.int (i : Int)) ∧ Sub G G1 ∧ σ = [some (.tup (rs.map Row.pv)), x1, x2, x3] ∧ (∀ i ∈ r, i < rs.length) ∧ (r.any fun s => circ rs s rs.length s) = hasCirc rs)
    ⟨_, none, none, none, rfl, Sub.refl _, rfl, fun i hi => List.mem_range.1 hi, rfl⟩ (fun _ _ _ _ => kept_nil) ?_ ?_
  · rintro σ G1 ⟨r, x1, x2, x3, e, s1, rfl, -, hr⟩
    cases r with
    | cons _ _ => cases e
    | nil =>
      refine hN _ _ ?_
      k_call_by "fv2" (true_and, bP_has_circle_1)
      refine ⟨_, Sub.refl _, ?_⟩
      have := q _ s1
      rw [← hr] at this
      exact this
  · rintro x xs σ G1 R ⟨r, x1, x2, x3, e, s1, rfl, hm, hr⟩ hR
    cases r with
    | nil => cases e
    | cons st r =>
      cases e
      have hst := hm st List.mem_cons_self
      rw [List.any_cons] at hr
      k_call_by "fv2" (true_and, bP_has_circle_f1, bP_has_circle_f1_1)
      refine ⟨by omega, by omega, ?_⟩
      rw [Int.toNat_natCast, range0]
      refine for_inv (fun xs σ G1 => ∃ (kk : Nat) (x3 : Option PV), Sub G G1 ∧ kk ≤ rs.length ∧ σ = [some (.tup (rs.map Row.pv)), some (.int (st : Nat)), some (.int (kk : Nat)), x3] ∧ circ rs st xs.length kk = circ rs st rs.length st)
        ⟨st, x3, s1, by omega, rfl, by simp⟩ (fun _ _ _ _ => kept_nil) ?_ ?_
      · rintro σ G2 ⟨kk, y3, s2, hk, rfl, hc⟩
        simp only [List.length_nil, circ] at hc
        refine hR _ _ _ (Sub.refl _) ⟨r, _, _, _, rfl, s2, rfl, fun i hi => hm i (List.mem_cons_of_mem _ hi), ?_⟩
        rw [← hc, Bool.false_or] at hr
        exact hr
      · rintro y ys σ G2 R2 ⟨kk, y3, s2, hk, rfl, hc⟩ hR2
        have out : circ rs st rs.length st = false → ∀ G3 σ3, σ3 = [some (.tup (rs.map Row.pv)), some (.int (st : Nat)), some (.int (kk : Nat)), some y] → Sub G G3 → R σ3 G3 := fun h G3 σ3 e3 s3 => by
          subst e3
          refine hR _ _ _ (Sub.refl _) ⟨r, _, _, _, rfl, s3, rfl, fun i hi => hm i (List.mem_cons_of_mem _ hi), ?_⟩
          rw [h, Bool.false_or] at hr
          exact hr
        rw [List.length_cons, circ_succ] at hc
        refine ss_step fun N1 hN1 => ?_
        k_call_by "fv2" (true_and, true_and)
        by_cases hkn : kk = rs.length
        · subst hkn
          k_call_by "fv2" (true_and, true_and)
          refine out ?_ _ _ rfl s2
          rw [← hc]
          simp [nextR]
        · have hk2 : kk < rs.length := by omega
          have hne : ((kk : Int) == (rs.length : Nat)) = false := by simp; omega
          have e : rs[kk]? = some rs[kk] := List.getElem?_eq_getElem hk2
          have okk := ok _ (List.getElem_mem hk2)
          k_call_by "fv2" (true_and, hne, atI_row hk2, o_in2)
          refine ⟨by decide, ?_⟩
          split
          · rename_i hw
            refine out ?_ _ _ rfl s2
            rw [← hc]
            simp only [nextR, e]
            rw [if_pos hw]
          · rename_i hw
            obtain ⟨j, rr, e1, e2⟩ := fol_next hk2 okk hw
            rw [e2] at hc
            refine hN1 _ _ ?_
            k_call_by "fv2" (true_and, bP_has_circle_f2_1, bP_has_circle_f2_2)
            refine s_following hF k hk2 okk fun a G3 s3 h3 => ?_
            rw [e1] at h3
            k_call_by "fv2" (true_and, h3)
            split
            · rename_i hj
              refine ⟨_, Sub.refl _, ?_⟩
              simp only [hj, if_true] at hc
              have := q _ (s2.trans s3)
              rw [← hr, ← hc] at this
              exact this
            · rename_i hj
              simp only [hj] at hc
              exact hR2 _ _ _ (Sub.refl _) ⟨j, _, s2.trans s3, hg _ _ e2, rfl, by simpa using hc⟩
end
end Fv

set_option Elab.async false
set_option linter.all false
set_option maxRecDepth 100000
set_option maxHeartbeats 4000000
namespace Fv
open PySem hiding run
open L2
/-- a def of so many arguments, so many other names -/
def DefAt (Γ : Str → Option FDef) (f : Str) (B : Ss) (n m : Nat) : Prop := ∃ d, Γ f = some d ∧ d.body = B ∧ (∀ xs : List PV, xs.length = n → d.args xs [] = some xs) ∧ d.N.length = n + m
theorem run_def {Γ : Str → Option FDef} {gl : Tab} {k n m : Nat} {f : Str} {B : Ss} (h : DefAt Γ f B n m) {xs : List PV} {G : PH} {Q : VP} {P : PC} (hx : xs.length = n) (h3 : wSs (Fv.run Γ gl k) B (endP Q P) (xs.map some ++ List.replicate m none) G) : (Fv.run Γ gl (k + 1)).fn f xs [] G Q P := by
  obtain ⟨d, h1, rfl, h2, h4⟩ := h
  refine run_call h1 (h2 xs hx) ?_
  unfold startP
  rw [h4, hx, Nat.add_sub_cancel_left]
  exact h3
/-- a list or a tuple -/
def SeqP (G : PH) (v : PV) (xs : List PV) : Prop := v = .tup xs ∨ ∃ a, v = .ref a ∧ G a = some (.lst xs)
theorem SeqP.up {G G2 : PH} {v : PV} {xs : List PV} (h : SeqP G v xs) (s : Sub G G2) : SeqP G2 v xs := by
  rcases h with h | ⟨a, h1, h2⟩
  · exact .inl h
  · exact .inr ⟨a, h1, s _ _ h2⟩
theorem o_idx_q {G : PH} {v : PV} {xs : List PV} (h : SeqP G v xs) {i : Int} {Q : VP} : pIdx v (.int i) G Q = (match L2.atI xs i with | some v => Q v G | none => False) := by
  rcases h with rfl | ⟨a, rfl, e⟩
  · rfl
  · simp only [o_idx_r, e] <;> rfl
theorem o_len_q {G : PH} {v : PV} {xs : List PV} (h : SeqP G v xs) {Q : VP} : bLen [v] G Q = Q (.int (xs.length : Nat)) G := by
  rcases h with rfl | ⟨a, rfl, e⟩
  · rfl
  · simp only [o_len_r, e]
section
variable {Γ : Str → Option FDef} {gl : Tab} {G : PH} {Q : VP} {P : Fv.PC}
theorem nextR_ge {rs : List Row} {k : Nat} (h : rs.length ≤ k) : nextR rs k = none := by
  unfold nextR
  rw [List.getElem?_eq_none h]
theorem go_its (r : Row) (h : RowOk r) : (r.w == "go") = true → ∃ g : Nat, r.its = [.int g] := by
  cases h <;> simp only [Fv.sw_with_try, Fv.sw_with_finally, Fv.sw_with_done, Fv.sw_with_read, Fv.sw_with_stop, Fv.sw_with_go, Fv.sw_with_end, Fv.sw_try_with, Fv.sw_try_finally, Fv.sw_try_done, Fv.sw_try_read, Fv.sw_try_stop, Fv.sw_try_go, Fv.sw_try_end, Fv.sw_finally_with, Fv.sw_finally_try, Fv.sw_finally_done, Fv.sw_finally_read, Fv.sw_finally_stop, Fv.sw_finally_go, Fv.sw_finally_end, Fv.sw_done_with, Fv.sw_done_try, Fv.sw_done_finally, Fv.sw_done_read, Fv.sw_done_stop, Fv.sw_done_go, Fv.sw_done_end, Fv.sw_read_with, Fv.sw_read_try, Fv.sw_read_finally, Fv.sw_read_done, Fv.sw_read_stop, Fv.sw_read_go, Fv.sw_read_end, Fv.sw_stop_with, Fv.sw_stop_try, Fv.sw_stop_finally, Fv.sw_stop_done, Fv.sw_stop_read, Fv.sw_stop_go, Fv.sw_stop_end, Fv.sw_go_with, Fv.sw_go_try, Fv.sw_go_finally, Fv.sw_go_done, Fv.sw_go_read, Fv.sw_go_stop, Fv.sw_go_end, Fv.sw_end_with, Fv.sw_end_try, Fv.sw_end_finally, Fv.sw_end_done, Fv.sw_end_read, Fv.sw_end_stop, Fv.sw_end_go] <;> first | exact fun _ => ⟨_, rfl⟩ | exact fun h => nomatch h
theorem s_law_circles (D : DefAt Γ "_law_circles" bQ_f_law_circles 2 2) (k : Nat) {v : PV} {rs : List Row} (hs : SeqP G v (rs.map Row.pv)) (hn : rs.length ≤ 1000) (ok : ∀ r ∈ rs, RowOk r) {st : Nat} (q : Q (.bl (circ rs st rs.length st)) G) :
    (Fv.run Γ gl (k + 1)).fn "_law_circles" [v, .int st] [] G Q P := by
  refine run_def D rfl ?_
  show wSs _ _ _ [some v, some (.int st), none, none] G
  k_call_by "fv2" (true_and, bQ_f_law_circles, bQ_f_law_circles_1, bQ_f_law_circles_2, o_len_q hs)
  refine ⟨by omega, by omega, ?_⟩
  rw [Int.toNat_natCast, range0]
  refine for_inv (fun xs σ G1 => ∃ (kk : Nat) (x3 : Option PV), G1 = G ∧ σ = [some v, some (.int (st : Nat)), some (.int (kk : Nat)), x3] ∧ circ rs st xs.length kk = circ rs st rs.length st)
    ⟨st, none, rfl, rfl, by simp⟩ (fun _ _ _ _ => kept_nil) ?_ ?_
  · rintro σ G2 ⟨kk, y3, rfl, rfl, hc⟩
    rw [← hc] at q
    k_call_by "fv2" (true_and, true_and)
    exact ⟨_, Sub.refl _, q⟩
  · rintro y ys σ G2 R2 ⟨kk, y3, rfl, rfl, hc⟩ hR2
    rw [List.length_cons, circ_succ] at hc
    k_call_by "fv2" (true_and, bQ_f_law_circles_f1, o_len_q hs, o_idx_q hs)
    by_cases hkn : rs.length ≤ kk
    · rw [if_pos (by omega)]
      rw [nextR_ge hkn] at hc
      rw [← hc] at q
      exact ⟨_, Sub.refl _, q⟩
    · have hk2 : kk < rs.length := by omega
      have e : rs[kk]? = some rs[kk] := List.getElem?_eq_getElem hk2
      have okk := ok _ (List.getElem_mem hk2)
      rw [if_neg (by omega)]
      k_call_by "fv2" (true_and, atI_row hk2, o_in2)
      refine ⟨by decide, ?_⟩
      split
      · rename_i hw
        have : nextR rs kk = none := by
          simp only [nextR, e]
          rw [if_pos hw]
        rw [this] at hc
        rw [← hc] at q
        exact ⟨_, Sub.refl _, q⟩
      · rename_i hw
        have fin : ∀ j : Nat, nextR rs kk = some j → wSs (Fv.run Γ gl k) bQ_f_law_circles_f1_2 { endP Q P with nx := R2, bk := (fun σ2 G2 => ∃ G3, Sub G3 G2 ∧ Q (PV.bl false) G3), ct := R2 } [some v, some (.int (st : Nat)), some (.int (j : Nat)), some y] G2 := fun j hj => by
          rw [hj] at hc
          k_call_by "fv2" (true_and, bQ_f_law_circles_f1_2)
          split
          · rename_i h
            simp only [h, if_true] at hc
            rw [← hc] at q
            exact ⟨_, Sub.refl _, q⟩
          · rename_i h
            simp only [h] at hc
            exact hR2 _ _ _ (Sub.refl _) ⟨j, _, rfl, rfl, by simpa using hc⟩
        k_call_by "fv2" (true_and, bQ_f_law_circles_f1_1, o_idx_q hs, atI_row hk2)
        split
        · rename_i hg
          have h2 : nextR rs kk = some (goTo rs[kk]) := by
            simp only [nextR, e]
            rw [if_neg hw, if_pos hg]
          k_call_by "fv2" (true_and, atI_row hk2)
          obtain ⟨g, eg⟩ := go_its _ okk hg
          k_call_by "fv2" (true_and, eg)
          have := fin _ h2
          simp only [goTo, eg, Int.toNat_natCast] at this
          exact this
        · rename_i hg
          have h2 : nextR rs kk = some (kk + 1) := by
            simp only [nextR, e]
            rw [if_neg hw, if_neg hg]
          k_call_by "fv2" (true_and, true_and)
          exact fin _ h2
end
end Fv

set_option Elab.async false
set_option linter.all false
set_option maxRecDepth 100000
set_option maxHeartbeats 4000000
namespace Fv
open PySem hiding run
open L2
structure Blk where
  at_ : Nat
  tr : Bool
  sec : Bool
/-- the blocks round, the innermost first; those of each row so far; finally rows, done rows by begins -/
structure NS where
  st : List Blk
  bl : List (List Blk)
  fi : List (Key × PV)
  en : List (Key × PV)
def nstep0 (s : NS) (i : Nat) (w : Str) : Option NS :=
  if (("with" : Str) == w || ("try" : Str) == w) = true then some { s with st := ⟨i, w == "try", false⟩ :: s.st }
  else if (w == "finally") = true then match s.st with
    | b :: r => if (b.tr && !b.sec) = true then some { s with st := ⟨b.at_, true, true⟩ :: r, fi := ptP s.fi (.inl (b.at_ : Int)) (.int (i : Int)) } else none
    | [] => none
  else if (w == "done") = true then match s.st with
    | b :: r => if (b.tr && !b.sec) = true then none else some { s with st := r, en := ptP s.en (.inl (b.at_ : Int)) (.int (i : Int)) }
    | [] => none
  else some s
def nstep (s : NS) (i : Nat) (w : Str) : Option NS := match nstep0 { s with bl := s.bl ++ [s.st] } i w with
  | some s => if 5 < s.st.length then none else some s
  | none => none
def nrun : NS → Nat → List Str → Option NS
  | s, _, [] => some s
  | s, i, w :: ws => match nstep s i w with
    | some s => nrun s (i + 1) ws
    | none => none
def ns0 : NS := ⟨[], [], [], []⟩
def nest (ws : List Str) : Option NS := match nrun ns0 0 ws with
  | some s => if s.st.isEmpty = true then some s else none
  | none => none
def nfin (s : NS) (i : Nat) (ws : List Str) : Bool := match nrun s i ws with
  | some s => s.st.isEmpty
  | none => false
theorem nest_fin (ws : List Str) : (nest ws).isSome = nfin ns0 0 ws := by
  unfold nest nfin
  cases nrun ns0 0 ws with
  | none => rfl
  | some s => cases h : s.st.isEmpty <;> simp [h]
theorem nfin_cons (s : NS) (i : Nat) (w : Str) (ws : List Str) : nfin s i (w :: ws) = (match nstep s i w with | some s => nfin s (i + 1) ws | none => false) := by
  unfold nfin
  rw [nrun]
  cases nstep s i w <;> rfl
theorem nfin_nil (s : NS) (i : Nat) : nfin s i [] = s.st.isEmpty := rfl
def Blk.word (b : Blk) : Str := if b.tr = true then (if b.sec = true then "finally" else "try") else "with"
def wordsV (st : List Blk) : List PV := (st.map fun b => PV.str b.word).reverse
theorem wordsV_cons (b : Blk) (st : List Blk) : wordsV (b :: st) = wordsV st ++ [.str b.word] := by simp [wordsV]
def plV (st : List Blk) : List PV := (st.map fun b => PV.tup [.int (b.at_ : Nat), .bl b.sec]).reverse
theorem plV_cons (b : Blk) (st : List Blk) : plV (b :: st) = plV st ++ [.tup [.int (b.at_ : Nat), .bl b.sec]] := by simp [plV]
theorem plV_len (st : List Blk) : (plV st).length = st.length := by simp [plV]
theorem wordsV_len (st : List Blk) : (wordsV st).length = st.length := by simp [wordsV]
theorem sl_last {α : Type} (xs : List α) (x : α) : ((xs ++ [x]).drop (HT.sIx (xs ++ [x]).length 0 (some (-1)))).take (HT.sIx (xs ++ [x]).length (xs ++ [x]).length none - HT.sIx (xs ++ [x]).length 0 (some (-1))) = [x] := by
  have e : HT.sIx (xs ++ [x]).length 0 (some (-1)) = xs.length := by
    show ((-1 : Int) + ((xs ++ [x]).length : Nat)).toNat = _
    simp; omega
  rw [e, HT.sIx_none, List.drop_left]
  simp
theorem sl_init {α : Type} (xs : List α) (x : α) : ((xs ++ [x]).drop (HT.sIx (xs ++ [x]).length 0 none)).take (HT.sIx (xs ++ [x]).length (xs ++ [x]).length (some (-1)) - HT.sIx (xs ++ [x]).length 0 none) = xs := by
  have e : HT.sIx (xs ++ [x]).length (xs ++ [x]).length (some (-1)) = xs.length := by
    show ((-1 : Int) + ((xs ++ [x]).length : Nat)).toNat = _
    simp; omega
  rw [e, HT.sIx_none]
  simp
theorem sl_tl {α : Type} (x : α) (xs : List α) : ((x :: xs).drop (HT.sIx (x :: xs).length 0 (some 1))).take (HT.sIx (x :: xs).length (x :: xs).length none - HT.sIx (x :: xs).length 0 (some 1)) = xs := by
  have e : HT.sIx (x :: xs).length 0 (some 1) = 1 := by
    have := HT.sIx_nat (x :: xs).length 0 1
    rw [show ((1 : Nat) : Int) = 1 from rfl] at this
    rw [this]
    simp
  rw [e, HT.sIx_none]
  simp
theorem eqv_l1 {a b : Str} : PyData.eqv (.list [.str a]) (.list [.str b]) = (a == b) := by
  simp [PyData.eqv, PyData.eqvAll]
theorem eqv_l0 {b : Str} : PyData.eqv (.list []) (.list [.str b]) = false := by
  simp [PyData.eqv, PyData.eqvAll]
theorem nstep_len {s s2 : NS} {i : Nat} {w : Str} (h : nstep s i w = some s2) : s2.st.length ≤ 5 := by
  unfold nstep at h
  split at h
  · split at h
    · cases h
    · cases h; omega
  · cases h
theorem word_ok (b : Blk) : PyData.strOk b.word = true ∧ b.word.length ≤ 1000000 := by
  unfold Blk.word
  split
  · split
    · exact ⟨by decide +kernel, by decide +kernel⟩
    · exact ⟨by decide +kernel, by decide +kernel⟩
  · exact ⟨by decide +kernel, by decide +kernel⟩
theorem word_try (b : Blk) : (b.word == "try") = (b.tr && !b.sec) := by
  unfold Blk.word
  cases b.tr <;> cases b.sec <;> decide +kernel
theorem word_open (b : Blk) : (("with" : Str) == b.word || ("finally" : Str) == b.word) = !(b.tr && !b.sec) := by
  unfold Blk.word
  cases b.tr <;> cases b.sec <;> decide +kernel
section
variable {Γ : Str → Option FDef} {gl : Tab} {G : PH} {Q : VP} {P : Fv.PC}
theorem dt_strs {zs : List Str} (h : ∀ z ∈ zs, PyData.strOk z = true ∧ z.length ≤ 1000000) : DtL G (zs.map .str) (zs.map .str) := by
  induction zs with
  | nil => exact .nil
  | cons z zs ih => exact .cons (.str z (h z List.mem_cons_self).1 (h z List.mem_cons_self).2) (ih fun z hz => h z (List.mem_cons_of_mem _ hz))
theorem dt_str1 {z : Str} (h : PyData.strOk z = true ∧ z.length ≤ 1000000) : DtL G [.str z] [.str z] := dt_strs (zs := [z]) (by simpa using h)
theorem depth_strs (zs : List Str) : PyData.depthAll (zs.map .str) ≤ 1 := by
  induction zs with
  | nil => simp [PyData.depthAll]
  | cons z zs ih => simp [PyData.depthAll, PyData.depth, Nat.max_le]; exact ih
def wordsD (st : List Blk) : List PyData := (st.map fun b => PyData.str b.word).reverse
theorem wordsV_eq (st : List Blk) : wordsV st = ((st.map Blk.word).reverse).map .str := by simp [wordsV, Function.comp_def]
theorem wordsD_eq (st : List Blk) : wordsD st = ((st.map Blk.word).reverse).map .str := by simp [wordsD, Function.comp_def]
theorem dt_words (st : List Blk) : DtL G (wordsV st) (wordsD st) := by
  rw [wordsV_eq, wordsD_eq]
  refine dt_strs fun z hz => ?_
  rw [List.mem_reverse, List.mem_map] at hz
  obtain ⟨b, _, rfl⟩ := hz
  exact word_ok b
theorem depth_words (st : List Blk) : (PyData.list (wordsD st)).depth ≤ 60 := by
  rw [wordsD_eq]
  have := depth_strs (st.map Blk.word).reverse
  simp only [PyData.depth]
  omega
theorem eqv_words0 (st : List Blk) : PyData.eqv (.list (wordsD st)) (.list []) = st.isEmpty := by
  rw [wordsD_eq]
  cases st with
  | nil => simp [PyData.eqv, PyData.eqvAll]
  | cons b st =>
    have : ∃ z zs, ((b :: st).map Blk.word).reverse = z :: zs := by
      cases h : ((b :: st).map Blk.word).reverse with
      | nil => simp at h
      | cons z zs => exact ⟨_, _, rfl⟩
    obtain ⟨z, zs, e⟩ := this
    rw [e]
    simp [PyData.eqv, PyData.eqvAll]
def lastW (st : List Blk) : List Str := match st with
  | [] => []
  | b :: _ => [b.word]
theorem sl_words (st : List Blk) : ((wordsV st).drop (HT.sIx (wordsV st).length 0 (some (-1)))).take (HT.sIx (wordsV st).length (wordsV st).length none - HT.sIx (wordsV st).length 0 (some (-1))) = (lastW st).map .str := by
  cases st with
  | nil => rfl
  | cons b st => rw [wordsV_cons, sl_last]; rfl
theorem dt_last (st : List Blk) : DtL G ((lastW st).map .str) ((lastW st).map .str) := dt_strs fun z hz => by
  cases st with
  | nil => cases hz
  | cons b st =>
    obtain rfl := List.mem_singleton.1 hz
    exact word_ok b
theorem depth_last (st : List Blk) : (PyData.list ((lastW st).map .str)).depth ≤ 3 := by
  have := depth_strs (lastW st)
  simp only [PyData.depth]
  omega
def openTry (st : List Blk) : Bool := match st with
  | [] => false
  | b :: _ => b.tr && !b.sec
def closable (st : List Blk) : Bool := match st with
  | [] => false
  | b :: _ => !(b.tr && !b.sec)
theorem last_try (st : List Blk) : PyData.eqv (.list ((lastW st).map .str)) (.list [.str "try"]) = openTry st := by
  cases st with
  | nil => simp [lastW, PyData.eqv, PyData.eqvAll, openTry]
  | cons b st =>
    show PyData.eqv (.list [.str b.word]) _ = _
    rw [eqv_l1, word_try]; rfl
theorem last_closable (st : List Blk) : ([PyData.list [.str "with"], .list [.str "finally"]].any fun e => PyData.eqv e (.list ((lastW st).map .str))) = closable st := by
  cases st with
  | nil => simp [lastW, PyData.eqv, PyData.eqvAll, closable]
  | cons b st =>
    show ([PyData.list [.str "with"], .list [.str "finally"]].any fun e => PyData.eqv e (.list [.str b.word])) = _
    rw [List.any_cons, List.any_cons, eqv_l1, eqv_l1, List.any_nil, Bool.or_false, word_open]; rfl
theorem o_set_m1 {a : Addr} {xs : List PV} {x v : PV} {G : PH} {Q : PH → Prop} (h : G a = some (.lst (xs ++ [x]))) : pSet (.ref a) (.int (-1)) v G Q = Q (pu G a (.lst (xs ++ [v]))) := by
  rw [o_set_r, h]
  have : L2.ixN (xs ++ [x]).length (-1) = some xs.length := by
    unfold L2.ixN
    rw [if_neg (by decide), if_pos (by simp; omega)]
    simp; omega
  simp only [this]
  congr 3
  simp
theorem m1_ok {α : Type} {xs : List α} {x : α} : (if -(((xs ++ [x]).length : Nat) : Int) ≤ -1 then some (-1 + (((xs ++ [x]).length : Nat) : Int)).toNat else none) = some xs.length := by
  rw [if_pos (by simp; omega)]
  simp; omega
theorem set_m1 {α : Type} {xs : List α} {x y : α} : (xs ++ [x]).set xs.length y = xs ++ [y] := by simp
theorem app_last {α : Type} {xs : List α} {x : α} : (xs ++ [x])[(xs ++ [x]).length - 1]? = some x := by simp
theorem app_init {α : Type} {xs : List α} {x : α} : (xs ++ [x]).dropLast = xs := by simp
theorem o_popl {a : Addr} {xs : List PV} {x : PV} {G : PH} {Q : VP} (h : G a = some (.lst (xs ++ [x]))) : pPopl (.ref a) G Q = Q x (pu G a (.lst xs)) := by
  unfold pPopl
  simp only [h]
  simp
theorem sub_put {G1 : PH} {p : Addr} {o : PO} (s : Sub G G1) (h : G p = none) : Sub G (pu G1 p o) := fun b u e => by
  have : b ≠ p := by rintro rfl; rw [h] at e; cases e
  rw [pu_ne this]
  exact s _ _ e
theorem iter_for {g : TPG} {tb : TPS} {D : PD} {σ : PSt} {G1 : PH} {v : PV} {xs : List PV} (hs : SeqP G v xs) (s : Sub G G1) (h : ∀ kp, Kept kp G → forL kp g tb D xs σ G1) : (match (generalizing := false) v with
      | .tup xs => forL [] g tb D xs σ G1
      | .wl xs => forL [] g tb D xs σ G1
      | .str z => forL [] g tb D (signsP z) σ G1
      | .ref a => match G1 a with
        | some (.lst xs) => forL [(a, .lst xs)] g tb D xs σ G1
        | _ => False
      | _ => False) := by
  rcases hs with rfl | ⟨a, rfl, e⟩
  · exact h _ kept_nil
  · simp only [s _ _ e]
    exact h _ (kept_one e)
theorem s_law_nested (D : DefAt Γ "_law_are_nested" bQ_f_law_are_nested 1 2) (k : Nat) {v : PV} {rs : List Row} (hs : SeqP G v (rs.map Row.pv)) (hn : rs.length ≤ 1000) (q : ∀ G2, Sub G G2 → Q (.bl (nest (rs.map (·.w))).isSome) G2) :
    (Fv.run Γ gl (k + 1)).fn "_law_are_nested" [v] [] G Q P := by
  refine run_def D rfl ?_
  show wSs _ _ _ [some v, none, none] G
  refine ss_step fun N0 hN0 => ?_
  k_call_by "fv2" (true_and, true_and)
  refine ⟨by decide, fun p hp => ?_⟩
  refine hN0 _ _ (ss_step fun N hN => ?_)
  k_call_by "fv2" (true_and, true_and)
  have s0 : Sub G (pu G p (.lst [])) := Sub.new hp
  refine iter_for hs s0 fun kp hkp => ?_
  refine for_inv (fun xs σ G1 => ∃ (r : List Row) (s : NS) (i : Nat) (x2 : Option PV), xs = r.map Row.pv ∧ Sub G G1 ∧ G1 p = some (.lst (wordsV s.st)) ∧ σ = [some v, some (.ref p), x2] ∧ s.st.length ≤ 5 ∧ nfin s i (r.map (·.w)) = (nest (rs.map (·.w))).isSome)
    ⟨rs, ns0, 0, none, rfl, s0, pu_same, rfl, by decide, (nest_fin _).symm⟩ (fun _ _ _ ⟨_, _, _, _, _, h, _⟩ => fun p hp => h _ _ (hkp p hp)) ?_ ?_
  · rintro σ G1 ⟨r, s, i, x2, e, s1, h1, rfl, hl, hr⟩
    cases r with
    | cons _ _ => cases e
    | nil =>
      rw [List.map_nil, nfin_nil] at hr
      refine hN _ _ ?_
      k_call_by "fv2" (true_and, bQ_f_law_are_nested_2)
      refine ⟨by decide, fun p2 hp2 => ?_⟩
      have hpp := ne_of_free h1 hp2
      have dt1 : Dt (pu G1 p2 (.lst [])) (.ref p) (.list (wordsD s.st)) := .lst (by rw [pu_ne hpp, h1]) (dt_words _)
      have dt2 : Dt (pu G1 p2 (.lst [])) (.ref p2) (.list []) := .lst pu_same .nil
      refine eq_dt dt1 dt2 (depth_words _) (by decide) ?_
      refine ⟨_, Sub.refl _, ?_⟩
      rw [eqv_words0, hr]
      exact q _ (sub_pu s1 hp2)
  · rintro x xs σ G1 R ⟨r, s, i, x2, e, s1, h1, rfl, hl, hr⟩ hR
    cases r with
    | nil => cases e
    | cons r rr =>
      cases e
      rw [List.map_cons, nfin_cons] at hr
      obtain ⟨w, its⟩ := r
      have no : ∀ G2, Sub G G2 → nstep s i w = none → ∃ G3, Sub G3 G2 ∧ Q (.bl false) G3 := fun G2 s2 h => by
        simp only [h] at hr
        refine ⟨_, Sub.refl _, ?_⟩
        rw [hr]
        exact q _ s2
      have fin : ∀ (s2 : NS) (G2 : PH), nstep0 { s with bl := s.bl ++ [s.st] } i w = some s2 → Sub G G2 → G2 p = some (.lst (wordsV s2.st)) → wSs (Fv.run Γ gl k) bQ_f_law_are_nested_f1_3 { endP Q P with nx := R, ct := R, bk := N } [some v, some (.ref p), some (.tup (.str w :: its))] G2 := fun s2 G2 h s2s hp2 => by
        k_call_by "fv2" (true_and, bQ_f_law_are_nested_f1_3, hp2, wordsV_len)
        split
        · rename_i h5
          refine no G2 s2s ?_
          unfold nstep
          rw [h]
          simp only []
          rw [if_pos (by omega)]
        · rename_i h5
          have e : nstep s i w = some s2 := by
            unfold nstep
            rw [h]
            simp only []
            rw [if_neg (by omega)]
          simp only [e] at hr
          exact hR _ _ _ (Sub.refl _) ⟨rr, s2, i + 1, _, rfl, s2s, hp2, rfl, by omega, hr⟩
      have sz : (wordsV s.st).length < sizeLine := by
        rw [wordsV_len]
        have : sizeLine = 16777216 := rfl
        omega
      have s1p : ∀ o, Sub G (pu G1 p o) := fun o => sub_put s1 hp
      k_call_by "fv2" (true_and, bQ_f_law_are_nested_f1, Row.pv, o_in2)
      refine ⟨by decide, ?_⟩
      by_cases w1 : w = "with"
      · subst w1
        k_call_by "fv2" (true_and, Fv.sw_with_try, Fv.sw_with_finally, Fv.sw_with_done, Fv.sw_with_read, Fv.sw_with_stop, Fv.sw_with_go, Fv.sw_with_end, Fv.sw_try_with, Fv.sw_try_finally, Fv.sw_try_done, Fv.sw_try_read, Fv.sw_try_stop, Fv.sw_try_go, Fv.sw_try_end, Fv.sw_finally_with, Fv.sw_finally_try, Fv.sw_finally_done, Fv.sw_finally_read, Fv.sw_finally_stop, Fv.sw_finally_go, Fv.sw_finally_end, Fv.sw_done_with, Fv.sw_done_try, Fv.sw_done_finally, Fv.sw_done_read, Fv.sw_done_stop, Fv.sw_done_go, Fv.sw_done_end, Fv.sw_read_with, Fv.sw_read_try, Fv.sw_read_finally, Fv.sw_read_done, Fv.sw_read_stop, Fv.sw_read_go, Fv.sw_read_end, Fv.sw_stop_with, Fv.sw_stop_try, Fv.sw_stop_finally, Fv.sw_stop_done, Fv.sw_stop_read, Fv.sw_stop_go, Fv.sw_stop_end, Fv.sw_go_with, Fv.sw_go_try, Fv.sw_go_finally, Fv.sw_go_done, Fv.sw_go_read, Fv.sw_go_stop, Fv.sw_go_end, Fv.sw_end_with, Fv.sw_end_try, Fv.sw_end_finally, Fv.sw_end_done, Fv.sw_end_read, Fv.sw_end_stop, Fv.sw_end_go, Bool.true_or, h1, sz, bQ_f_law_are_nested_f1_1, bQ_f_law_are_nested_f1_2)
        refine fin ⟨⟨i, false, false⟩ :: s.st, s.bl ++ [s.st], s.fi, s.en⟩ _ rfl (s1p _) ?_
        rw [pu_same, wordsV_cons]
        rfl
      by_cases w2 : w = "try"
      · subst w2
        k_call_by "fv2" (true_and, Fv.sw_with_try, Fv.sw_with_finally, Fv.sw_with_done, Fv.sw_with_read, Fv.sw_with_stop, Fv.sw_with_go, Fv.sw_with_end, Fv.sw_try_with, Fv.sw_try_finally, Fv.sw_try_done, Fv.sw_try_read, Fv.sw_try_stop, Fv.sw_try_go, Fv.sw_try_end, Fv.sw_finally_with, Fv.sw_finally_try, Fv.sw_finally_done, Fv.sw_finally_read, Fv.sw_finally_stop, Fv.sw_finally_go, Fv.sw_finally_end, Fv.sw_done_with, Fv.sw_done_try, Fv.sw_done_finally, Fv.sw_done_read, Fv.sw_done_stop, Fv.sw_done_go, Fv.sw_done_end, Fv.sw_read_with, Fv.sw_read_try, Fv.sw_read_finally, Fv.sw_read_done, Fv.sw_read_stop, Fv.sw_read_go, Fv.sw_read_end, Fv.sw_stop_with, Fv.sw_stop_try, Fv.sw_stop_finally, Fv.sw_stop_done, Fv.sw_stop_read, Fv.sw_stop_go, Fv.sw_stop_end, Fv.sw_go_with, Fv.sw_go_try, Fv.sw_go_finally, Fv.sw_go_done, Fv.sw_go_read, Fv.sw_go_stop, Fv.sw_go_end, Fv.sw_end_with, Fv.sw_end_try, Fv.sw_end_finally, Fv.sw_end_done, Fv.sw_end_read, Fv.sw_end_stop, Fv.sw_end_go, Bool.or_true, h1, sz, bQ_f_law_are_nested_f1_1, bQ_f_law_are_nested_f1_2)
        refine fin ⟨⟨i, true, false⟩ :: s.st, s.bl ++ [s.st], s.fi, s.en⟩ _ rfl (s1p _) ?_
        rw [pu_same, wordsV_cons]
        rfl
      have n1 : (("with" : Str) == w || ("try" : Str) == w) = false := by simp [Ne.symm w1, Ne.symm w2]
      rw [n1]
      by_cases w3 : w = "finally"
      · subst w3
        k_call_by "fv2" (true_and, bQ_f_law_are_nested_f1_1, h1)
        intro p2 hp2
        have hpp := ne_of_free h1 hp2
        rw [sl_words] at *
        refine ⟨by decide, fun p3 hp3 => ?_⟩
        have h3 := ne_of_free ((pu_ne hpp).trans h1) hp3
        have h23 := ne_of_free (pu_same (G := G1) (a := p2)) hp3
        have sA : Sub G1 (pu (pu G1 p2 (.lst ((lastW s.st).map .str))) p3 (.lst [.str "try"])) := (Sub.new hp2).trans (Sub.new hp3)
        refine eq_dt (.lst (by rw [pu_ne h23, pu_same]) (dt_last _)) (.lst pu_same (dt_str1 ⟨by decide +kernel, by decide +kernel⟩)) (Nat.le_trans (depth_last _) (by decide)) (by decide) ?_
        rw [last_try]
        generalize pu (pu G1 p2 (.lst ((lastW s.st).map .str))) p3 (.lst [.str "try"]) = G2 at sA ⊢
        cases est : s.st with
        | nil =>
          k_call_by "fv2" (true_and, openTry)
          refine no _ (s1.trans sA) ?_
          unfold nstep nstep0
          simp only [Fv.sw_with_try, Fv.sw_with_finally, Fv.sw_with_done, Fv.sw_with_read, Fv.sw_with_stop, Fv.sw_with_go, Fv.sw_with_end, Fv.sw_try_with, Fv.sw_try_finally, Fv.sw_try_done, Fv.sw_try_read, Fv.sw_try_stop, Fv.sw_try_go, Fv.sw_try_end, Fv.sw_finally_with, Fv.sw_finally_try, Fv.sw_finally_done, Fv.sw_finally_read, Fv.sw_finally_stop, Fv.sw_finally_go, Fv.sw_finally_end, Fv.sw_done_with, Fv.sw_done_try, Fv.sw_done_finally, Fv.sw_done_read, Fv.sw_done_stop, Fv.sw_done_go, Fv.sw_done_end, Fv.sw_read_with, Fv.sw_read_try, Fv.sw_read_finally, Fv.sw_read_done, Fv.sw_read_stop, Fv.sw_read_go, Fv.sw_read_end, Fv.sw_stop_with, Fv.sw_stop_try, Fv.sw_stop_finally, Fv.sw_stop_done, Fv.sw_stop_read, Fv.sw_stop_go, Fv.sw_stop_end, Fv.sw_go_with, Fv.sw_go_try, Fv.sw_go_finally, Fv.sw_go_done, Fv.sw_go_read, Fv.sw_go_stop, Fv.sw_go_end, Fv.sw_end_with, Fv.sw_end_try, Fv.sw_end_finally, Fv.sw_end_done, Fv.sw_end_read, Fv.sw_end_stop, Fv.sw_end_go, Bool.or_self, est]
          rfl
        | cons b r =>
          have hp4 := sA _ _ h1
          rw [est, wordsV_cons] at hp4
          cases eb : (b.tr && !b.sec) with
          | false =>
            k_call_by "fv2" (true_and, openTry, eb)
            refine no _ (s1.trans sA) ?_
            unfold nstep nstep0
            simp only [Fv.sw_with_try, Fv.sw_with_finally, Fv.sw_with_done, Fv.sw_with_read, Fv.sw_with_stop, Fv.sw_with_go, Fv.sw_with_end, Fv.sw_try_with, Fv.sw_try_finally, Fv.sw_try_done, Fv.sw_try_read, Fv.sw_try_stop, Fv.sw_try_go, Fv.sw_try_end, Fv.sw_finally_with, Fv.sw_finally_try, Fv.sw_finally_done, Fv.sw_finally_read, Fv.sw_finally_stop, Fv.sw_finally_go, Fv.sw_finally_end, Fv.sw_done_with, Fv.sw_done_try, Fv.sw_done_finally, Fv.sw_done_read, Fv.sw_done_stop, Fv.sw_done_go, Fv.sw_done_end, Fv.sw_read_with, Fv.sw_read_try, Fv.sw_read_finally, Fv.sw_read_done, Fv.sw_read_stop, Fv.sw_read_go, Fv.sw_read_end, Fv.sw_stop_with, Fv.sw_stop_try, Fv.sw_stop_finally, Fv.sw_stop_done, Fv.sw_stop_read, Fv.sw_stop_go, Fv.sw_stop_end, Fv.sw_go_with, Fv.sw_go_try, Fv.sw_go_finally, Fv.sw_go_done, Fv.sw_go_read, Fv.sw_go_stop, Fv.sw_go_end, Fv.sw_end_with, Fv.sw_end_try, Fv.sw_end_finally, Fv.sw_end_done, Fv.sw_end_read, Fv.sw_end_stop, Fv.sw_end_go, Bool.or_self, est, eb]
            rfl
          | true =>
            k_call_by "fv2" (true_and, openTry, eb, hp4, m1_ok, set_m1, bQ_f_law_are_nested_f1_2, Fv.sw_with_try, Fv.sw_with_finally, Fv.sw_with_done, Fv.sw_with_read, Fv.sw_with_stop, Fv.sw_with_go, Fv.sw_with_end, Fv.sw_try_with, Fv.sw_try_finally, Fv.sw_try_done, Fv.sw_try_read, Fv.sw_try_stop, Fv.sw_try_go, Fv.sw_try_end, Fv.sw_finally_with, Fv.sw_finally_try, Fv.sw_finally_done, Fv.sw_finally_read, Fv.sw_finally_stop, Fv.sw_finally_go, Fv.sw_finally_end, Fv.sw_done_with, Fv.sw_done_try, Fv.sw_done_finally, Fv.sw_done_read, Fv.sw_done_stop, Fv.sw_done_go, Fv.sw_done_end, Fv.sw_read_with, Fv.sw_read_try, Fv.sw_read_finally, Fv.sw_read_done, Fv.sw_read_stop, Fv.sw_read_go, Fv.sw_read_end, Fv.sw_stop_with, Fv.sw_stop_try, Fv.sw_stop_finally, Fv.sw_stop_done, Fv.sw_stop_read, Fv.sw_stop_go, Fv.sw_stop_end, Fv.sw_go_with, Fv.sw_go_try, Fv.sw_go_finally, Fv.sw_go_done, Fv.sw_go_read, Fv.sw_go_stop, Fv.sw_go_end, Fv.sw_end_with, Fv.sw_end_try, Fv.sw_end_finally, Fv.sw_end_done, Fv.sw_end_read, Fv.sw_end_stop, Fv.sw_end_go)
            refine fin ⟨⟨b.at_, true, true⟩ :: r, s.bl ++ [s.st], ptP s.fi (.inl (b.at_ : Int)) (.int (i : Int)), s.en⟩ _ ?_ (sub_put (s1.trans sA) hp) ?_
            · unfold nstep0
              simp only [Fv.sw_with_try, Fv.sw_with_finally, Fv.sw_with_done, Fv.sw_with_read, Fv.sw_with_stop, Fv.sw_with_go, Fv.sw_with_end, Fv.sw_try_with, Fv.sw_try_finally, Fv.sw_try_done, Fv.sw_try_read, Fv.sw_try_stop, Fv.sw_try_go, Fv.sw_try_end, Fv.sw_finally_with, Fv.sw_finally_try, Fv.sw_finally_done, Fv.sw_finally_read, Fv.sw_finally_stop, Fv.sw_finally_go, Fv.sw_finally_end, Fv.sw_done_with, Fv.sw_done_try, Fv.sw_done_finally, Fv.sw_done_read, Fv.sw_done_stop, Fv.sw_done_go, Fv.sw_done_end, Fv.sw_read_with, Fv.sw_read_try, Fv.sw_read_finally, Fv.sw_read_done, Fv.sw_read_stop, Fv.sw_read_go, Fv.sw_read_end, Fv.sw_stop_with, Fv.sw_stop_try, Fv.sw_stop_finally, Fv.sw_stop_done, Fv.sw_stop_read, Fv.sw_stop_go, Fv.sw_stop_end, Fv.sw_go_with, Fv.sw_go_try, Fv.sw_go_finally, Fv.sw_go_done, Fv.sw_go_read, Fv.sw_go_stop, Fv.sw_go_end, Fv.sw_end_with, Fv.sw_end_try, Fv.sw_end_finally, Fv.sw_end_done, Fv.sw_end_read, Fv.sw_end_stop, Fv.sw_end_go, Bool.or_self, est, eb]
              rfl
            · rw [pu_same, wordsV_cons]; rfl
      have n3 : (w == "finally") = false := by simpa using w3
      k_call_by "fv2" (true_and, bQ_f_law_are_nested_f1_1, n3)
      by_cases w4 : w = "done"
      · subst w4
        k_call_by "fv2" (true_and, bQ_f_law_are_nested_f1_2, h1)
        intro p2 hp2
        have hpp := ne_of_free h1 hp2
        rw [sl_words] at *
        refine ⟨by decide, fun p3 hp3 => ⟨by decide, fun p4 hp4 => ⟨by decide, ?_⟩⟩⟩
        have h23 := ne_of_free (pu_same (G := G1) (a := p2)) hp3
        have h34 := ne_of_free pu_same hp4
        have h24 := ne_of_free ((pu_ne h23).trans pu_same) hp4
        have sA : Sub G1 (pu (pu (pu G1 p2 (.lst ((lastW s.st).map .str))) p3 (.lst [.str "with"])) p4 (.lst [.str "finally"])) := ((Sub.new hp2).trans (Sub.new hp3)).trans (Sub.new hp4)
        have d3 : Dt (pu (pu (pu G1 p2 (.lst ((lastW s.st).map .str))) p3 (.lst [.str "with"])) p4 (.lst [.str "finally"])) (.ref p3) (.list [.str "with"]) := .lst (by rw [pu_ne h34, pu_same]) (dt_str1 ⟨by decide +kernel, by decide +kernel⟩)
        have d4 : Dt (pu (pu (pu G1 p2 (.lst ((lastW s.st).map .str))) p3 (.lst [.str "with"])) p4 (.lst [.str "finally"])) (.ref p4) (.list [.str "finally"]) := .lst pu_same (dt_str1 ⟨by decide +kernel, by decide +kernel⟩)
        refine in_dt (es := [PyData.list [.str "with"], .list [.str "finally"]]) (.lst (by rw [pu_ne h24, pu_ne h23, pu_same]) (dt_last _)) (.tup (.cons d3 (.cons d4 .nil))) (.cons d3 (.cons d4 .nil)) (Nat.le_trans (depth_last _) (by decide)) (by decide) (by decide) ?_
        rw [last_closable]
        generalize pu (pu (pu G1 p2 (.lst ((lastW s.st).map .str))) p3 (.lst [.str "with"])) p4 (.lst [.str "finally"]) = G2 at sA ⊢
        cases est : s.st with
        | nil =>
          k_call_by "fv2" (true_and, closable)
          refine no _ (s1.trans sA) ?_
          unfold nstep nstep0
          simp only [Fv.sw_with_try, Fv.sw_with_finally, Fv.sw_with_done, Fv.sw_with_read, Fv.sw_with_stop, Fv.sw_with_go, Fv.sw_with_end, Fv.sw_try_with, Fv.sw_try_finally, Fv.sw_try_done, Fv.sw_try_read, Fv.sw_try_stop, Fv.sw_try_go, Fv.sw_try_end, Fv.sw_finally_with, Fv.sw_finally_try, Fv.sw_finally_done, Fv.sw_finally_read, Fv.sw_finally_stop, Fv.sw_finally_go, Fv.sw_finally_end, Fv.sw_done_with, Fv.sw_done_try, Fv.sw_done_finally, Fv.sw_done_read, Fv.sw_done_stop, Fv.sw_done_go, Fv.sw_done_end, Fv.sw_read_with, Fv.sw_read_try, Fv.sw_read_finally, Fv.sw_read_done, Fv.sw_read_stop, Fv.sw_read_go, Fv.sw_read_end, Fv.sw_stop_with, Fv.sw_stop_try, Fv.sw_stop_finally, Fv.sw_stop_done, Fv.sw_stop_read, Fv.sw_stop_go, Fv.sw_stop_end, Fv.sw_go_with, Fv.sw_go_try, Fv.sw_go_finally, Fv.sw_go_done, Fv.sw_go_read, Fv.sw_go_stop, Fv.sw_go_end, Fv.sw_end_with, Fv.sw_end_try, Fv.sw_end_finally, Fv.sw_end_done, Fv.sw_end_read, Fv.sw_end_stop, Fv.sw_end_go, Bool.or_self, est]
          rfl
        | cons b r =>
          have hp4 := sA _ _ h1
          rw [est, wordsV_cons] at hp4
          cases eb : (b.tr && !b.sec) with
          | true =>
            k_call_by "fv2" (true_and, closable, eb)
            refine no _ (s1.trans sA) ?_
            unfold nstep nstep0
            simp only [Fv.sw_with_try, Fv.sw_with_finally, Fv.sw_with_done, Fv.sw_with_read, Fv.sw_with_stop, Fv.sw_with_go, Fv.sw_with_end, Fv.sw_try_with, Fv.sw_try_finally, Fv.sw_try_done, Fv.sw_try_read, Fv.sw_try_stop, Fv.sw_try_go, Fv.sw_try_end, Fv.sw_finally_with, Fv.sw_finally_try, Fv.sw_finally_done, Fv.sw_finally_read, Fv.sw_finally_stop, Fv.sw_finally_go, Fv.sw_finally_end, Fv.sw_done_with, Fv.sw_done_try, Fv.sw_done_finally, Fv.sw_done_read, Fv.sw_done_stop, Fv.sw_done_go, Fv.sw_done_end, Fv.sw_read_with, Fv.sw_read_try, Fv.sw_read_finally, Fv.sw_read_done, Fv.sw_read_stop, Fv.sw_read_go, Fv.sw_read_end, Fv.sw_stop_with, Fv.sw_stop_try, Fv.sw_stop_finally, Fv.sw_stop_done, Fv.sw_stop_read, Fv.sw_stop_go, Fv.sw_stop_end, Fv.sw_go_with, Fv.sw_go_try, Fv.sw_go_finally, Fv.sw_go_done, Fv.sw_go_read, Fv.sw_go_stop, Fv.sw_go_end, Fv.sw_end_with, Fv.sw_end_try, Fv.sw_end_finally, Fv.sw_end_done, Fv.sw_end_read, Fv.sw_end_stop, Fv.sw_end_go, Bool.or_self, est, eb]
            rfl
          | false =>
            k_call_by "fv2" (true_and, closable, eb, hp4, app_last, app_init)
            refine fin ⟨r, s.bl ++ [s.st], s.fi, ptP s.en (.inl (b.at_ : Int)) (.int (i : Int))⟩ _ ?_ (sub_put (s1.trans sA) hp) ?_
            · unfold nstep0
              simp only [Fv.sw_with_try, Fv.sw_with_finally, Fv.sw_with_done, Fv.sw_with_read, Fv.sw_with_stop, Fv.sw_with_go, Fv.sw_with_end, Fv.sw_try_with, Fv.sw_try_finally, Fv.sw_try_done, Fv.sw_try_read, Fv.sw_try_stop, Fv.sw_try_go, Fv.sw_try_end, Fv.sw_finally_with, Fv.sw_finally_try, Fv.sw_finally_done, Fv.sw_finally_read, Fv.sw_finally_stop, Fv.sw_finally_go, Fv.sw_finally_end, Fv.sw_done_with, Fv.sw_done_try, Fv.sw_done_finally, Fv.sw_done_read, Fv.sw_done_stop, Fv.sw_done_go, Fv.sw_done_end, Fv.sw_read_with, Fv.sw_read_try, Fv.sw_read_finally, Fv.sw_read_done, Fv.sw_read_stop, Fv.sw_read_go, Fv.sw_read_end, Fv.sw_stop_with, Fv.sw_stop_try, Fv.sw_stop_finally, Fv.sw_stop_done, Fv.sw_stop_read, Fv.sw_stop_go, Fv.sw_stop_end, Fv.sw_go_with, Fv.sw_go_try, Fv.sw_go_finally, Fv.sw_go_done, Fv.sw_go_read, Fv.sw_go_stop, Fv.sw_go_end, Fv.sw_end_with, Fv.sw_end_try, Fv.sw_end_finally, Fv.sw_end_done, Fv.sw_end_read, Fv.sw_end_stop, Fv.sw_end_go, Bool.or_self, est, eb]
              rfl
            · rw [pu_same]
      have n4 : (w == "done") = false := by simpa using w4
      k_call_by "fv2" (true_and, bQ_f_law_are_nested_f1_2, n4)
      refine fin ⟨s.st, s.bl ++ [s.st], s.fi, s.en⟩ _ ?_ s1 h1
      unfold nstep0
      simp only [n1, n3, n4]
      rfl
end
end Fv

set_option Elab.async false
set_option linter.all false
set_option maxRecDepth 100000
set_option maxHeartbeats 4000000
namespace Fv
open PySem hiding run
open L2
structure RefsAt (G : PH) (vs : List PV) (cs : List (List PV)) : Prop where
  len : vs.length = cs.length
  at_ : ∀ (i : Nat) (c : List PV), cs[i]? = some c → ∃ a, vs[i]? = some (PV.ref a) ∧ G a = some (.lst c)
theorem RefsAt.nil {G : PH} : RefsAt G [] [] := ⟨rfl, fun i c h => by simp at h⟩
theorem RefsAt.up {G G2 : PH} {vs : List PV} {cs : List (List PV)} (h : RefsAt G vs cs) (s : Sub G G2) : RefsAt G2 vs cs := ⟨h.len, fun i c e => by
  obtain ⟨a, h1, h2⟩ := h.at_ i c e
  exact ⟨a, h1, s _ _ h2⟩⟩
theorem RefsAt.put {G : PH} {vs : List PV} {cs : List (List PV)} (h : RefsAt G vs cs) {p : Addr} {o : PO} (hn : PV.ref p ∉ vs) : RefsAt (pu G p o) vs cs := ⟨h.len, fun i c e => by
  obtain ⟨a, h1, h2⟩ := h.at_ i c e
  refine ⟨a, h1, ?_⟩
  rw [pu_ne, h2]
  rintro rfl
  exact hn (List.mem_of_getElem? h1)⟩
theorem RefsAt.snoc {G : PH} {vs : List PV} {cs : List (List PV)} (h : RefsAt G vs cs) {a : Addr} {c : List PV} (e : G a = some (.lst c)) : RefsAt G (vs ++ [.ref a]) (cs ++ [c]) := ⟨by simp [h.len], fun i c2 e2 => by
  by_cases hi : i < cs.length
  · rw [List.getElem?_append_left hi] at e2
    rw [List.getElem?_append_left (by rw [h.len]; exact hi)]
    exact h.at_ i c2 e2
  · rw [List.getElem?_append_right (by omega)] at e2
    rw [List.getElem?_append_right (by rw [h.len]; omega), h.len]
    cases hj : i - cs.length with
    | zero =>
      rw [hj] at e2
      cases e2
      exact ⟨a, rfl, e⟩
    | succ n => rw [hj] at e2; simp at e2⟩
theorem nstep_some {s s2 : NS} {i : Nat} {w : Str} (h : nstep s i w = some s2) : nstep0 { s with bl := s.bl ++ [s.st] } i w = some s2 := by
  unfold nstep at h
  split at h
  · rename_i s3 e
    split at h
    · cases h
    · cases h; exact e
  · cases h
theorem nrun_cons {s : NS} {i : Nat} {w : Str} {ws : List Str} {sF : NS} (h : nrun s i (w :: ws) = some sF) : ∃ s2, nstep s i w = some s2 ∧ nrun s2 (i + 1) ws = some sF := by
  rw [nrun] at h
  split at h
  · rename_i s2 e
    exact ⟨s2, e, h⟩
  · cases h
theorem range_split (n : Nat) : List.range n = List.range' 0 n := List.range_eq_range'
section
variable {Γ : Str → Option FDef} {gl : Tab} {G : PH} {Q : VP} {P : Fv.PC}
theorem s_law_places (D : DefAt Γ "_law_places" bQ_f_law_places 1 3) (k : Nat) {v : PV} {rs : List Row} (hs : SeqP G v (rs.map Row.pv)) (hn : rs.length ≤ 1000) {sF : NS} (hr : nrun ns0 0 (rs.map (·.w)) = some sF)
    (q : ∀ a vs G2, Sub G G2 → G2 a = some (.lst vs) → RefsAt G2 vs (sF.bl.map plV ++ [[]]) → Q (.ref a) G2) :
    (Fv.run Γ gl (k + 1)).fn "_law_places" [v] [] G Q P := by
  refine run_def D rfl ?_
  show wSs _ _ _ [some v, none, none, none] G
  refine ss_step fun N0 hN0 => ?_
  k_call_by "fv2" (true_and, true_and)
  refine ⟨by decide, fun pb hb => ⟨by decide, fun pf hf => ?_⟩⟩
  have hbf := ne_of_free pu_same hf
  have hG : G pf = none := by rw [pu_ne (Ne.symm hbf)] at hf; exact hf
  refine hN0 _ _ (ss_step fun N hN => ?_)
  have s0 : Sub G (pu (pu G pb (.lst [])) pf (.lst [])) := (Sub.new hb).trans (Sub.new hf)
  k_call_by "fv2" (true_and, o_len_q (hs.up s0))
  refine ⟨by omega, by omega, ?_⟩
  rw [Int.toNat_natCast, range0, range_split]
  refine for_inv (fun xs σ G1 => ∃ (i m : Nat) (s : NS) (b : Addr) (vs : List PV) (x3 : Option PV), xs = ((List.range' i m).map fun i : Nat => PV.int (i : Int)) ∧ i + m = rs.length ∧ Sub G G1 ∧ σ = [some v, some (.ref b), some (.ref pf), x3] ∧ G1 b = some (.lst (plV s.st)) ∧ b ≠ pf ∧ G1 pf = some (.lst vs) ∧ PV.ref pf ∉ vs ∧ RefsAt G1 vs (s.bl.map plV) ∧ vs.length = i ∧ s.st.length ≤ 5 ∧ nrun s i ((rs.drop i).map (·.w)) = some sF)
    ⟨0, rs.length, ns0, pb, [], none, rfl, by omega, s0, rfl, by rw [pu_ne hbf, pu_same]; rfl, hbf, pu_same, List.not_mem_nil, RefsAt.nil, rfl, by decide, hr⟩ (fun _ _ _ _ => kept_nil) ?_ ?_
  · rintro σ G1 ⟨i, m, s, b, vs, x3, e, him, s1, rfl, h1, hbf, h2, hni, hra, hvl, hl, hrun⟩
    cases m with
    | succ _ => cases e
    | zero =>
      rw [List.drop_eq_nil_of_le (by omega)] at hrun
      cases hrun
      refine hN _ _ ?_
      k_call_by "fv2" (true_and, bQ_f_law_places_2)
      refine ⟨by decide, fun p3 h3 => ⟨by decide, fun p4 h4 => ?_⟩⟩
      have g3 := ne_of_free h2 h3
      have g4 := ne_of_free ((pu_ne g3).trans h2) h4
      have g34 := ne_of_free pu_same h4
      k_call_by "fv2" (true_and, (pu_ne g4).trans ((pu_ne g3).trans h2))
      refine ⟨size_small (by omega), fun p5 h5 => ?_⟩
      have g5 := ne_of_free ((pu_ne g34).trans pu_same) h5
      have sA : Sub G1 (pu (pu (pu G1 p3 (.lst [])) p4 (.lst [.ref p3])) p5 (.lst (vs ++ [.ref p3]))) := ((Sub.new h3).trans (Sub.new h4)).trans (Sub.new h5)
      refine ⟨_, Sub.refl _, q _ _ _ (s1.trans sA) pu_same ((hra.up sA).snoc ?_)⟩
      rw [pu_ne g5, pu_ne g34, pu_same]
  · rintro x xs σ G1 R ⟨i, m, s, b, vs, x3, e, him, s1, rfl, h1, hbf, h2, hni, hra, hvl, hl, hrun⟩ hR
    cases m with
    | zero => cases e
    | succ m =>
      rw [List.range'_succ, List.map_cons] at e
      cases e
      have hi : i < rs.length := by omega
      rw [List.drop_eq_getElem_cons hi, List.map_cons] at hrun
      obtain ⟨s2, hst, hrun⟩ := nrun_cons hrun
      have h5 := nstep_len hst
      have h0 := nstep_some hst
      refine ss_step fun N1 hN1 => ?_
      k_call_by "fv2" (true_and, h2, h1, o_idx_q (hs.up s1))
      intro pc hc
      have gc := ne_of_free h2 hc
      have gcb := ne_of_free h1 hc
      k_call_by "fv2" (true_and, (pu_ne gc).trans h2)
      refine ⟨by have : sizeLine = 16777216 := rfl; omega, ?_⟩
      refine hN1 _ _ ?_
      have hG2 : pu (pu G1 pc (.lst (plV s.st))) pf (.lst (vs ++ [.ref pc])) = pu (pu G1 pc (.lst (plV s.st))) pf (.lst (vs ++ [.ref pc])) := rfl
      have sG : Sub G (pu (pu G1 pc (.lst (plV s.st))) pf (.lst (vs ++ [.ref pc]))) := sub_put (s1.trans (Sub.new hc)) hG
      have hb2 : pu (pu G1 pc (.lst (plV s.st))) pf (.lst (vs ++ [.ref pc])) b = some (.lst (plV s.st)) := by rw [pu_ne hbf, pu_ne gcb, h1]
      have hf2 : pu (pu G1 pc (.lst (plV s.st))) pf (.lst (vs ++ [.ref pc])) pf = some (.lst (vs ++ [.ref pc])) := pu_same
      have hni2 : PV.ref pf ∉ vs ++ [.ref pc] := by
        simp only [List.mem_append, List.mem_singleton, not_or]
        exact ⟨hni, fun h => gc (by cases h; rfl)⟩
      have hra2 : RefsAt (pu (pu G1 pc (.lst (plV s.st))) pf (.lst (vs ++ [.ref pc]))) (vs ++ [.ref pc]) ((s.bl ++ [s.st]).map plV) := by
        rw [List.map_append]
        exact ((hra.up (Sub.new hc)).snoc pu_same).put hni2
      generalize pu (pu G1 pc (.lst (plV s.st))) pf (.lst (vs ++ [.ref pc])) = G2 at *
      clear hG2
      have fin : ∀ (b2 : Addr) (G3 : PH), Sub G2 G3 → G3 b2 = some (.lst (plV s2.st)) → b2 ≠ pf → s2.bl = s.bl ++ [s.st] → R [some v, some (.ref b2), some (.ref pf), some (.int (i : Int))] G3 := fun b2 G3 s3 e3 n3 ebl =>
        hR _ _ _ (Sub.refl _) ⟨i + 1, m, s2, b2, vs ++ [.ref pc], _, rfl, by omega, sG.trans s3, rfl, e3, n3, s3 _ _ hf2, hni2, by rw [ebl]; exact hra2.up s3, by simp [hvl], h5, hrun⟩
      have sz : (plV s.st).length + 1 ≤ sizeLine := size_le (by rw [plV_len]; omega)
      obtain ⟨w, its, ew⟩ : ∃ w its, rs[i] = ⟨w, its⟩ := ⟨_, _, rfl⟩
      have ea := atI_row hi
      rw [ew] at h0 ea
      simp only [] at h0 ea
      have sq := hs.up sG
      k_call_by "fv2" (true_and, bQ_f_law_places_f1_1, o_idx_q sq, ea, o_in2)
      refine ⟨by decide, ?_⟩
      have wt : ∀ t : Bool, (("with" : Str) == w || ("try" : Str) == w) = true → ∃ t, s2 = ⟨⟨i, t, false⟩ :: s.st, s.bl ++ [s.st], s.fi, s.en⟩ := fun _ h => by
        unfold nstep0 at h0
        rw [if_pos h] at h0
        cases h0
        exact ⟨_, rfl⟩
      split
      · rename_i h
        obtain ⟨t, rfl⟩ := wt true h
        refine ⟨by decide, by decide, fun p3 h3 => ?_⟩
        have g3 := ne_of_free hb2 h3
        k_call_by "fv2" (true_and, (pu_ne g3).trans hb2)
        refine ⟨sz, fun p4 h4 => ?_⟩
        refine fin p4 _ ((Sub.new h3).trans (Sub.new h4)) (by rw [pu_same, plV_cons]) ?_ rfl
        exact (ne_of_free ((Sub.new h3) _ _ hf2) h4).symm
      · rename_i h
        split
        · rename_i hw
          obtain rfl : w = "finally" := by simpa using hw
          unfold nstep0 at h0
          simp only [Fv.sw_with_try, Fv.sw_with_finally, Fv.sw_with_done, Fv.sw_with_read, Fv.sw_with_stop, Fv.sw_with_go, Fv.sw_with_end, Fv.sw_try_with, Fv.sw_try_finally, Fv.sw_try_done, Fv.sw_try_read, Fv.sw_try_stop, Fv.sw_try_go, Fv.sw_try_end, Fv.sw_finally_with, Fv.sw_finally_try, Fv.sw_finally_done, Fv.sw_finally_read, Fv.sw_finally_stop, Fv.sw_finally_go, Fv.sw_finally_end, Fv.sw_done_with, Fv.sw_done_try, Fv.sw_done_finally, Fv.sw_done_read, Fv.sw_done_stop, Fv.sw_done_go, Fv.sw_done_end, Fv.sw_read_with, Fv.sw_read_try, Fv.sw_read_finally, Fv.sw_read_done, Fv.sw_read_stop, Fv.sw_read_go, Fv.sw_read_end, Fv.sw_stop_with, Fv.sw_stop_try, Fv.sw_stop_finally, Fv.sw_stop_done, Fv.sw_stop_read, Fv.sw_stop_go, Fv.sw_stop_end, Fv.sw_go_with, Fv.sw_go_try, Fv.sw_go_finally, Fv.sw_go_done, Fv.sw_go_read, Fv.sw_go_stop, Fv.sw_go_end, Fv.sw_end_with, Fv.sw_end_try, Fv.sw_end_finally, Fv.sw_end_done, Fv.sw_end_read, Fv.sw_end_stop, Fv.sw_end_go, Bool.or_self] at h0
          cases est : s.st with
          | nil => rw [est] at h0; cases h0
          | cons b0 r =>
            rw [est] at h0 hb2
            cases eb : (b0.tr && !b0.sec) with
            | false => simp only [eb] at h0; cases h0
            | true =>
              simp only [eb] at h0
              cases h0
              rw [plV_cons] at hb2
              k_call_by "fv2" (true_and, hb2, atI_m1, sl_init)
              intro p3 h3
              have g3 := ne_of_free hb2 h3
              k_call_by "fv2" (true_and, (pu_ne g3).trans hb2, atI_m1)
              refine ⟨by decide, by decide, fun p4 h4 => ?_⟩
              have g34 := ne_of_free pu_same h4
              k_call_by "fv2" (true_and, (pu_ne g34).trans pu_same)
              have l1 : (plV r).length + 1 ≤ sizeLine := size_le (by rw [plV_len]; rw [est] at hl; simp at hl; omega)
              refine ⟨l1, fun p5 h5 => ?_⟩
              refine fin p5 _ (((Sub.new h3).trans (Sub.new h4)).trans (Sub.new h5)) (by rw [pu_same, plV_cons]) ?_ (by rw [est])
              exact (ne_of_free ((Sub.new h4) _ _ ((Sub.new h3) _ _ hf2)) h5).symm
        · rename_i hw
          split
          · rename_i hd
            obtain rfl : w = "done" := by simpa using hd
            unfold nstep0 at h0
            simp only [Fv.sw_with_try, Fv.sw_with_finally, Fv.sw_with_done, Fv.sw_with_read, Fv.sw_with_stop, Fv.sw_with_go, Fv.sw_with_end, Fv.sw_try_with, Fv.sw_try_finally, Fv.sw_try_done, Fv.sw_try_read, Fv.sw_try_stop, Fv.sw_try_go, Fv.sw_try_end, Fv.sw_finally_with, Fv.sw_finally_try, Fv.sw_finally_done, Fv.sw_finally_read, Fv.sw_finally_stop, Fv.sw_finally_go, Fv.sw_finally_end, Fv.sw_done_with, Fv.sw_done_try, Fv.sw_done_finally, Fv.sw_done_read, Fv.sw_done_stop, Fv.sw_done_go, Fv.sw_done_end, Fv.sw_read_with, Fv.sw_read_try, Fv.sw_read_finally, Fv.sw_read_done, Fv.sw_read_stop, Fv.sw_read_go, Fv.sw_read_end, Fv.sw_stop_with, Fv.sw_stop_try, Fv.sw_stop_finally, Fv.sw_stop_done, Fv.sw_stop_read, Fv.sw_stop_go, Fv.sw_stop_end, Fv.sw_go_with, Fv.sw_go_try, Fv.sw_go_finally, Fv.sw_go_done, Fv.sw_go_read, Fv.sw_go_stop, Fv.sw_go_end, Fv.sw_end_with, Fv.sw_end_try, Fv.sw_end_finally, Fv.sw_end_done, Fv.sw_end_read, Fv.sw_end_stop, Fv.sw_end_go, Bool.or_self] at h0
            cases est : s.st with
            | nil => rw [est] at h0; cases h0
            | cons b0 r =>
              rw [est] at h0 hb2
              cases eb : (b0.tr && !b0.sec) with
              | true => simp only [eb] at h0; cases h0
              | false =>
                simp only [eb] at h0
                cases h0
                rw [plV_cons] at hb2
                k_call_by "fv2" (true_and, hb2, sl_init)
                intro p3 h3
                refine fin p3 _ (Sub.new h3) pu_same (ne_of_free hf2 h3).symm (by rw [est])
          · rename_i hd
            unfold nstep0 at h0
            rw [if_neg h, if_neg hw, if_neg hd] at h0
            cases h0
            exact fin b _ (Sub.refl _) hb2 hbf rfl
theorem sl_tl1 {α : Type} (x : α) (xs : List α) : ((x :: xs).drop (HT.sIx (xs.length + 1) 0 (some 1))).take (HT.sIx (xs.length + 1) (xs.length + 1) none - HT.sIx (xs.length + 1) 0 (some 1)) = xs := sl_tl x xs
/-- a branch, both ways kept out of sight -/
theorem ifs_step {o : Orc} {c : T} {a b : Ss} {D : PD} {σ : PSt} {G : PH} (h : ∀ A B : PSt → PH → Prop, (∀ σ2 G2, wSs o a D σ2 G2 → A σ2 G2) → (∀ σ2 G2, wSs o b D σ2 G2 → B σ2 G2) → wT o c σ G (fun k G1 => if k = true then A σ G1 else B σ G1) D.ex) : wS o (.ifs c a b) D σ G := h _ _ (fun _ _ h => h) fun _ _ h => h
def Row.goals (r : Row) : List PV := r.its
def plD (st : List Blk) : List PyData := (st.map fun b => PyData.tuple [.int (b.at_ : Nat), .bool b.sec]).reverse
/-- the blocks round a row, or the end -/
def plAt (s : NS) (i : Nat) : PyData := .list (plD (s.bl.getD i []))
def goalBad (s : NS) (n i : Nat) (x : PV) : Bool := match x with
  | .int g => decide ((n : Int) < g) || !PyData.eqv (plAt s g.toNat) (plAt s i)
  | _ => false
def rowGoalsOk (s : NS) (n i : Nat) (r : Row) : Bool :=
  if (("go" : Str) == r.w || (("stop" : Str) == r.w || ("end" : Str) == r.w)) = true then !((s.bl.getD i []).any (·.sec)) && !(r.its.any (goalBad s n i)) else true
def goalsOk (s : NS) (rs : List Row) : Bool := (List.range rs.length).all fun i => match rs[i]? with
  | some r => rowGoalsOk s rs.length i r
  | none => true
def areTextB (rs : List Row) : Bool := decide (rs.length ≤ 24) && match nest (rs.map (·.w)) with
  | some s => goalsOk s rs && !hasCirc rs
  | none => false
theorem dt_pl (st : List Blk) : DtL G (plV st) (plD st) := by
  unfold plV plD
  rw [← List.map_reverse, ← List.map_reverse]
  induction st.reverse with
  | nil => exact .nil
  | cons b r ih => exact .cons (.tup (.cons (.int _) (.cons (.bl _) .nil))) ih
theorem depth_pl (st : List Blk) : (PyData.list (plD st)).depth ≤ 60 := by
  unfold plD
  rw [← List.map_reverse]
  have : ∀ l : List Blk, PyData.depthAll (l.map fun b => PyData.tuple [.int (b.at_ : Nat), .bool b.sec]) ≤ 5 := fun l => by
    induction l with
    | nil => simp [PyData.depthAll]
    | cons b l ih =>
      simp only [List.map_cons, PyData.depthAll, PyData.depth, Nat.max_le]
      exact ⟨by decide, ih⟩
  have := this st.reverse
  simp only [PyData.depth]
  omega
theorem nstep_bl {s s2 : NS} {i : Nat} {w : Str} (h : nstep s i w = some s2) : s2.bl = s.bl ++ [s.st] := by
  have h3 := nstep_some h
  unfold nstep0 at h3
  split at h3
  · cases h3; rfl
  split at h3
  · split at h3
    · split at h3
      · cases h3; rfl
      · cases h3
    · cases h3
  split at h3
  · split at h3
    · split at h3
      · cases h3
      · cases h3; rfl
    · cases h3
  · cases h3; rfl
theorem nrun_len : ∀ (ws : List Str) (s : NS) (i : Nat) (sF : NS), nrun s i ws = some sF → sF.bl.length = s.bl.length + ws.length ∧ ∀ j, j < s.bl.length → sF.bl[j]? = s.bl[j]?
  | [], s, i, sF, h => by cases h; exact ⟨by simp, fun _ _ => rfl⟩
  | w :: ws, s, i, sF, h => by
    obtain ⟨s2, h1, h2⟩ := nrun_cons h
    have e := nstep_bl h1
    obtain ⟨a, b⟩ := nrun_len ws s2 (i + 1) sF h2
    rw [e] at a b
    refine ⟨by rw [a]; simp; omega, fun j hj => ?_⟩
    rw [b j (by simp; omega), List.getElem?_append_left hj]
theorem nrun_small : ∀ (ws : List Str) (s : NS) (i : Nat) (sF : NS), nrun s i ws = some sF → s.st.length ≤ 5 → (∀ b ∈ s.bl, b.length ≤ 5) → ∀ b ∈ sF.bl, b.length ≤ 5
  | [], s, i, sF, h, _, k => by cases h; exact k
  | w :: ws, s, i, sF, h, hl, k => by
    obtain ⟨s2, h1, h2⟩ := nrun_cons h
    refine nrun_small ws s2 (i + 1) sF h2 (nstep_len h1) ?_
    rw [nstep_bl h1]
    intro b hb
    rcases List.mem_append.1 hb with hb | hb
    · exact k b hb
    · obtain rfl := List.mem_singleton.1 hb; exact hl
theorem nrun_getD {ws : List Str} {sF : NS} (h : nrun ns0 0 ws = some sF) (i : Nat) : (sF.bl.getD i []).length ≤ 5 := by
  rw [List.getD_eq_getElem?_getD]
  cases e : sF.bl[i]? with
  | none => simp
  | some b => exact nrun_small ws ns0 0 sF h (by decide) (fun b hb => nomatch hb) b (List.mem_of_getElem? e)
theorem nest_run {ws : List Str} {s : NS} (h : nest ws = some s) : nrun ns0 0 ws = some s ∧ s.st = [] ∧ s.bl.length = ws.length := by
  unfold nest at h
  split at h
  · rename_i s2 e
    split at h
    · rename_i h2
      cases h
      exact ⟨e, List.isEmpty_iff.1 h2, by have := (nrun_len _ _ _ _ e).1; simpa [ns0] using this⟩
    · cases h
  · cases h
def good (s : NS) (rs : List Row) (i : Nat) : Bool := (match rs[i]? with
  | some r => rowGoalsOk s rs.length i r
  | none => true) && !circ rs i rs.length i
theorem all_any {α : Type} (f g : α → Bool) : ∀ l : List α, (l.all f && !l.any g) = l.all fun x => f x && !g x
  | [] => rfl
  | x :: l => by
    rw [List.all_cons, List.any_cons, List.all_cons, ← all_any f g l]
    cases f x <;> cases g x <;> cases l.all f <;> cases l.any g <;> rfl
theorem good_all (s : NS) (rs : List Row) : (goalsOk s rs && !hasCirc rs) = (List.range' 0 rs.length).all (good s rs) := by
  unfold goalsOk hasCirc
  rw [all_any, range_split]
  rfl
def secF (y : PV) : Option PV := match y with
  | .tup [_, .bl true] => some (.int 1)
  | _ => none
def badF (s : NS) (n i : Nat) (y : PV) : Option PV := if goalBad s n i y = true then some (.int 1) else none
theorem ones {f : PV → Option PV} (hf : ∀ y z, f y = some z → z = .int 1) (xs : List PV) : DtL G (xs.filterMap f) ((xs.filterMap f).map fun _ => PyData.int 1) := by
  induction xs with
  | nil => exact .nil
  | cons x xs ih =>
    cases e : f x with
    | none => rw [List.filterMap_cons_none e]; exact ih
    | some z =>
      rw [List.filterMap_cons_some e]
      obtain rfl := hf x z e
      exact .cons (.int 1) ih
theorem depth_ones {α : Type} (xs : List α) : (PyData.list (xs.map fun _ => PyData.int 1)).depth ≤ 60 := by
  have : PyData.depthAll (xs.map fun _ => PyData.int 1) ≤ 1 := by
    induction xs with
    | nil => simp [PyData.depthAll]
    | cons x xs ih => simp only [List.map_cons, PyData.depthAll, PyData.depth, Nat.max_le]; exact ⟨by decide, ih⟩
  simp only [PyData.depth]
  omega
theorem eqv_empty {α : Type} (f : α → PyData) (xs : List α) : PyData.eqv (.list (xs.map f)) (.list []) = xs.isEmpty := by
  cases xs <;> simp [PyData.eqv, PyData.eqvAll]
theorem sec_empty (st : List Blk) : ((plV st).filterMap secF).isEmpty = !(st.any (·.sec)) := by
  unfold plV
  rw [← List.map_reverse, ← List.any_reverse]
  induction st.reverse with
  | nil => rfl
  | cons b r ih =>
    rw [List.map_cons, List.any_cons]
    cases eb : b.sec with
    | true => rfl
    | false => rw [List.filterMap_cons_none rfl, ih]; rfl
theorem bad_empty (s : NS) (n i : Nat) (xs : List PV) : (xs.filterMap (badF s n i)).isEmpty = !(xs.any (goalBad s n i)) := by
  induction xs with
  | nil => rfl
  | cons x xs ih =>
    rw [List.any_cons]
    cases e : goalBad s n i x with
    | true => rw [List.filterMap_cons_some (b := .int 1) (by unfold badF; rw [if_pos e])]; rfl
    | false => rw [List.filterMap_cons_none (by unfold badF; rw [e]; rfl), ih]; rfl
theorem pls_get (s : NS) {i : Nat} (h : i ≤ s.bl.length) : (s.bl.map plV ++ [[]])[i]? = some (plV (s.bl.getD i [])) := by
  by_cases hi : i < s.bl.length
  · rw [List.getElem?_append_left (by simpa using hi), List.getElem?_map, List.getElem?_eq_getElem hi, List.getD_eq_getElem?_getD, List.getElem?_eq_getElem hi]
    rfl
  · have : i = s.bl.length := by omega
    subst this
    rw [List.getElem?_append_right (by simp)]
    simp [plV]
theorem ints_its {r : Row} (h : RowOk r) (hw : (("go" : Str) == r.w || (("stop" : Str) == r.w || ("end" : Str) == r.w)) = true) : r.its.length ≤ 2 ∧ ∀ x ∈ r.its, ∃ g : Nat, x = .int g := by
  revert hw
  cases h <;> simp only [Fv.sw_with_try, Fv.sw_with_finally, Fv.sw_with_done, Fv.sw_with_read, Fv.sw_with_stop, Fv.sw_with_go, Fv.sw_with_end, Fv.sw_try_with, Fv.sw_try_finally, Fv.sw_try_done, Fv.sw_try_read, Fv.sw_try_stop, Fv.sw_try_go, Fv.sw_try_end, Fv.sw_finally_with, Fv.sw_finally_try, Fv.sw_finally_done, Fv.sw_finally_read, Fv.sw_finally_stop, Fv.sw_finally_go, Fv.sw_finally_end, Fv.sw_done_with, Fv.sw_done_try, Fv.sw_done_finally, Fv.sw_done_read, Fv.sw_done_stop, Fv.sw_done_go, Fv.sw_done_end, Fv.sw_read_with, Fv.sw_read_try, Fv.sw_read_finally, Fv.sw_read_done, Fv.sw_read_stop, Fv.sw_read_go, Fv.sw_read_end, Fv.sw_stop_with, Fv.sw_stop_try, Fv.sw_stop_finally, Fv.sw_stop_done, Fv.sw_stop_read, Fv.sw_stop_go, Fv.sw_stop_end, Fv.sw_go_with, Fv.sw_go_try, Fv.sw_go_finally, Fv.sw_go_done, Fv.sw_go_read, Fv.sw_go_stop, Fv.sw_go_end, Fv.sw_end_with, Fv.sw_end_try, Fv.sw_end_finally, Fv.sw_end_done, Fv.sw_end_read, Fv.sw_end_stop, Fv.sw_end_go, Bool.or_self] <;> intro hw <;> first | (cases hw; done) | skip
  · exact ⟨by simp, fun x hx => nomatch hx⟩
  · rename_i g
    refine ⟨by simp, fun x hx => ⟨g, by simpa using hx⟩⟩
  · rename_i g
    refine ⟨by simp, fun x hx => ⟨g, by simpa using hx⟩⟩
  · exact ⟨by simp, fun x hx => nomatch hx⟩
theorem s_law_are_text (D : DefAt Γ "_law_are_text" bQ_f_law_are_text 1 5) (DN : DefAt Γ "_law_are_nested" bQ_f_law_are_nested 1 2) (DP : DefAt Γ "_law_places" bQ_f_law_places 1 3) (DC : DefAt Γ "_law_circles" bQ_f_law_circles 2 2) (k : Nat) {rs : List Row} (hn : rs.length ≤ 1000) (ok : ∀ r ∈ rs, RowOk r)
    (q : ∀ G2, Sub G G2 → Q (.bl (areTextB rs)) G2) : (Fv.run Γ gl (k + 2)).fn "_law_are_text" [.tup (rs.map Row.pv)] [] G Q P := by
  have hs : ∀ {G : PH}, SeqP G (.tup (rs.map Row.pv)) (rs.map Row.pv) := .inl rfl
  refine run_def D rfl ?_
  show wSs _ _ _ [some (.tup (rs.map Row.pv)), none, none, none, none, none] G
  refine ss_step fun N0 hN0 => ?_
  k_call_by "fv2" (true_and, true_and)
  by_cases h24 : (24 : Int) < (rs.length : Nat)
  · rw [if_pos h24]
    refine ⟨_, Sub.refl _, ?_⟩
    have := q _ (Sub.refl _)
    unfold areTextB at this
    rw [decide_eq_false (by omega)] at this
    exact this
  rw [if_neg h24]
  refine s_law_nested DN k hs hn fun G1 s1 => ?_
  k_call_by "fv2" (true_and, true_and)
  cases en : nest (rs.map (·.w)) with
  | none =>
    k_call_by "fv2" (true_and, Option.isSome_none)
    refine ⟨_, Sub.refl _, ?_⟩
    have := q _ s1
    unfold areTextB at this
    rw [en, Bool.and_false] at this
    exact this
  | some s =>
    k_call_by "fv2" (true_and, Option.isSome_some)
    have eF : areTextB rs = (goalsOk s rs && !hasCirc rs) := by
      unfold areTextB
      rw [en, decide_eq_true (by omega), Bool.true_and]
    obtain ⟨er, est, ebl⟩ := nest_run en
    refine hN0 _ _ (ss_step fun N hN => ?_)
    k_call_by "fv2" (true_and, true_and)
    refine s_law_places DP k hs hn er fun pl vs G2 s2 h2 hra => ?_
    refine hN _ _ (ss_step fun N2 hN2 => ?_)
    k_call_by "fv2" (true_and, true_and)
    refine ⟨by omega, by omega, ?_⟩
    rw [Int.toNat_natCast, range0, range_split]
    rw [good_all] at eF
    refine for_inv (fun xs σ G3 => ∃ (i m : Nat) (x2 x3 x4 x5 : Option PV), xs = ((List.range' i m).map fun i : Nat => PV.int (i : Int)) ∧ i + m = rs.length ∧ Sub G2 G3 ∧ σ = [some (.tup (rs.map Row.pv)), some (.ref pl), x2, x3, x4, x5] ∧ (List.range' i m).all (good s rs) = areTextB rs)
      ⟨0, _, _, _, _, _, rfl, by omega, Sub.refl _, rfl, eF.symm⟩ (fun _ _ _ _ => kept_nil) ?_ ?_
    · rintro σ G3 ⟨i, m, x2, x3, x4, x5, e, him, s3, rfl, hall⟩
      cases m with
      | succ _ => cases e
      | zero =>
        refine hN2 _ _ ?_
        k_call_by "fv2" (true_and, bQ_f_law_are_text_3)
        have := q _ ((s1.trans s2).trans s3)
        rw [← hall] at this
        exact ⟨_, Sub.refl _, this⟩
    · rintro x xs σ G3 R ⟨i, m, x2, x3, x4, x5, e, him, s3, rfl, hall⟩ hR
      cases m with
      | zero => cases e
      | succ m =>
        rw [List.range'_succ, List.map_cons] at e
        cases e
        rw [List.range'_succ, List.all_cons] at hall
        have hi : i < rs.length := by omega
        have sG : Sub G G3 := (s1.trans s2).trans s3
        have no : ∀ G4, Sub G3 G4 → good s rs i = false → ∃ G5, Sub G5 G4 ∧ Q (.bl false) G5 := fun G4 s4 h => by
          rw [h, Bool.false_and] at hall
          refine ⟨_, Sub.refl _, ?_⟩
          rw [hall]
          exact q _ (sG.trans s4)
        have egood : good s rs i = (rowGoalsOk s rs.length i rs[i] && !circ rs i rs.length i) := by
          unfold good
          rw [List.getElem?_eq_getElem hi]
        have okr := ok _ (List.getElem_mem hi)
        rw [List.length_map] at ebl
        obtain ⟨ai, hvi, hai⟩ := hra.at_ i _ (pls_get s (by omega))
        have hiv : i < vs.length := by rw [hra.len]; simp; omega
        have evi : L2.atI vs (i : Int) = some (.ref ai) := by
          rw [atI_nat hiv]
          rw [List.getElem?_eq_getElem hiv] at hvi
          exact hvi
        -- the end of the turn
        have fin : ∀ (x3 x4 x5 : Option PV) (G4 : PH), Sub G3 G4 → rowGoalsOk s rs.length i rs[i] = true → wSs (Fv.run Γ gl (k + 1)) bQ_f_law_are_text_f1_1 { endP Q P with nx := R, ct := R, bk := N2 } [some (.tup (rs.map Row.pv)), some (.ref pl), some (.int (i : Int)), x3, x4, x5] G4 := fun x3 x4 x5 G4 s4 hg => by
          k_call_by "fv2" (true_and, bQ_f_law_are_text_f1_1)
          refine s_law_circles DC k hs hn ok ?_
          cases ec : circ rs i rs.length i with
          | true =>
            k_call_by "fv2" (true_and, true_and)
            refine no _ s4 ?_
            rw [egood, ec, Bool.not_true, Bool.and_false]
          | false =>
            k_call_by "fv2" (true_and, true_and)
            rw [egood, hg, ec] at hall
            exact hR _ _ _ (Sub.refl _) ⟨i + 1, m, _, _, _, _, rfl, by omega, s3.trans s4, rfl, hall⟩
        refine ss_step fun N3 hN3 => ?_
        refine ifs_step fun A B hA hB => ?_
        k_call_by "fv2" (true_and, atI_row hi, o_in3)
        refine ⟨by decide, ?_⟩
        split
        · rename_i hw
          obtain ⟨hl2, hints⟩ := ints_its okr hw
          have erg : rowGoalsOk s rs.length i rs[i] = (!((s.bl.getD i []).any (·.sec)) && !(rs[i].its.any (goalBad s rs.length i))) := by
            unfold rowGoalsOk
            rw [if_pos hw]
          refine hA _ _ (ss_step fun N4 hN4 => ?_)
          refine ifs_step fun A1 B1 hA1 hB1 => ?_
          k_call_by "fv2" (true_and, s3 _ _ h2, evi, s3 _ _ hai, wipeP)
          refine lc_sub secF (kept_one (s3 _ _ hai)) (size_le (by rw [plV_len]; have := nrun_getD er i; omega)) ?_ ?_
          · intro y hy G4 s4 N5 M5 hN5 hM5
            unfold plV at hy
            rw [List.mem_reverse, List.mem_map] at hy
            obtain ⟨b, hb, rfl⟩ := hy
            k_call_by "fv2" (true_and, true_and)
            refine ⟨rfl, ?_⟩
            cases eb : b.sec with
            | true => exact hN5 _ _ s4 (by simp [secF, eb])
            | false => exact hM5 _ s4 (by simp [secF, eb])
          · intro G4 s4 D1 hD1
            refine ⟨by decide, fun p2 hp2 => ?_⟩
            have g12 := ne_of_free pu_same hp2
            have s5 : Sub G3 (pu (pu G4 D1 (.lst ((plV (s.bl.getD i [])).filterMap secF))) p2 (.lst [])) := (s4.trans (Sub.new hD1)).trans (Sub.new hp2)
            refine eq_dt (.lst (by rw [pu_ne g12, pu_same]) (ones (fun y z h => by unfold secF at h; split at h <;> cases h; rfl) _)) (.lst pu_same .nil) (depth_ones _) (by decide) ?_
            rw [eqv_empty, sec_empty]
            generalize pu (pu G4 D1 (.lst ((plV (s.bl.getD i [])).filterMap secF))) p2 (.lst []) = G5 at s5 ⊢
            clear hD1 hp2
            cases esec : (s.bl.getD i []).any (·.sec) with
            | true =>
              k_call_by "fv2" (true_and, true_and)
              refine hA1 _ _ ?_
              k_call_by "fv2" (true_and, true_and)
              refine no _ s5 ?_
              rw [egood, erg, esec]
              rfl
            | false =>
              k_call_by "fv2" (true_and, true_and)
              refine hB1 _ _ (ss_nil (hN4 _ _ (ss_step fun N6 hN6 => ?_)))
              refine ifs_step fun A2 B2 hA2 hB2 => ?_
              rw [esec, Bool.not_false, Bool.true_and] at erg
              k_call_by "fv2" (true_and, atI_row hi, sl_tl1, wipeP)
              refine lc_sub (badF s rs.length i) kept_nil (size_le (by omega)) ?_ ?_
              · intro y hy G6 s6 N7 M7 hN7 hM7
                obtain ⟨g, rfl⟩ := hints y hy
                k_call_by "fv2" (true_and, true_and)
                by_cases hgn : (rs.length : Int) < (g : Int)
                · rw [if_pos hgn]
                  refine hN7 _ _ s6 ?_
                  unfold badF goalBad
                  simp only [decide_eq_true hgn, Bool.true_or, if_true]
                · rw [if_neg hgn]
                  obtain ⟨ag, hvg, hag⟩ := hra.at_ g _ (pls_get s (by omega))
                  have hgv : g < vs.length := by rw [hra.len]; simp; omega
                  have evg : L2.atI vs (g : Int) = some (.ref ag) := by
                    rw [atI_nat hgv]
                    rw [List.getElem?_eq_getElem hgv] at hvg
                    exact hvg
                  have s26 : Sub G2 G6 := (s3.trans s5).trans s6
                  k_call_by "fv2" (true_and, s26 _ _ h2, evg, evi)
                  refine eq_dt (.lst (s26 _ _ hag) (dt_pl _)) (.lst (s26 _ _ hai) (dt_pl _)) (depth_pl _) (depth_pl _) ?_
                  have eb : badF s rs.length i (.int (g : Int)) = if (!PyData.eqv (.list (plD (s.bl.getD g []))) (.list (plD (s.bl.getD i [])))) = true then some (.int 1) else none := by
                    unfold badF goalBad plAt
                    simp only [decide_eq_false hgn, Bool.false_or, Int.toNat_natCast]
                  split
                  · rename_i h
                    exact hN7 _ _ s6 (by rw [eb, if_pos h])
                  · rename_i h
                    exact hM7 _ s6 (by rw [eb, if_neg h])
              · intro G6 s6 D3 hD3
                refine ⟨by decide, fun p4 hp4 => ?_⟩
                have g34 := ne_of_free pu_same hp4
                have s7 : Sub G3 (pu (pu G6 D3 (.lst (rs[i].its.filterMap (badF s rs.length i)))) p4 (.lst [])) := ((s5.trans s6).trans (Sub.new hD3)).trans (Sub.new hp4)
                refine eq_dt (.lst (by rw [pu_ne g34, pu_same]) (ones (fun y z h => by unfold badF at h; split at h <;> cases h; rfl) _)) (.lst pu_same .nil) (depth_ones _) (by decide) ?_
                rw [eqv_empty, bad_empty]
                cases ebad : rs[i].its.any (goalBad s rs.length i) with
                | true =>
                  k_call_by "fv2" (true_and, true_and)
                  refine hA2 _ _ ?_
                  k_call_by "fv2" (true_and, true_and)
                  refine no _ s7 ?_
                  rw [egood, erg, ebad]
                  rfl
                | false =>
                  k_call_by "fv2" (true_and, true_and)
                  refine hB2 _ _ (ss_nil (hN6 _ _ (ss_nil (hN3 _ _ (fin _ _ _ _ s7 ?_)))))
                  rw [erg, ebad]
                  rfl
        · rename_i hw
          refine hB _ _ (ss_nil (hN3 _ _ (fin _ _ _ _ (Sub.refl _) ?_)))
          unfold rowGoalsOk
          rw [if_neg hw]
end
end Fv

set_option Elab.async false
set_option linter.all false
set_option maxRecDepth 100000
set_option maxHeartbeats 2000000
namespace L_77
open PySem PySem.Spec PyProof.Rows L2 Fv
abbrev top (i : Nat) : Stmt := PySem.Challenge.pw_foundvalues_k77_strings.main.body.getD i (.Pass ⟨0, 0, 0, 0⟩)
def fs : List Str := ["show_map", "show_read", "show_pair", "_law_bag", "_law_take", "_law_name", "law"]
def bshow_map : Ss := .cons (.ret (.ite (.e (.isi (.var 0) "tuple")) (.fjoin (.one (.cst (.str "found+")) (.one (.fmt (.idx (.var 0) (.cst (.int 1)))) (.nil)))) (.blt .str (.one (.var 0) (.nil))))) .nil
def dshow_map : FDef := { pos := ["mapping"], ko := [], va := none, N := ["mapping"], body := bshow_map, dfl := [], kdf := [] }
def bshow_read_1 : Ss := .cons (.ret (.cst (.str ""))) .nil
def bshow_read : Ss := .cons (.mat (.var 0) (.pat (.seq (.cons (.cap 1) (.cons (.cap 2) (.cons (.non) (.nil))))) (.cons (.ret (.fjoin (.one (.fmt (.var 1)) (.one (.cst (.str " ")) (.one (.fmt (.var 2)) (.nil))))))
    (.nil)) (.pat (.seq (.cons (.cap 1) (.cons (.cap 2) (.cons (.seq (.cons (.cap 3) (.cons (.cap 4) (.nil)))) (.nil))))) (.cons (.ret (.fjoin (.one (.fmt (.var 1)) (.one (.cst (.str " ")) (.one (.fmt (.var 2)) (.one (.cst (.str " by ")) (.one (.fmt (.var 3)) (.one (.cst (.str " ")) (.one (.fmt (.var 4)) (.nil))))))))))
    (.nil)) (.nil)))) bshow_read_1
def dshow_read : FDef := { pos := ["read"], ko := [], va := none, N := ["read", "row", "value", "run", "begin"], body := bshow_read, dfl := [], kdf := [] }
def bshow_pair_1 : Ss := .cons (.ret (.ite (.cmp .Eq (.var 1) (.var 2)) (.var 1) (.fjoin (.one (.fmt (.var 1)) (.one (.cst (.str " ")) (.one (.fmt (.var 2)) (.nil))))))) .nil
def bshow_pair : Ss := .cons (.asg (.tup (.cons (.name 1) (.cons (.name 2) (.nil)))) (.var 0)) bshow_pair_1
def dshow_pair : FDef := { pos := ["pair"], ko := [], va := none, N := ["pair", "one", "other"], body := bshow_pair, dfl := [], kdf := [] }
def bf_law_bag_2 : Ss := .cons (.ret (.lst (.one (.var 3) (.one (.bin .Mod (.bin .Mult (.bin .Add (.bin .Add (.bin .Mod (.var 2) (.cst (.int 2305843009213693951))) (.bin .Mult (.cst (.int 9109)) (.var 1))) (.cst (.int 71))) (.cst (.int 104395303))) (.cst (.int 2305843009213693951))) (.one (.cst (.int 0)) (.nil)))))) .nil
def bf_law_bag_1 : Ss := .cons (.asg (.name 3) (.ite (.cmp .GtE (.blt .abs (.one (.var 2) (.nil))) (.bin .Pow (.cst (.int 10)) (.cst (.int 18)))) (.blt .abs (.one (.var 2) (.nil))) (.cst (.int 0)))) bf_law_bag_2
def bf_law_bag : Ss := .cons (.asg (.name 2) (.ite (.cmp .Lt (.var 1) (.blt .len (.one (.var 0) (.nil)))) (.idx (.var 0) (.var 1)) (.cst (.int 0)))) bf_law_bag_1
def df_law_bag : FDef := { pos := ["_law_script", "_law_at"], ko := [], va := none, N := ["_law_script", "_law_at", "_law_cell", "_law_digits"], body := bf_law_bag, dfl := [], kdf := [] }
def bf_law_take_4 : Ss := .cons (.ret (.bin .Mod (.bin .FloorDiv (.var 3) (.cst (.int 1024))) (.var 1))) .nil
def bf_law_take_3 : Ss := .cons (.asg (.name 3) (.bin .Mod (.bin .Pow (.bin .Add (.var 3) (.bin .Mult (.cst (.int 295075147)) (.idx (.var 0) (.cst (.int 2))))) (.cst (.int 2))) (.cst (.int 2305843009213693951)))) bf_law_take_4
def bf_law_take_2 : Ss := .cons (.asg (.name 3) (.bin .Mod (.bin .Pow (.bin .Add (.idx (.var 0) (.cst (.int 1))) (.bin .Mult (.cst (.int 2000213)) (.idx (.var 0) (.cst (.int 2))))) (.cst (.int 3))) (.cst (.int 2305843009213693921)))) bf_law_take_3
def bf_law_take_1 : Ss := .cons (.asg (.sub (.var 0) (.cst (.int 2))) (.bin .Add (.idx (.var 0) (.cst (.int 2))) (.cst (.int 1)))) bf_law_take_2
def bf_law_take : Ss := .cons (.ifs (.cmp .Gt (.idx (.var 0) (.cst (.int 0))) (.cst (.int 0))) (.cons (.asg (.name 2) (.bin .Mod (.idx (.var 0) (.cst (.int 0))) (.var 1)))
    (.cons (.asg (.sub (.var 0) (.cst (.int 0))) (.bin .FloorDiv (.idx (.var 0) (.cst (.int 0))) (.var 1)))
    (.cons (.ret (.var 2))
    (.nil)))) (.nil)) bf_law_take_1
def df_law_take : FDef := { pos := ["_law_bag_here", "_law_many"], ko := [], va := none, N := ["_law_bag_here", "_law_many", "_law_digit", "_law_mixed"], body := bf_law_take, dfl := [], kdf := [] }
def bf_law_name_1 : Ss := .cons (.ret (.bm .join (.cst (.str "")) (.one (.lc (.idx (.var 1) (.call "_law_take" (.one (.var 0) (.one (.cst (.int 26)) (.nil))) [] (.nil))) (.name 2) (.rng (.bin .Add (.cst (.int 1)) (.call "_law_take" (.one (.var 0) (.one (.cst (.int 8)) (.nil))) [] (.nil)))) (.nil) [("_law_k", 2)]) (.nil)))) .nil
def bf_law_name : Ss := .cons (.asg (.name 1) (.cst (.str "abcdefghijklmnopqrstuvwxyz"))) bf_law_name_1
def df_law_name : FDef := { pos := ["_law_bag_here"], ko := [], va := none, N := ["_law_bag_here", "_law_letters", "_law_k"], body := bf_law_name, dfl := [], kdf := [] }
def blaw_f2_7 : Ss := .cons (.ifs (.and (.cmp .NotEq (.var 9) (.var 10)) (.cmp .NotEq (.call "show_pair" (.nil) ["pair"] (.one (.tup (.one (.var 9) (.one (.var 10) (.nil)))) (.nil))) (.bin .Add (.bin .Add (.var 9) (.cst (.str " "))) (.var 10)))) (.cons (.ret (.cst (.bl false)))
    (.nil)) (.nil)) .nil
def blaw_f2_6 : Ss := .cons (.ifs (.cmp .NotEq (.call "show_pair" (.one (.tup (.one (.var 9) (.one (.var 9) (.nil)))) (.nil)) [] (.nil)) (.var 9)) (.cons (.ret (.cst (.bl false)))
    (.nil)) (.nil)) blaw_f2_7
def blaw_f2_5 : Ss := .cons (.asg (.tup (.cons (.name 9) (.cons (.name 10) (.nil)))) (.blt .srt (.one (.lst (.one (.call "_law_name" (.one (.var 2) (.nil)) [] (.nil)) (.one (.call "_law_name" (.one (.var 2) (.nil)) [] (.nil)) (.nil)))) (.nil)))) blaw_f2_6
def blaw_f2_4 : Ss := .cons (.ifs (.cmp .NotEq (.call "show_read" (.nil) ["read"] (.one (.tup (.one (.var 5) (.one (.var 4) (.one (.tup (.one (.var 7) (.one (.var 6) (.nil)))) (.nil))))) (.nil))) (.bin .Add (.bin .Add (.bin .Add (.bin .Add (.var 8) (.cst (.str " by "))) (.blt .str (.one (.var 7) (.nil)))) (.cst (.str " "))) (.blt .str (.one (.var 6) (.nil))))) (.cons (.ret (.cst (.bl false)))
    (.nil)) (.nil)) blaw_f2_5
def blaw_f2_3 : Ss := .cons (.ifs (.cmp .NotEq (.call "show_read" (.one (.tup (.one (.var 5) (.one (.var 4) (.one (.cst .non) (.nil))))) (.nil)) [] (.nil)) (.var 8)) (.cons (.ret (.cst (.bl false)))
    (.nil)) (.nil)) blaw_f2_4
def blaw_f2_2 : Ss := .cons (.asg (.name 8) (.bin .Add (.bin .Add (.blt .str (.one (.var 5) (.nil))) (.cst (.str " "))) (.blt .str (.one (.var 4) (.nil))))) blaw_f2_3
def blaw_f2_1 : Ss := .cons (.ifs (.or (.cmp .NotEq (.call "show_map" (.one (.var 4) (.nil)) [] (.nil)) (.blt .str (.one (.var 4) (.nil)))) (.cmp .NotEq (.call "show_map" (.nil) ["mapping"] (.one (.tup (.one (.cst (.str "found")) (.one (.var 4) (.nil)))) (.nil))) (.bin .Add (.cst (.str "found+")) (.blt .str (.one (.var 4) (.nil)))))) (.cons (.ret (.cst (.bl false)))
    (.nil)) (.nil)) blaw_f2_2
def blaw_f2 : Ss := .cons (.asg (.tup (.cons (.name 4) (.cons (.name 5) (.cons (.name 6) (.cons (.name 7) (.nil)))))) (.tup (.one (.call "_law_take" (.one (.var 2) (.one (.cst (.int 5)) (.nil))) [] (.nil)) (.one (.call "_law_take" (.one (.var 2) (.one (.cst (.int 24)) (.nil))) [] (.nil)) (.one (.call "_law_take" (.one (.var 2) (.one (.cst (.int 24)) (.nil))) [] (.nil)) (.one (.call "_law_take" (.one (.var 2) (.one (.cst (.int 300)) (.nil))) [] (.nil)) (.nil))))))) blaw_f2_1
def blaw_f1_1 : Ss := .cons (.for_ (.name 3) (.rng (.cst (.int 12))) blaw_f2) .nil
def blaw_f1 : Ss := .cons (.asg (.name 2) (.call "_law_bag" (.one (.var 0) (.one (.var 1) (.nil))) [] (.nil))) blaw_f1_1
def blaw_1 : Ss := .cons (.ret (.cst (.bl true))) .nil
def blaw : Ss := .cons (.for_ (.name 1) (.rng (.blt .max (.one (.cst (.int 1)) (.one (.blt .min (.one (.cst (.int 4)) (.one (.blt .len (.one (.var 0) (.nil))) (.nil)))) (.nil))))) blaw_f1) blaw_1
def dlaw : FDef := { pos := ["_law_script"], ko := [], va := none, N := ["_law_script", "_law_at", "_law_bag_here", "_law_turn", "_law_number", "_law_row", "_law_begin", "_law_owner", "_law_line", "_law_one", "_law_other"], body := blaw, dfl := [], kdf := [] }
def gs : List (Str × PV) := []
def cs : Cs0 := { cl := [], nf := [], mt := [], ini := [] }
def gl : Tab := tabOf gs cs
def tbl : List (Str × FDef) := [(("show_map" : Str), dshow_map), (("show_read" : Str), dshow_read), (("show_pair" : Str), dshow_pair), (("_law_bag" : Str), df_law_bag), (("_law_take" : Str), df_law_take), (("_law_name" : Str), df_law_name), (("law" : Str), dlaw)]
def Γ : Str → Option FDef := fun x => tbl.lookup x
end L_77

set_option Elab.async false
set_option linter.all false
set_option maxRecDepth 100000
set_option maxHeartbeats 4000000
namespace L_77
open PySem hiding run
open Fv
/-- what the law's defs must be -/
structure KF (Γ : Str → Option FDef) (gl : Tab) : Prop where
  mp : Γ "show_map" = some dshow_map
  rd : Γ "show_read" = some dshow_read
  pr : Γ "show_pair" = some dshow_pair
  bag : Γ "_law_bag" = some df_law_bag
  take : Γ "_law_take" = some df_law_take
  name_ : Γ "_law_name" = some df_law_name
  law : Γ "law" = some dlaw
section
variable {Γ : Str → Option FDef} {gl : Tab} {G : PH} {D : PD} {Q : VP} {P : Fv.PC} {a : Addr} {o : PO}
theorem s_take (F : KF Γ gl) (k : Nat) {c many : Int} (h : G a = some o) (b : BagO o c) (hc : c < 10000000000) (hm : 0 < many) (hm2 : many < 2 ^ 30)
    (q : ∀ r o2, 0 ≤ r → r < many → BagO o2 (c + 1) → Q (.int r) (pu G a o2)) : (Fv.run Γ gl (k + 1)).fn "_law_take" [.ref a, .int many] [] G Q P := by
  obtain ⟨d, m, n, rfl, hd, hm0, hm1, hn0, hn⟩ := b
  refine run_call F.take (d := df_law_take) rfl ?_
  show wSs _ bf_law_take _ [some (.ref a), some (.int many), none, none] G
  k_call_by "fv2" (true_and, bf_law_take, bf_law_take_1, bf_law_take_2, bf_law_take_3, bf_law_take_4, h)
  split
  · rename_i h0
    refine ⟨hm, ⟨hm, hm2⟩, _, Sub.refl _, ?_⟩
    exact q _ _ (Int.emod_nonneg _ (by omega)) (Int.emod_lt_of_pos _ hm) ⟨_, _, _, rfl, Int.ediv_nonneg hd (by omega), hm0, hm1, hn0, by omega⟩
  · have e1 : 0 ≤ (m + 2000213 * (n + 1)) ^ 3 % 2305843009213693921 := Int.emod_nonneg _ (by omega)
    have e2 : (m + 2000213 * (n + 1)) ^ 3 % 2305843009213693921 < 2305843009213693921 := Int.emod_lt_of_pos _ (by omega)
    generalize (m + 2000213 * (n + 1)) ^ 3 % 2305843009213693921 = X at e1 e2 ⊢
    refine ⟨.inl (by omega), ⟨by omega, by omega, by omega⟩, .inl (by omega), ⟨by omega, by omega, by omega⟩, ⟨by omega, by omega⟩, hm, _, Sub.refl _, ?_⟩
    exact q _ _ (Int.emod_nonneg _ (by omega)) (Int.emod_lt_of_pos _ hm) ⟨_, _, _, rfl, hd, hm0, hm1, by omega, by omega⟩
theorem s_bag (F : KF Γ gl) (k : Nat) {ns : List Int} {i : Int} (h0 : 0 ≤ i) (h1 : i < 1000)
    (q : ∀ a o, G a = none → BagO o 0 → Q (.ref a) (pu G a o)) : (Fv.run Γ gl (k + 1)).fn "_law_bag" [.wl (ns.map .int), .int i] [] G Q P := by
  refine run_call F.bag (d := df_law_bag) rfl ?_
  show wSs _ bf_law_bag _ [some (.wl (ns.map .int)), some (.int i), none, none] G
  have go : ∀ x : Int, wSs (Fv.run Γ gl k) bf_law_bag_1 (endP Q P) [some (.wl (ns.map .int)), some (.int i), some (.int x), none] G := fun x => by
    k_call_by "fv2" (true_and, bf_law_bag_1, bf_law_bag_2)
    have hx : 0 ≤ (if x < 0 then -x else x) := by split <;> omega
    have hm : ∀ z : Int, 0 ≤ z % 2305843009213693951 ∧ z % 2305843009213693951 < 2305843009213693951 := fun z => ⟨Int.emod_nonneg _ (by omega), Int.emod_lt_of_pos _ (by omega)⟩
    generalize (if x < 0 then -x else x) = y at hx ⊢
    refine ⟨⟨by omega, by omega, by omega⟩, ?_⟩
    split
    · refine ⟨.inl (by omega), .inr (by omega), by decide, fun p hp => ⟨_, Sub.refl _, q p _ hp ⟨_, _, _, rfl, hx, (hm _).1, (hm _).2, by omega, by omega⟩⟩⟩
    · refine ⟨.inl (by omega), .inr (by omega), by decide, fun p hp => ⟨_, Sub.refl _, q p _ hp ⟨_, _, _, rfl, by omega, (hm _).1, (hm _).2, by omega, by omega⟩⟩⟩
  refine ss_step fun N hN => ?_
  k_call_by "fv2" (true_and, List.length_map)
  split
  · rename_i hl
    obtain ⟨v, e⟩ := atI_map (ns := ns) h0 hl
    simp only [e]
    exact hN _ _ (go v)
  · exact hN _ _ (go 0)
theorem log_small {i : Int} (h0 : 0 ≤ i) (h : i < 1000) : i.natAbs.log2 < 1920 := by
  obtain ⟨n, rfl⟩ : ∃ n : Nat, i = (n : Int) := ⟨i.toNat, by omega⟩
  have : n < 2 ^ 10 := by omega
  by_cases e : n = 0
  · subst e; decide
  · have := (Nat.log2_lt (n := n) e).2 (show n < 2 ^ 10 by omega)
    show (n : Int).natAbs.log2 < 1920
    simp only [Int.natAbs_natCast]
    omega
theorem len_small {i : Int} (h0 : 0 ≤ i) (h : i < 1000) : (Str.ofString (toString i)).length ≤ 4 := by
  rw [PySem.ofString_length]
  exact PySem.int_text_length_le10 (a := i) (k := 3) (by decide) (by omega)
theorem empty_app (x : Str) : Str.empty ++ x = x := by
  cases x with
  | mk c => show (⟨#[] ++ c⟩ : Str) = ⟨c⟩; simp
theorem app_len (x y : Str) : (x ++ y).length = x.length + y.length := by
  show (x.cps ++ y.cps).size = _
  simp [Str.length]
def nS (i : Int) : Str := Str.ofString (toString i)
theorem s_map (F : KF Γ gl) (k : Nat) {i : Int} (h0 : 0 ≤ i) (h1 : i < 1000) {kw : List (Str × PV)} {xs : List PV} (hk : dshow_map.args xs kw = some [.int i]) (q : Q (.str (nS i)) G) : (Fv.run Γ gl (k + 1)).fn "show_map" xs kw G Q P := by
  refine run_call F.mp (d := dshow_map) hk ?_
  show wSs _ bshow_map _ [some (.int i)] G
  k_call_by "fv2" (true_and, bshow_map)
  exact ⟨log_small h0 h1, _, Sub.refl _, q⟩
theorem s_mapF (F : KF Γ gl) (k : Nat) {i : Int} (h0 : 0 ≤ i) (h1 : i < 1000) {kw : List (Str × PV)} {xs : List PV} (hk : dshow_map.args xs kw = some [.tup [.str "found", .int i]]) (q : Q (.str (Str.ofString "found+" ++ nS i)) G) : (Fv.run Γ gl (k + 1)).fn "show_map" xs kw G Q P := by
  refine run_call F.mp (d := dshow_map) hk ?_
  show wSs _ bshow_map _ [some (.tup [.str "found", .int i])] G
  have big : sizeLine = 16777216 := rfl
  k_call_by "fv2" (true_and, bshow_map)
  rw [empty_app]
  refine ⟨by decide +kernel, log_small h0 h1, ?_, _, Sub.refl _, q⟩
  have := len_small h0 h1
  rw [app_len]
  have e : (Str.ofString "found+").length = 6 := by decide +kernel
  omega
def lineR (r v : Int) : Str := nS r ++ Str.ofString " " ++ nS v
theorem lineR_len {r v : Int} (h0 : 0 ≤ r) (h1 : r < 1000) (h2 : 0 ≤ v) (h3 : v < 1000) : (lineR r v).length ≤ 9 := by
  unfold lineR
  rw [app_len, app_len]
  have a : (nS r).length ≤ 4 := len_small h0 h1
  have b : (nS v).length ≤ 4 := len_small h2 h3
  have e : (Str.ofString " ").length = 1 := by decide +kernel
  omega
theorem s_readN (F : KF Γ gl) (k : Nat) {r v : Int} (h0 : 0 ≤ r) (h1 : r < 1000) (h2 : 0 ≤ v) (h3 : v < 1000) {kw : List (Str × PV)} {xs : List PV} (hk : dshow_read.args xs kw = some [.tup [.int r, .int v, .non]]) (q : Q (.str (lineR r v)) G) : (Fv.run Γ gl (k + 1)).fn "show_read" xs kw G Q P := by
  refine run_call F.rd (d := dshow_read) hk ?_
  show wSs _ bshow_read _ [some (.tup [.int r, .int v, .non]), none, none, none, none] G
  have big : sizeLine = 16777216 := rfl
  refine ss_step fun N hN => ?_
  k_call_by "fv2" (true_and, ptM, ptsM, joinB, Pts.len, setB, List.cons_append, List.nil_append)
  rw [empty_app]
  have e : (Str.ofString " ").length = 1 := by decide +kernel
  have a : (nS r).length ≤ 4 := len_small h0 h1
  have b : (nS v).length ≤ 4 := len_small h2 h3
  refine ⟨log_small h0 h1, Nat.le_trans a (by omega), ?_, log_small h2 h3, Nat.le_trans (lineR_len h0 h1 h2 h3) (by omega), _, Sub.refl _, q⟩
  rw [app_len, e]
  show (nS r).length + 1 ≤ _
  omega
theorem s_readO (F : KF Γ gl) (k : Nat) {r v u b : Int} (h0 : 0 ≤ r) (h1 : r < 1000) (h2 : 0 ≤ v) (h3 : v < 1000) (h4 : 0 ≤ u) (h5 : u < 1000) (h6 : 0 ≤ b) (h7 : b < 1000) {kw : List (Str × PV)} {xs : List PV} (hk : dshow_read.args xs kw = some [.tup [.int r, .int v, .tup [.int u, .int b]]]) (q : Q (.str (lineR r v ++ Str.ofString " by " ++ nS u ++ Str.ofString " " ++ nS b)) G) : (Fv.run Γ gl (k + 1)).fn "show_read" xs kw G Q P := by
  refine run_call F.rd (d := dshow_read) hk ?_
  show wSs _ bshow_read _ [some (.tup [.int r, .int v, .tup [.int u, .int b]]), none, none, none, none] G
  have big : sizeLine = 16777216 := rfl
  refine ss_step fun N hN => ?_
  k_call_by "fv2" (true_and, ptM, ptsM, joinB, Pts.len, setB, List.cons_append, List.nil_append)
  rw [empty_app]
  have e : (Str.ofString " ").length = 1 := by decide +kernel
  have e2 : (Str.ofString " by ").length = 4 := by decide +kernel
  have l1 : (nS r).length ≤ 4 := len_small h0 h1
  have l2 : (nS v).length ≤ 4 := len_small h2 h3
  have l3 : (nS u).length ≤ 4 := len_small h4 h5
  have l4 : (nS b).length ≤ 4 := len_small h6 h7
  have f : ∀ i, Str.ofString (toString i) = nS i := fun _ => rfl
  simp only [f]
  refine ⟨log_small h0 h1, by omega, ?_, log_small h2 h3, ?_, ?_, log_small h4 h5, ?_, ?_, log_small h6 h7, ?_, _, Sub.refl _, q⟩
  all_goals (simp only [app_len]; omega)
theorem s_pair (F : KF Γ gl) (k : Nat) {x y : Str} (hx : x.length ≤ 8) (hy : y.length ≤ 8) {kw : List (Str × PV)} {xs : List PV} (hk : dshow_pair.args xs kw = some [.tup [.str x, .str y]]) (q : Q (.str (if (x == y) = true then x else x ++ Str.ofString " " ++ y)) G) : (Fv.run Γ gl (k + 1)).fn "show_pair" xs kw G Q P := by
  refine run_call F.pr (d := dshow_pair) hk ?_
  show wSs _ bshow_pair _ [some (.tup [.str x, .str y]), none, none] G
  have big : sizeLine = 16777216 := rfl
  refine ss_step fun N hN => ?_
  k_call_by "fv2" (true_and, true_and)
  refine ⟨rfl, hN _ _ ?_⟩
  have e : (Str.ofString " ").length = 1 := by decide +kernel
  k_call_by "fv2" (true_and, bshow_pair_1)
  cases h : x == y with
  | true =>
    rw [h] at q
    k_call_by "fv2" (true_and, true_and)
    exact ⟨_, Sub.refl _, q⟩
  | false =>
    rw [h] at q
    k_call_by "fv2" (true_and, true_and)
    rw [empty_app]
    refine ⟨by omega, by omega, ?_, by omega, ?_, _, Sub.refl _, q⟩
    all_goals (simp only [app_len]; omega)
theorem strs_map {zs : List Str} : strsP (zs.map PV.str) = some zs := by
  induction zs with
  | nil => rfl
  | cons x xs ih => simp only [List.map_cons, strsP, ih, Option.map_some]
theorem sum_le {zs : List Str} (h : ∀ z ∈ zs, z.length ≤ 1) : (zs.map (·.length)).sum ≤ zs.length := by
  induction zs with
  | nil => simp
  | cons p ps ih =>
    have := ih fun q hq => h q (List.mem_cons_of_mem _ hq)
    have := h p List.mem_cons_self
    simp only [List.map_cons, List.sum_cons, List.length_cons]
    omega
theorem join_len {zs : List Str} : (Txt.join (Str.ofString "") zs).length ≤ (zs.map (·.length)).sum := by
  have h1 := PySem.StrLaws.join_length_le (Str.ofString "") zs
  have e : (Str.ofString "").length = 0 := by decide +kernel
  rw [e, Nat.mul_zero, Nat.add_zero] at h1
  rw [TL.join_eq]
  exact h1
theorem s_name (F : KF Γ gl) (k : Nat) {c : Int} (h : G a = some o) (bg : BagO o c) (hc : c < 1000000000)
    (q : ∀ (z : Str) (G2 : PH) (o2 : PO), z.length ≤ 8 → G2 a = some o2 → BagO o2 (c + 9) → Q (.str z) G2) : (Fv.run Γ gl (k + 2)).fn "_law_name" [.ref a] [] G Q P := by
  refine run_call F.name_ (d := df_law_name) rfl ?_
  show wSs _ bf_law_name _ [some (.ref a), none, none] G
  refine ss_step fun N hN => ?_
  k_call_by "fv2" (true_and, true_and)
  refine hN _ _ ?_
  k_call_by "fv2" (true_and, bf_law_name_1, wipeP)
  refine s_take F k h bg (by omega) (by omega) (by omega) fun t o1 t0 t1 bg1 => ?_
  k_call_by "fv2" (true_and, true_and)
  refine ⟨by omega, by omega, ?_⟩
  refine lc_inv (fun xs acc G1 => ∃ (l : List Str) (o2 : PO), acc = l.map PV.str ∧ (∀ z ∈ l, z.length ≤ 1) ∧ l.length + xs.length ≤ 8 ∧ G1 a = some o2 ∧ BagO o2 (c + 9 - xs.length))
    ⟨[], o1, rfl, (fun i hi => nomatch hi), by simp [rangeP]; omega, pu_same, bg1.mono (by simp [rangeP]; omega)⟩ (fun _ _ _ _ => kept_nil) ?_ ?_
  · rintro acc G1 ⟨l, o2, rfl, hl, hn, ha, hb⟩ D1 hD1
    simp only [List.length_nil] at hn hb
    rw [strs_map]
    have e : (Str.ofString "").length = 0 := by decide +kernel
    rw [e]
    have s := sum_le hl
    have j := join_len (zs := l)
    exact ⟨by omega, _, Sub.refl _, q _ _ o2 (by omega) (by rw [pu_ne (ne_of_free ha hD1)]; exact ha) (hb.mono (by omega))⟩
  · rintro x xs acc G1 R ⟨l, o2, rfl, hl, hn, ha, hb⟩ hR
    simp only [List.length_cons] at hn hb
    k_call_by "fv2" (true_and, true_and)
    refine s_take F k ha hb (by omega) (by omega) (by omega) fun u o3 u0 u1 bg3 => ?_
    k_call_by "fv2" (true_and, true_and)
    obtain ⟨un, rfl⟩ : ∃ n : Nat, u = (n : Int) := ⟨u.toNat, by omega⟩
    have hu : un < (Str.ofString "abcdefghijklmnopqrstuvwxyz").cps.toList.length := by
      have : (Str.ofString "abcdefghijklmnopqrstuvwxyz").cps.toList.length = 26 := by decide +kernel
      omega
    rw [Fv.atI_nat hu]
    refine ⟨by decide +kernel, ?_⟩
    have big : sizeLine = 16777216 := rfl
    refine ⟨by omega, hR _ _ ⟨l ++ [⟨#[(Str.ofString "abcdefghijklmnopqrstuvwxyz").cps.toList[un]]⟩], o3, by rw [List.map_append]; rfl, ?_, by rw [List.length_append, List.length_singleton]; omega, pu_same, bg3.mono (by omega)⟩⟩
    intro z hz
    rcases List.mem_append.1 hz with hz | hz
    · exact hl z hz
    · obtain rfl := List.mem_singleton.1 hz
      exact Nat.le_refl _
theorem turn (F : KF Γ gl) (k : Nat) {c : Int} (x0 x1 x3 x4 x5 x6 x7 x8 x9 x10 : Option PV) (h : G a = some o) (bg : BagO o c) (hc : c < 100000000)
    (q : ∀ (G2 : PH) (o2 : PO) (x4 x5 x6 x7 x8 x9 x10 : Option PV), G2 a = some o2 → BagO o2 (c + 30) → D.nx [x0, x1, some (.ref a), x3, x4, x5, x6, x7, x8, x9, x10] G2) :
    wSs (Fv.run Γ gl (k + 3)) blaw_f2 D [x0, x1, some (.ref a), x3, x4, x5, x6, x7, x8, x9, x10] G := by
  have big : sizeLine = 16777216 := rfl
  refine ss_step fun N hN => ?_
  k_call_by "fv2" (true_and, true_and)
  refine s_take F (k + 2) h bg (by omega) (by omega) (by omega) fun v o1 v0 v1 bg1 => ?_
  k_call_by "fv2" (true_and, true_and)
  refine s_take F (k + 2) (o := o1) pu_same bg1 (by omega) (by omega) (by omega) fun r o2 r0 r1 bg2 => ?_
  k_call_by "fv2" (true_and, true_and)
  refine s_take F (k + 2) (o := o2) pu_same bg2 (by omega) (by omega) (by omega) fun b o3 b0 b1 bg3 => ?_
  k_call_by "fv2" (true_and, true_and)
  refine s_take F (k + 2) (o := o3) pu_same bg3 (by omega) (by omega) (by omega) fun u o4 u0 u1 bg4 => ?_
  k_call_by "fv2" (true_and, true_and)
  have h4 : pu G a o4 a = some o4 := pu_same
  generalize pu G a o4 = G4 at h4 ⊢
  refine ⟨by decide, rfl, ?_⟩
  refine hN _ _ (ss_step fun N1 hN1 => ?_)
  refine ifs_step fun A1 B1 hA1 hB1 => ?_
  k_call_by "fv2" (true_and, true_and)
  refine s_map F (k + 2) v0 (by omega) rfl ?_
  k_call_by "fv2" (true_and, true_and)
  have l2 : (nS v).length ≤ 4 := len_small v0 (by omega)
  have l1 : (nS r).length ≤ 4 := len_small r0 (by omega)
  have f : ∀ i, Str.ofString (toString i) = nS i := fun _ => rfl
  simp only [f]
  refine ⟨log_small v0 (by omega), ?_⟩
  k_call_by "fv2" (true_and, true_and)
  refine ⟨by decide, ?_⟩
  refine s_mapF F (k + 2) v0 (by omega) rfl ?_
  have e6 : (Str.ofString "found+").length = 6 := by decide +kernel
  k_call_by "fv2" (true_and, true_and)
  refine ⟨log_small v0 (by omega), by omega, ?_⟩
  k_call_by "fv2" (true_and, true_and)
  refine hB1 _ _ (ss_nil (hN1 _ _ (ss_step fun N2 hN2 => ?_)))
  have e1 : (Str.ofString " ").length = 1 := by decide +kernel
  have e4 : (Str.ofString " by ").length = 4 := by decide +kernel
  k_call_by "fv2" (true_and, true_and)
  simp only [f]
  refine ⟨log_small r0 (by omega), by omega, log_small v0 (by omega), by rw [app_len]; omega, ?_⟩
  have ll := lineR_len r0 (by omega) v0 (by omega) (r := r) (v := v)
  show N2 [x0, x1, some (.ref a), x3, some (.int v), some (.int r), some (.int b), some (.int u), some (.str (lineR r v)), x9, x10] G4
  refine hN2 _ _ (ss_step fun N3 hN3 => ?_)
  refine ifs_step fun A3 B3 hA3 hB3 => ?_
  k_call_by "fv2" (true_and, true_and)
  refine ⟨by decide, ?_⟩
  refine s_readN F (k + 2) r0 (by omega) v0 (by omega) rfl ?_
  k_call_by "fv2" (true_and, true_and)
  refine hB3 _ _ (ss_nil (hN3 _ _ (ss_step fun N4 hN4 => ?_)))
  refine ifs_step fun A4 B4 hA4 hB4 => ?_
  k_call_by "fv2" (true_and, true_and)
  refine ⟨by decide, by decide, ?_⟩
  refine s_readO F (k + 2) r0 (by omega) v0 (by omega) u0 (by omega) b0 (by omega) rfl ?_
  have l3 : (nS u).length ≤ 4 := len_small u0 (by omega)
  have l4 : (nS b).length ≤ 4 := len_small b0 (by omega)
  k_call_by "fv2" (true_and, true_and)
  simp only [f, app_len]
  refine ⟨by omega, log_small u0 (by omega), by omega, by omega, log_small b0 (by omega), by omega, ?_⟩
  k_call_by "fv2" (true_and, true_and)
  refine hB4 _ _ (ss_nil (hN4 _ _ (ss_step fun N5 hN5 => ?_)))
  k_call_by "fv2" (true_and, true_and)
  refine s_name F (k + 1) h4 bg4 (by omega) fun z1 G5 o5 hz1 h5 bg5 => ?_
  refine s_name F (k + 1) h5 bg5 (by omega) fun z2 G6 o6 hz2 h6 bg6 => ?_
  refine ⟨by decide, fun p hp => ?_⟩
  k_call_by "fv2" (true_and, true_and)
  refine ⟨by decide, fun ws hw hs p2 hp2 => ?_⟩
  have h7 : pu G6 p (.lst [.str z1, .str z2]) a = some o6 := by rw [pu_ne (ne_of_free h6 hp)]; exact h6
  have h8 : pu (pu G6 p (.lst [.str z1, .str z2])) p2 (.lst (ws.map .str)) a = some o6 := by rw [pu_ne (ne_of_free h7 hp2)]; exact h7
  have e8 : pu (pu G6 p (.lst [.str z1, .str z2])) p2 (.lst (ws.map .str)) p2 = some (.lst (ws.map .str)) := pu_same
  obtain ⟨y1, y2, rfl, hy1, hy2⟩ : ∃ y1 y2 : Str, ws = [y1, y2] ∧ y1.length ≤ 8 ∧ y2.length ≤ 8 := by
    have hl := hw.length_eq
    match ws, hl with
    | [y1, y2], _ =>
      have m : ∀ y ∈ [y1, y2], y.length ≤ 8 := fun y hy => by
        have := hw.mem_iff.1 hy
        rcases List.mem_cons.1 this with rfl | this
        · exact hz1
        · obtain rfl := List.mem_singleton.1 this
          exact hz2
      exact ⟨y1, y2, rfl, m _ (by simp), m _ (by simp)⟩
  generalize pu (pu G6 p (.lst [.str z1, .str z2])) p2 (.lst ([y1, y2].map .str)) = G8 at h8 e8 ⊢
  k_call_by "fv2" (true_and, e8)
  refine ⟨rfl, ?_⟩
  refine hN5 _ _ (ss_step fun N6 hN6 => ?_)
  refine ifs_step fun A6 B6 hA6 hB6 => ?_
  k_call_by "fv2" (true_and, true_and)
  refine ⟨by decide, ?_⟩
  refine s_pair F (k + 2) hy1 hy1 rfl ?_
  rw [if_pos (beq_self_eq_true y1)]
  k_call_by "fv2" (true_and, true_and)
  refine hB6 _ _ (ss_nil (hN6 _ _ (ss_step fun N7 hN7 => ?_)))
  refine ifs_step fun A7 B7 hA7 hB7 => ?_
  k_call_by "fv2" (true_and, true_and)
  cases hyy : y1 == y2 with
  | true =>
    k_call_by "fv2" (true_and, true_and)
    exact hB7 _ _ (ss_nil (hN7 _ _ (ss_nil (q _ _ _ _ _ _ _ _ _ h8 (bg6.mono (by omega))))))
  | false =>
    k_call_by "fv2" (true_and, true_and)
    refine ⟨by decide, ?_⟩
    refine s_pair F (k + 2) hy1 hy2 rfl ?_
    rw [if_neg (by rw [hyy]; exact Bool.false_ne_true)]
    k_call_by "fv2" (true_and, true_and)
    simp only [app_len]
    refine ⟨by omega, by omega, ?_⟩
    k_call_by "fv2" (true_and, true_and)
    exact hB7 _ _ (ss_nil (hN7 _ _ (ss_nil (q _ _ _ _ _ _ _ _ _ h8 (bg6.mono (by omega))))))
theorem law_reading (F : KF Γ gl) (ns : List Int) (h : ns.length ≤ 63) : (Fv.run Γ gl 20).fn "law" [.wl (ns.map .int)] [] (fun _ => none) (fun v _ => v = .bl true) fun _ _ _ => False := by
  refine run_call F.law rfl ?_
  show wSs (Fv.run Γ gl 19) blaw _ [some (.wl (ns.map .int)), none, none, none, none, none, none, none, none, none, none] _
  refine ss_step fun N hN => ?_
  k_call_by "fv2" (true_and, true_and)
  generalize hj : (if _ > (1 : Int) then _ else (1 : Int)) = j
  have hj0 : 0 ≤ j ∧ j ≤ 6 := by
    subst hj
    split <;> split <;> omega
  refine ⟨by omega, by omega, ?_⟩
  rw [range_ints]
  refine for_inv (fun xs σ G => ∃ (r : List Int) (x1 x2 x3 x4 x5 x6 x7 x8 x9 x10 : Option PV), xs = r.map PV.int ∧ (∀ i ∈ r, 0 ≤ i ∧ i < 1000) ∧ σ = [some (.wl (ns.map .int)), x1, x2, x3, x4, x5, x6, x7, x8, x9, x10])
    ⟨_, _, _, _, _, _, _, _, _, _, _, rfl, fun i hi => by
      obtain ⟨n, hn, rfl⟩ := List.mem_map.1 hi
      have := List.mem_range.1 hn
      omega, rfl⟩ (fun _ _ _ _ => kept_nil) ?_ ?_
  · rintro σ G ⟨r, x1, x2, x3, x4, x5, x6, x7, x8, x9, x10, -, -, rfl⟩
    refine hN _ _ ?_
    k_call_by "fv2" (true_and, blaw_1)
    exact ⟨_, Sub.refl _⟩
  · rintro x xs σ G R ⟨r, x1, x2, x3, x4, x5, x6, x7, x8, x9, x10, e, hr, rfl⟩ hR
    cases r with
    | nil => cases e
    | cons i r =>
      cases e
      have hi := hr i List.mem_cons_self
      k_call_by "fv2" (true_and, true_and)
      refine ss_step fun N1 hN1 => ?_
      k_call_by "fv2" (true_and, true_and)
      refine s_bag F 18 hi.1 hi.2 fun a o ha bg => ?_
      have h0 : pu G a o a = some o := pu_same
      generalize pu G a o = G1 at h0 ⊢
      refine hN1 _ _ (ss_step fun N2 hN2 => ?_)
      k_call_by "fv2" (true_and, true_and)
      refine ⟨by decide, by decide, ?_⟩
      rw [range_ints]
      refine for_inv (fun xs σ G => ∃ (l : List Int) (o : PO) (x3 x4 x5 x6 x7 x8 x9 x10 : Option PV), xs = l.map PV.int ∧ l.length ≤ 12 ∧ G a = some o ∧ BagO o (30 * (12 - l.length)) ∧ σ = [some (.wl (ns.map .int)), some (.int i), some (.ref a), x3, x4, x5, x6, x7, x8, x9, x10])
        ⟨_, o, _, _, _, _, _, _, _, _, rfl, by simp, h0, bg.mono (by simp), rfl⟩ (fun _ _ _ _ => kept_nil) ?_ ?_
      · rintro σ G2 ⟨l, o2, y3, y4, y5, y6, y7, y8, y9, y10, -, -, -, -, rfl⟩
        exact hN2 _ _ (ss_nil (hR _ _ _ (Sub.refl _) ⟨r, _, _, _, _, _, _, _, _, _, _, rfl, fun i hi => hr i (List.mem_cons_of_mem _ hi), rfl⟩))
      · rintro y ys σ G2 R2 ⟨l, o2, y3, y4, y5, y6, y7, y8, y9, y10, e, hl, h2, b2, rfl⟩ hR2
        cases l with
        | nil => cases e
        | cons j l =>
          cases e
          simp only [List.length_cons] at hl b2
          k_call_by "fv2" (true_and, true_and)
          refine turn F 16 _ _ _ _ _ _ _ _ _ _ h2 b2 (by omega) fun G3 o3 z4 z5 z6 z7 z8 z9 z10 h3 b3 => ?_
          exact hR2 _ _ _ (Sub.refl _) ⟨l, o3, _, _, _, _, _, _, _, _, rfl, by omega, h3, b3.mono (by omega), rfl⟩
end
theorem kf : KF L_77.Γ L_77.gl := ⟨by rfl, by rfl, by rfl, by rfl, by rfl, by rfl, by rfl⟩
theorem reading (ns : List Int) (h : ns.length ≤ 63) : (run L_77.Γ L_77.gl 20).fn "law" [.wl (ns.map .int)] [] (fun _ => none) (fun v _ => v = .bl true) fun _ _ _ => False := law_reading kf ns h
end L_77

set_option Elab.async false
set_option linter.all false
set_option maxRecDepth 100000
set_option maxHeartbeats 2000000
namespace L_77
open PySem PySem.Spec PyProof.Rows L2 Fv
section
variable {K : PySem.W.Frag} {w : World} {mg : Str → Option Value} {h : Heap}
theorem at_show_map (X : K.In h) (G : h.Ns mainGlobals mg) {a1 : Addr} {oc3 : Value} {od4 : Option Addr} {an5 : Option Addr} {doc6 : Value} {pm7 : Value} {cd8 : Value} {ct9 : Value} {sl10 : Array (Option Value)}
    (h2 : PySem.W.nsIn K mainGlobals "show_map" = some (some (.ref a1))) (h11 : K.lookup a1 = some ⟨oc3, od4, .func (PySem.W.fnOf "show_map" "show_map" (defArgs (top 1)) (defBody (top 1)) (defScope (top 1)) .none .none doc6 pm7 an5 cd8 ct9), sl10⟩) (h12 : PySem.W.codeIn K cd8 "show_map" = true) (h13 : PySem.W.keepIn K (.ref a1) = true) : FnAt K w fs Γ mg "show_map" :=
  ⟨dshow_map, a1, by rfl, PySem.W.mg_of X G h2, def_mk h11 h12 h13 (by decide +kernel) dfl_none kwd_none⟩
theorem at_show_read (X : K.In h) (G : h.Ns mainGlobals mg) {a1 : Addr} {oc3 : Value} {od4 : Option Addr} {an5 : Option Addr} {doc6 : Value} {pm7 : Value} {cd8 : Value} {ct9 : Value} {sl10 : Array (Option Value)}
    (h2 : PySem.W.nsIn K mainGlobals "show_read" = some (some (.ref a1))) (h11 : K.lookup a1 = some ⟨oc3, od4, .func (PySem.W.fnOf "show_read" "show_read" (defArgs (top 2)) (defBody (top 2)) (defScope (top 2)) .none .none doc6 pm7 an5 cd8 ct9), sl10⟩) (h12 : PySem.W.codeIn K cd8 "show_read" = true) (h13 : PySem.W.keepIn K (.ref a1) = true) : FnAt K w fs Γ mg "show_read" :=
  ⟨dshow_read, a1, by rfl, PySem.W.mg_of X G h2, def_mk h11 h12 h13 (by decide +kernel) dfl_none kwd_none⟩
theorem at_show_pair (X : K.In h) (G : h.Ns mainGlobals mg) {a1 : Addr} {oc3 : Value} {od4 : Option Addr} {an5 : Option Addr} {doc6 : Value} {pm7 : Value} {cd8 : Value} {ct9 : Value} {sl10 : Array (Option Value)}
    (h2 : PySem.W.nsIn K mainGlobals "show_pair" = some (some (.ref a1))) (h11 : K.lookup a1 = some ⟨oc3, od4, .func (PySem.W.fnOf "show_pair" "show_pair" (defArgs (top 3)) (defBody (top 3)) (defScope (top 3)) .none .none doc6 pm7 an5 cd8 ct9), sl10⟩) (h12 : PySem.W.codeIn K cd8 "show_pair" = true) (h13 : PySem.W.keepIn K (.ref a1) = true) : FnAt K w fs Γ mg "show_pair" :=
  ⟨dshow_pair, a1, by rfl, PySem.W.mg_of X G h2, def_mk h11 h12 h13 (by decide +kernel) dfl_none kwd_none⟩
theorem at_f_law_bag (X : K.In h) (G : h.Ns mainGlobals mg) {a1 : Addr} {oc3 : Value} {od4 : Option Addr} {an5 : Option Addr} {doc6 : Value} {pm7 : Value} {cd8 : Value} {ct9 : Value} {sl10 : Array (Option Value)}
    (h2 : PySem.W.nsIn K mainGlobals "_law_bag" = some (some (.ref a1))) (h11 : K.lookup a1 = some ⟨oc3, od4, .func (PySem.W.fnOf "_law_bag" "_law_bag" (defArgs (top 5)) (defBody (top 5)) (defScope (top 5)) .none .none doc6 pm7 an5 cd8 ct9), sl10⟩) (h12 : PySem.W.codeIn K cd8 "_law_bag" = true) (h13 : PySem.W.keepIn K (.ref a1) = true) : FnAt K w fs Γ mg "_law_bag" :=
  ⟨df_law_bag, a1, by rfl, PySem.W.mg_of X G h2, def_mk h11 h12 h13 (by decide +kernel) dfl_none kwd_none⟩
theorem at_f_law_take (X : K.In h) (G : h.Ns mainGlobals mg) {a1 : Addr} {oc3 : Value} {od4 : Option Addr} {an5 : Option Addr} {doc6 : Value} {pm7 : Value} {cd8 : Value} {ct9 : Value} {sl10 : Array (Option Value)}
    (h2 : PySem.W.nsIn K mainGlobals "_law_take" = some (some (.ref a1))) (h11 : K.lookup a1 = some ⟨oc3, od4, .func (PySem.W.fnOf "_law_take" "_law_take" (defArgs (top 6)) (defBody (top 6)) (defScope (top 6)) .none .none doc6 pm7 an5 cd8 ct9), sl10⟩) (h12 : PySem.W.codeIn K cd8 "_law_take" = true) (h13 : PySem.W.keepIn K (.ref a1) = true) : FnAt K w fs Γ mg "_law_take" :=
  ⟨df_law_take, a1, by rfl, PySem.W.mg_of X G h2, def_mk h11 h12 h13 (by decide +kernel) dfl_none kwd_none⟩
theorem at_f_law_name (X : K.In h) (G : h.Ns mainGlobals mg) {a1 : Addr} {oc3 : Value} {od4 : Option Addr} {an5 : Option Addr} {doc6 : Value} {pm7 : Value} {cd8 : Value} {ct9 : Value} {sl10 : Array (Option Value)}
    (h2 : PySem.W.nsIn K mainGlobals "_law_name" = some (some (.ref a1))) (h11 : K.lookup a1 = some ⟨oc3, od4, .func (PySem.W.fnOf "_law_name" "_law_name" (defArgs (top 7)) (defBody (top 7)) (defScope (top 7)) .none .none doc6 pm7 an5 cd8 ct9), sl10⟩) (h12 : PySem.W.codeIn K cd8 "_law_name" = true) (h13 : PySem.W.keepIn K (.ref a1) = true) : FnAt K w fs Γ mg "_law_name" :=
  ⟨df_law_name, a1, by rfl, PySem.W.mg_of X G h2, def_mk h11 h12 h13 (by decide +kernel) dfl_none kwd_none⟩
theorem at_law (X : K.In h) (G : h.Ns mainGlobals mg) {a1 : Addr} {oc3 : Value} {od4 : Option Addr} {an5 : Option Addr} {doc6 : Value} {pm7 : Value} {cd8 : Value} {ct9 : Value} {sl10 : Array (Option Value)}
    (h2 : PySem.W.nsIn K mainGlobals "law" = some (some (.ref a1))) (h11 : K.lookup a1 = some ⟨oc3, od4, .func (PySem.W.fnOf "law" "law" (defArgs (top 8)) (defBody (top 8)) (defScope (top 8)) .none .none doc6 pm7 an5 cd8 ct9), sl10⟩) (h12 : PySem.W.codeIn K cd8 "law" = true) (h13 : PySem.W.keepIn K (.ref a1) = true) : FnAt K w fs Γ mg "law" :=
  ⟨dlaw, a1, by rfl, PySem.W.mg_of X G h2, def_mk h11 h12 h13 (by decide +kernel) dfl_none kwd_none⟩
end
end L_77

set_option Elab.async false
set_option linter.all false
set_option maxRecDepth 100000
set_option maxHeartbeats 2000000
open PySem PySem.W PyProof.Rows
set_option maxRecDepth 100000 in
set_option maxHeartbeats 0 in
theorem PySem.Challenge.cw_foundvalues_k77_strings_holds : PySem.Challenge.rw_foundvalues_k77_strings.Holds := by
  w_on; o_law; k_head; (case hw => w_witness2)
  k_fill
  refine Fv.walk_fv (l := PySem.Challenge.rw_foundvalues_k77_strings) (fs := L_77.fs) (Γ := L_77.Γ) (gl := L_77.gl) (k := 20) rfl rfl ⟨rfl, by decide, by decide⟩ (by decide) (fun w h Y => PySem.W.kIn_of Y) ?fvM L_77.reading
  case fvM =>
    intro w mg h KX G
    refine Fv.mod_ok2 ?fvB ?fvG ?fvF ?fvC ?fvN ?fvT ?fvI
    case fvB =>
      refine Fv.all_cons ?_ ?_
      · refine PySem.W.mg_none_of KX G ?_
        k_is
      refine Fv.all_cons ?_ ?_
      · refine PySem.W.mg_none_of KX G ?_
        k_is
      refine Fv.all_cons ?_ ?_
      · refine PySem.W.mg_none_of KX G ?_
        k_is
      refine Fv.all_cons ?_ ?_
      · refine PySem.W.mg_none_of KX G ?_
        k_is
      refine Fv.all_cons ?_ ?_
      · refine PySem.W.mg_none_of KX G ?_
        k_is
      refine Fv.all_cons ?_ ?_
      · refine PySem.W.mg_none_of KX G ?_
        k_is
      refine Fv.all_cons ?_ ?_
      · refine PySem.W.mg_none_of KX G ?_
        k_is
      refine Fv.all_cons ?_ ?_
      · refine PySem.W.mg_none_of KX G ?_
        k_is
      refine Fv.all_cons ?_ ?_
      · refine PySem.W.mg_none_of KX G ?_
        k_is
      refine Fv.all_cons ?_ ?_
      · refine PySem.W.mg_none_of KX G ?_
        k_is
      refine Fv.all_cons ?_ ?_
      · refine PySem.W.mg_none_of KX G ?_
        k_is
      refine Fv.all_cons ?_ ?_
      · refine PySem.W.mg_none_of KX G ?_
        k_is
      refine Fv.all_cons ?_ ?_
      · refine PySem.W.mg_none_of KX G ?_
        k_is
      refine Fv.all_cons ?_ ?_
      · refine PySem.W.mg_none_of KX G ?_
        k_is
      refine Fv.all_cons ?_ ?_
      · refine PySem.W.mg_none_of KX G ?_
        k_is
      refine Fv.all_cons ?_ ?_
      · refine PySem.W.mg_none_of KX G ?_
        k_is
      refine Fv.all_cons ?_ ?_
      · refine PySem.W.mg_none_of KX G ?_
        k_is
      refine Fv.all_cons ?_ ?_
      · refine PySem.W.mg_none_of KX G ?_
        k_is
      refine Fv.all_cons ?_ ?_
      · refine PySem.W.mg_none_of KX G ?_
        k_is
      exact Fv.all_nil
    case fvG =>
      exact Fv.all_nil
    case fvF =>
      refine Fv.all_cons ?_ ?_
      · refine' L_77.at_show_map KX G ?at_show_map_h2 ?at_show_map_h11 ?at_show_map_h12 ?at_show_map_h13
        (case at_show_map_h2 => k_is)
        (case at_show_map_h11 => k_is)
        (case at_show_map_h12 => k_is)
        (case at_show_map_h13 => k_is)
      refine Fv.all_cons ?_ ?_
      · refine' L_77.at_show_read KX G ?at_show_read_h2 ?at_show_read_h11 ?at_show_read_h12 ?at_show_read_h13
        (case at_show_read_h2 => k_is)
        (case at_show_read_h11 => k_is)
        (case at_show_read_h12 => k_is)
        (case at_show_read_h13 => k_is)
      refine Fv.all_cons ?_ ?_
      · refine' L_77.at_show_pair KX G ?at_show_pair_h2 ?at_show_pair_h11 ?at_show_pair_h12 ?at_show_pair_h13
        (case at_show_pair_h2 => k_is)
        (case at_show_pair_h11 => k_is)
        (case at_show_pair_h12 => k_is)
        (case at_show_pair_h13 => k_is)
      refine Fv.all_cons ?_ ?_
      · refine' L_77.at_f_law_bag KX G ?at_f_law_bag_h2 ?at_f_law_bag_h11 ?at_f_law_bag_h12 ?at_f_law_bag_h13
        (case at_f_law_bag_h2 => k_is)
        (case at_f_law_bag_h11 => k_is)
        (case at_f_law_bag_h12 => k_is)
        (case at_f_law_bag_h13 => k_is)
      refine Fv.all_cons ?_ ?_
      · refine' L_77.at_f_law_take KX G ?at_f_law_take_h2 ?at_f_law_take_h11 ?at_f_law_take_h12 ?at_f_law_take_h13
        (case at_f_law_take_h2 => k_is)
        (case at_f_law_take_h11 => k_is)
        (case at_f_law_take_h12 => k_is)
        (case at_f_law_take_h13 => k_is)
      refine Fv.all_cons ?_ ?_
      · refine' L_77.at_f_law_name KX G ?at_f_law_name_h2 ?at_f_law_name_h11 ?at_f_law_name_h12 ?at_f_law_name_h13
        (case at_f_law_name_h2 => k_is)
        (case at_f_law_name_h11 => k_is)
        (case at_f_law_name_h12 => k_is)
        (case at_f_law_name_h13 => k_is)
      refine Fv.all_cons ?_ ?_
      · refine' L_77.at_law KX G ?at_law_h2 ?at_law_h11 ?at_law_h12 ?at_law_h13
        (case at_law_h2 => k_is)
        (case at_law_h11 => k_is)
        (case at_law_h12 => k_is)
        (case at_law_h13 => k_is)
      exact Fv.all_nil
    case fvC =>
      exact Fv.all_nil
    case fvN =>
      exact Fv.all_nil
    case fvT =>
      exact Fv.all_nil
    case fvI =>
      exact Fv.all_nil
#print axioms PySem.Challenge.cw_foundvalues_k77_strings_holds

