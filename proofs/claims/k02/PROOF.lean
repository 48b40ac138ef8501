import PyProof.Rows.All
import Wide.All
import OpenK.AllK
import Wide.FinOn
import HandS.WordsList
import HandS.Iter
import HandS.Text
import HandS.Comp
import HandS.Dict
import HandS.Exc
import HandS.ExcOwn
import HandS.IsInst
import HandS.TupAny
import HandS.Deep
import HandS.Wide
import HandS.Zip
import HandS.Words
import HandS.WordsExc
import HandS.WordsDict
import HandS.StrMore
import HandS.Style
import HandS.TupMul
import PyProof.ReprRoads
import PyProof.CallFns
import KE.GoesMore
import KE.KDictZip
import PyProof.TupleOfGen
import KE.KRevSl
import HandS.Ends
import PyProof.NeKinds
import PySem.Challenge.RW_evenlead_k02_texts_and_rows
set_option Elab.async false
set_option linter.all false
set_option maxRecDepth 100000
set_option maxHeartbeats 4000000
namespace VL
open PySem PySem.Spec L2
open PyProof.Rows hiding St

abbrev Dt := PyData
/-- what a name holds: data that nobody changes; a list or dict of its own; the deck of a law -/
inductive SV where
  | v (d : Dt)
  | o (d : Dt)
  | dk (a : Addr) (q : List Int) (b c : Int)
abbrev SS := List (Option SV)
inductive Res (α : Type) where
  | ok (a : α)
  | exc (c : Str) (fs : List (Str × Dt))
  | no
inductive EO (α : Type) where
  | ok (a : α) (ss : SS)
  | exc (c : Str) (fs : List (Str × Dt)) (ss : SS)
  | no
inductive RV where
  | v (d : Dt)
inductive SO where
  | nx (ss : SS) | rt (d : Dt) (ss : SS) | bk (ss : SS) | ct (ss : SS)
  | exc (c : Str) (fs : List (Str × Dt)) (ss : SS) | no
def EO.bind {α β : Type} (x : EO α) (f : α → SS → EO β) : EO β := match x with
  | .ok a ss => f a ss
  | .exc c fs ss => .exc c fs ss
  | .no => .no
def EO.lift {α : Type} (x : Option α) (ss : SS) : EO α := match x with
  | some a => .ok a ss
  | none => .no

def keyD : Key → Dt
  | .inl i => .int i
  | .inr x => .str x
mutual
inductive Rp (K : PySem.W.Frag) (H : Hp) : V → Dt → Prop
  | non : Rp K H .non .none
  | bl (b : Bool) : Rp K H (.bl b) (.bool b)
  | int (i : Int) : Rp K H (.int i) (.int i)
  | str (x : Str) : Rp K H (.str x) (.str x)
  | lst {a : Addr} {xs : List V} {ds : List Dt} : H a = some (.lst xs) → RpA K H xs ds → Rp K H (.ref a) (.list ds)
  | tup {a : Addr} {xs : List V} {ds : List Dt} : SqT K H a xs → RpA K H xs ds → Rp K H (.ref a) (.tuple ds)
  | dK {a : Addr} {kvs : List (Key × V)} {ds : List (Dt × Dt)} : H a = some (.dK kvs) → RpK K H kvs ds → Rp K H (.ref a) (.dict ds)
inductive RpA (K : PySem.W.Frag) (H : Hp) : List V → List Dt → Prop
  | nil : RpA K H [] []
  | cons {x : V} {xs : List V} {d : Dt} {ds : List Dt} : Rp K H x d → RpA K H xs ds → RpA K H (x :: xs) (d :: ds)
inductive RpK (K : PySem.W.Frag) (H : Hp) : List (Key × V) → List (Dt × Dt) → Prop
  | nil : RpK K H [] []
  | cons {k : Key} {x : V} {xs : List (Key × V)} {d : Dt} {ds : List (Dt × Dt)} : Rp K H x d → RpK K H xs ds → RpK K H ((k, x) :: xs) ((keyD k, d) :: ds)
end
section
variable {K : PySem.W.Frag} {H H' : Hp}
theorem sqT_mono {a : Addr} {xs : List V} (e : Same H H') (h : SqT K H a xs) : SqT K H' a xs := by
  rcases h with (h | ⟨o, h⟩) | h
  · exact .inl (.inl (e _ _ h))
  · exact .inl (.inr ⟨o, e _ _ h⟩)
  · exact .inr h
mutual
theorem Rp.mono (e : Same H H') : ∀ (d : Dt) (x : V), Rp K H x d → Rp K H' x d
  | .none, _, h => by cases h; exact .non
  | .bool b, _, h => by cases h; exact .bl b
  | .int i, _, h => by cases h; exact .int i
  | .str s, _, h => by cases h; exact .str s
  | .list ds, _, h => by
    cases h with
    | lst hs ha => exact .lst (e _ _ hs) (RpA.mono e ds _ ha)
  | .tuple ds, _, h => by
    cases h with
    | tup hs ha => exact .tup (sqT_mono e hs) (RpA.mono e ds _ ha)
  | .dict ds, _, h => by
    cases h with
    | dK hs ha => exact .dK (e _ _ hs) (RpK.mono e ds _ ha)
theorem RpA.mono (e : Same H H') : ∀ (ds : List Dt) (xs : List V), RpA K H xs ds → RpA K H' xs ds
  | [], _, h => by cases h; exact .nil
  | d :: ds, _, h => by
    cases h with
    | cons h1 h2 => exact .cons (Rp.mono e d _ h1) (RpA.mono e ds _ h2)
theorem RpK.mono (e : Same H H') : ∀ (ds : List (Dt × Dt)) (xs : List (Key × V)), RpK K H xs ds → RpK K H' xs ds
  | [], _, h => by cases h; exact .nil
  | (_, d) :: ds, _, h => by
    cases h with
    | cons h1 h2 => exact .cons (Rp.mono e d _ h1) (RpK.mono e ds _ h2)
end
theorem RpA.length : ∀ {ds : List Dt} {xs : List V}, RpA K H xs ds → xs.length = ds.length
  | [], _, h => by cases h; rfl
  | d :: ds, _, h => by
    cases h with
    | cons h1 h2 => simp [RpA.length h2]
theorem RpA.get : ∀ {ds : List Dt} {xs : List V} {i : Nat} {d : Dt}, RpA K H xs ds → ds[i]? = some d → ∃ x, xs[i]? = some x ∧ Rp K H x d
  | [], _, i, d, h, e => by simp at e
  | d :: ds, _, 0, d', h, e => by
    cases h with
    | cons h1 h2 =>
      have e : d = d' := by simpa using e
      exact ⟨_, rfl, e ▸ h1⟩
  | d :: ds, _, i + 1, d', h, e => by
    cases h with
    | cons h1 h2 =>
      obtain ⟨x, q1, q2⟩ := RpA.get (i := i) (d := d') h2 (by simpa using e)
      exact ⟨x, by simpa using q1, q2⟩
theorem RpA.app : ∀ {ds es : List Dt} {xs ys : List V}, RpA K H xs ds → RpA K H ys es → RpA K H (xs ++ ys) (ds ++ es)
  | [], _, _, _, h, g => by cases h; exact g
  | d :: ds, _, _, _, h, g => by
    cases h with
    | cons h1 h2 => exact .cons h1 (RpA.app h2 g)
theorem RpA.take : ∀ {ds : List Dt} {xs : List V} (n : Nat), RpA K H xs ds → RpA K H (xs.take n) (ds.take n)
  | _, _, 0, _ => by simp; exact .nil
  | [], _, n + 1, h => by cases h; exact .nil
  | d :: ds, _, n + 1, h => by
    cases h with
    | cons h1 h2 => exact .cons h1 (RpA.take n h2)
theorem RpA.drop : ∀ {ds : List Dt} {xs : List V} (n : Nat), RpA K H xs ds → RpA K H (xs.drop n) (ds.drop n)
  | _, _, 0, h => h
  | [], _, n + 1, h => by cases h; exact .nil
  | d :: ds, _, n + 1, h => by
    cases h with
    | cons h1 h2 => exact RpA.drop n h2
theorem RpA.rev : ∀ {ds : List Dt} {xs : List V}, RpA K H xs ds → RpA K H xs.reverse ds.reverse
  | [], _, h => by cases h; exact .nil
  | d :: ds, _, h => by
    cases h with
    | cons h1 h2 =>
      rw [List.reverse_cons, List.reverse_cons]
      exact (RpA.rev h2).app (.cons h1 .nil)
theorem RpA.one {x : V} {d : Dt} (h : Rp K H x d) : RpA K H [x] [d] := .cons h .nil
end

abbrev Om := Addr → Option Nat
def hid (ω : Om) (H : Hp) : Hp := fun a => match ω a with
  | none => H a
  | some _ => none
theorem hid_of {ω : Om} {H : Hp} {a : Addr} (h : ω a = none) : hid ω H a = H a := by unfold hid; rw [h]
theorem hid_le {ω : Om} {H : Hp} : Same (hid ω H) H := fun a o h => by
  unfold hid at h
  split at h
  · exact h
  · cases h
theorem hid_some {ω : Om} {H : Hp} {a : Addr} {o : HO} (h : hid ω H a = some o) : ω a = none ∧ H a = some o := by
  unfold hid at h
  split at h
  · exact ⟨by assumption, h⟩
  · cases h

/-- a list or dict of a name's own -/
def OwC (K : PySem.W.Frag) (F : Hp) (u : Option HO) (d : Dt) : Prop :=
  (∃ ds xs, d = .list ds ∧ u = some (.lst xs) ∧ RpA K F xs ds) ∨ ∃ ds kvs, d = .dict ds ∧ u = some (.dK kvs) ∧ RpK K F kvs ds
def OwR (K : PySem.W.Frag) (ω : Om) (H : Hp) (k : Nat) (x : V) (d : Dt) : Prop := ∃ a, x = .ref a ∧ ω a = some k ∧ OwC K (hid ω H) (H a) d
def DkR (ω : Om) (H : Hp) (k : Nat) (x : V) (a : Addr) (q : List Int) (b c : Int) : Prop :=
  x = .ref a ∧ ω a = some k ∧ ∃ a2, ω a2 = some k ∧ H a = some (.lst [.ref a2, .int b, .int c]) ∧ H a2 = some (.lst (q.map V.int))
def SlR (K : PySem.W.Frag) (ω : Om) (H : Hp) (i : Nat) (s : SV) (x : V) : Prop := match s with
  | .v d => Rp K (hid ω H) x d
  | .o d => OwR K ω H i x d
  | .dk a q b c => DkR ω H i x a q b c
structure RS (K : PySem.W.Frag) (ω : Om) (ss : SS) (σ : St) (H : Hp) : Prop where
  len : ss.length = σ.length
  few : σ.length ≤ 1000
  own : ∀ a k, ω a = some k → (H a).isSome = true
  sl : ∀ i s, ss[i]? = some (some s) → ∃ x, σ[i]? = some (some x) ∧ SlR K ω H i s x
/-- from one state on to another one: what nobody owns stays, and what is owned from 1000 on -/
structure Frm (ω : Om) (H : Hp) (ω' : Om) (H' : Hp) : Prop where
  fz : Same (hid ω H) (hid ω' H')
  tp : ∀ a k, 1000 ≤ k → ω a = some k → ω' a = some k ∧ H' a = H a
  tr : ∀ a, H' a = none → H a = none
theorem Frm.refl (ω : Om) (H : Hp) : Frm ω H ω H := ⟨Same.refl _, fun _ _ _ h => ⟨h, rfl⟩, fun _ h => h⟩
theorem Frm.trans {ω ω1 ω2 : Om} {H H1 H2 : Hp} (a : Frm ω H ω1 H1) (b : Frm ω1 H1 ω2 H2) : Frm ω H ω2 H2 :=
  ⟨a.fz.trans b.fz, fun x k hk h => by
    obtain ⟨q1, q2⟩ := a.tp x k hk h
    obtain ⟨q3, q4⟩ := b.tp x k hk q1
    exact ⟨q3, q4.trans q2⟩, fun x h => a.tr x (b.tr x h)⟩
/-- the heap grows -/
theorem hid_same {ω : Om} {H H' : Hp} (e : Same H H') : Same (hid ω H) (hid ω H') := fun a o h => by
  obtain ⟨h1, h2⟩ := hid_some h
  rw [hid_of h1]
  exact e a o h2
section
variable {K : PySem.W.Frag} {ω ω' : Om} {ss : SS} {σ : St} {H H' : Hp}
theorem Frm.grow (e : Same H H') (own : ∀ a k, ω a = some k → (H a).isSome = true) : Frm ω H ω H' := ⟨hid_same e, fun a k _ h => ⟨h, by
  obtain ⟨o, q⟩ := Option.isSome_iff_exists.mp (own a k h)
  rw [q]
  exact e a o q⟩, fun a h => e.free h⟩
theorem OwC.mono {F F' : Hp} {u : Option HO} {d : Dt} (e : Same F F') (h : OwC K F u d) : OwC K F' u d := by
  rcases h with ⟨ds, xs, h1, h2, h3⟩ | ⟨ds, xs, h1, h2, h3⟩
  · exact .inl ⟨ds, xs, h1, h2, RpA.mono e _ _ h3⟩
  · exact .inr ⟨ds, xs, h1, h2, RpK.mono e _ _ h3⟩
/-- a slot's content at a further state, where its own objects are as they were -/
theorem SlR.keep {i : Nat} {s : SV} {x : V} (e : Same (hid ω H) (hid ω' H')) (k : ∀ a, ω a = some i → ω' a = some i ∧ H' a = H a) (h : SlR K ω H i s x) : SlR K ω' H' i s x := by
  cases s with
  | v d => exact Rp.mono e _ _ h
  | o d =>
    obtain ⟨a, h1, h2, h3⟩ := h
    obtain ⟨k1, k2⟩ := k a h2
    exact ⟨a, h1, k1, by rw [k2]; exact h3.mono e⟩
  | dk a q b c =>
    obtain ⟨h1, h2, a2, h3, h4, h5⟩ := h
    obtain ⟨k1, k2⟩ := k a h2
    obtain ⟨k3, k4⟩ := k a2 h3
    exact ⟨h1, k1, a2, k3, by rw [k2]; exact h4, by rw [k4]; exact h5⟩
theorem RS.grow (r : RS K ω ss σ H) (e : Same H H') : RS K ω ss σ H' := by
  refine ⟨r.len, r.few, fun a k h => ?_, fun i s h => ?_⟩
  · obtain ⟨o, q⟩ := Option.isSome_iff_exists.mp (r.own a k h)
    rw [e a o q]
    rfl
  · obtain ⟨x, q1, q2⟩ := r.sl i s h
    refine ⟨x, q1, q2.keep (hid_same e) fun a ha => ⟨ha, ?_⟩⟩
    obtain ⟨o, q⟩ := Option.isSome_iff_exists.mp (r.own a i ha)
    rw [q]
    exact e a o q
theorem RS.free (r : RS K ω ss σ H) {p : Addr} (h : H p = none) : ω p = none := by
  cases q : ω p with
  | none => rfl
  | some k =>
    have := r.own p k q
    rw [h] at this
    cases this
/-- slot i is given up: what it owned belongs to nobody -/
def drop (ω : Om) (i : Nat) : Om := fun a => if ω a = some i then none else ω a
theorem drop_ne {i j : Nat} {a : Addr} (h : ω a = some j) (n : j ≠ i) : drop ω i a = some j := by
  unfold drop
  rw [if_neg (by rw [h]; exact fun e => n (Option.some.inj e)), h]
theorem drop_none {i : Nat} {a : Addr} (h : ω a = none) : drop ω i a = none := by
  unfold drop
  rw [if_neg (by rw [h]; exact fun e => nomatch e), h]
theorem hid_drop {i : Nat} : Same (hid ω H) (hid (drop ω i) H) := fun a o h => by
  obtain ⟨h1, h2⟩ := hid_some h
  rw [hid_of (drop_none h1)]
  exact h2
theorem Frm.drop {i : Nat} (hi : i < 1000) : Frm ω H (drop ω i) H := ⟨hid_drop, fun a k hk h => ⟨drop_ne h (by omega), rfl⟩, fun _ h => h⟩
/-- slot i has a new content -/
theorem RS.put (r : RS K ω ss σ H) {i : Nat} {s : SV} {x : V} (hi : i < σ.length) (e : Same (hid ω H) (hid ω' H)) (ow : ∀ a k, ω' a = some k → (H a).isSome = true) (k : ∀ j a, j ≠ i → j < 1000 → ω a = some j → ω' a = some j) (h : SlR K ω' H i s x) :
    RS K ω' (ss.set i (some s)) (σ.set i (some x)) H := by
  refine ⟨by simp [r.len], by simpa using r.few, ow, fun j s' hj => ?_⟩
  by_cases hji : j = i
  · subst hji
    have hl : j < ss.length := by rw [r.len]; exact hi
    rw [List.getElem?_set_self hl] at hj
    cases hj
    exact ⟨x, by rw [List.getElem?_set_self hi], h⟩
  · rw [List.getElem?_set_ne (Ne.symm hji)] at hj
    obtain ⟨y, q1, q2⟩ := r.sl j s' hj
    have hlt : j < σ.length := (List.getElem?_eq_some_iff.mp q1).1
    have hfew := r.few
    exact ⟨y, by rw [List.getElem?_set_ne (Ne.symm hji)]; exact q1, q2.keep e fun a ha => ⟨k j a hji (by omega) ha, rfl⟩⟩
/-- .. the value as it stands there -/
theorem RS.put' (r : RS K ω ss σ H) {i : Nat} {s : SV} {x : V} (hx : σ[i]? = some (some x)) (e : Same (hid ω H) (hid ω' H)) (ow : ∀ a k, ω' a = some k → (H a).isSome = true) (k : ∀ j a, j ≠ i → j < 1000 → ω a = some j → ω' a = some j) (h : SlR K ω' H i s x) :
    RS K ω' (ss.set i (some s)) σ H := by
  have hi : i < σ.length := (List.getElem?_eq_some_iff.mp hx).1
  have q := r.put hi e ow k h
  have e : σ.set i (some x) = σ := by
    refine List.ext_getElem? fun j => ?_
    by_cases hj : j = i
    · subst hj
      rw [List.getElem?_set_self hi, hx]
    · rw [List.getElem?_set_ne (Ne.symm hj)]
  rwa [e] at q
/-- slots forgotten -/
theorem RS.weak (r : RS K ω ss σ H) {ss' : SS} (hl : ss'.length = ss.length) (h : ∀ (i : Nat) (s : SV), ss'[i]? = some (some s) → ss[i]? = some (some s)) : RS K ω ss' σ H :=
  ⟨hl.trans r.len, r.few, r.own, fun i s e => r.sl i s (h i s e)⟩
theorem same_upd {p : Addr} {o : HO} (h : H p = none) : Same H (upd H p o) := fun b x e => by
  rw [upd_ne (ne_of_none e h)]
  exact e
end
end VL

namespace VL
open PySem PySem.Spec L2
open PyProof.Rows hiding St

/-- what an exception bears -/
inductive RpF (K : PySem.W.Frag) (H : Hp) : List (Str × V) → List (Str × Dt) → Prop
  | nil : RpF K H [] []
  | cons {f : Str} {x : V} {xs : List (Str × V)} {d : Dt} {ds : List (Str × Dt)} : Rp K H x d → RpF K H xs ds → RpF K H ((f, x) :: xs) ((f, d) :: ds)
theorem RpF.mono {K : PySem.W.Frag} {H H' : Hp} {xs : List (Str × V)} {ds : List (Str × Dt)} (e : Same H H') (h : RpF K H xs ds) : RpF K H' xs ds := by
  induction h with
  | nil => exact .nil
  | cons h _ ih => exact .cons (Rp.mono e _ _ h) ih
def XR (K : PySem.W.Frag) (mg : Str → Option Value) (F : Hp) (c : Str) (fs : List (Str × Dt)) (cls : Value) (dd : Option Addr) : Prop :=
  ∃ C, mg c = some (.ref C) ∧ cls = .ref C ∧ ((fs = [] ∧ dd = none) ∨ ∃ a vs, dd = some a ∧ F a = some (.xd vs) ∧ RpF K F vs fs)

theorem XR.mono {K : PySem.W.Frag} {mg : Str → Option Value} {F F' : Hp} {c : Str} {fs : List (Str × Dt)} {cls : Value} {dd : Option Addr} (e : Same F F') (h : XR K mg F c fs cls dd) : XR K mg F' c fs cls dd := by
  obtain ⟨C, h1, h2, h3⟩ := h
  refine ⟨C, h1, h2, ?_⟩
  rcases h3 with h3 | ⟨a, ws, h3, h4, h5⟩
  · exact .inl h3
  · exact .inr ⟨a, ws, h3, e _ _ h4, h5.mono e⟩
/-- what is wanted behind an evaluation that comes out as r -/
def EQg {α β : Type} (R : Om → Hp → β → α → Prop) (K : PySem.W.Frag) (mg : Str → Option Value) (W : WX) (ω : Om) (σ : St) (H : Hp) (r : EO α) (Q : β → Hp → Prop) : Prop := match r with
  | .ok d ss' => ∀ ω' H' x, RS K ω' ss' σ H' → Frm ω H ω' H' → R ω' H' x d → Q x H'
  | .exc c fs ss' => ∀ ω' H' cls dd, RS K ω' ss' σ H' → Frm ω H ω' H' → XR K mg (hid ω' H') c fs cls dd → W cls dd σ H'
  | .no => False
section
variable {α β γ δ : Type} {R : Om → Hp → β → α → Prop} {R2 : Om → Hp → δ → γ → Prop} {K : PySem.W.Frag} {mg : Str → Option Value} {W : WX} {ω ω1 : Om} {σ : St} {H H1 : Hp} {r : EO α} {Q : β → Hp → Prop}
theorem EQg.shift (h : EQg R K mg W ω σ H r Q) (fr : Frm ω H ω1 H1) : EQg R K mg W ω1 σ H1 r Q := by
  cases r with
  | ok d ss => exact fun ω' H' x rs f rp => h ω' H' x rs (fr.trans f) rp
  | exc c fs ss => exact fun ω' H' cls dd rs f xr => h ω' H' cls dd rs (fr.trans f) xr
  | no => exact h
theorem EQg.imp {Q' : β → Hp → Prop} (h : EQg R K mg W ω σ H r Q) (g : ∀ x H', Q x H' → Q' x H') : EQg R K mg W ω σ H r Q' := by
  cases r with
  | ok d ss => exact fun ω' H' x rs f rp => g _ _ (h ω' H' x rs f rp)
  | exc c fs ss => exact h
  | no => exact h
/-- one behind the other -/
theorem seqE {f : α → SS → EO γ} {Q2 : δ → Hp → Prop} (h : EQg R2 K mg W ω σ H (r.bind f) Q2)
    (k : ∀ d ss' ω' H' x, r = .ok d ss' → RS K ω' ss' σ H' → Frm ω H ω' H' → R ω' H' x d → EQg R2 K mg W ω' σ H' (f d ss') Q2 → Q x H') : EQg R K mg W ω σ H r Q := by
  cases r with
  | ok d ss => exact fun ω' H' x rs fr rp => k d ss ω' H' x rfl rs fr rp (EQg.shift h fr)
  | exc c fs ss => exact h
  | no => exact h
end

theorem seqE0 {α β γ δ : Type} {R : Om → Hp → β → α → Prop} {R2 : Om → Hp → δ → γ → Prop} {K : PySem.W.Frag} {mg : Str → Option Value} {W : WX} {ω : Om} {σ : St} {H : Hp} {r : EO α} {Q : β → Hp → Prop} {f : α → SS → EO γ} {Q2 : δ → Hp → Prop} (h : EQg R2 K mg W ω σ H (r.bind f) Q2)
    (k : ∀ d ss' ω' H' x, r = .ok d ss' → RS K ω' ss' σ H' → Frm ω H ω' H' → R ω' H' x d → EQg R2 K mg W ω σ H (f d ss') Q2 → Q x H') : EQg R K mg W ω σ H r Q := by
  cases r with
  | ok d ss => exact fun ω' H' x rs fr rp => k d ss ω' H' x rfl rs fr rp h
  | exc c fs ss => exact h
  | no => exact h
def RpE (K : PySem.W.Frag) : Om → Hp → V → Dt → Prop := fun ω H x d => Rp K (hid ω H) x d
def RpL (K : PySem.W.Frag) : Om → Hp → List V → List Dt → Prop := fun ω H x d => RpA K (hid ω H) x d
/-- an operand: data, or what the i-th name holds when it is used -/
inductive Opd where
  | da (d : Dt)
  | nm (i : Nat)
def OpdR (K : PySem.W.Frag) (σ : St) : Om → Hp → V → Opd → Prop := fun ω H x o => match o with
  | .da d => Rp K (hid ω H) x d
  | .nm i => σ[i]? = some (some x)
def Opd.get (ss : SS) : Opd → Option Dt
  | .da d => some d
  | .nm i => match ss[i]? with
    | some (some (.v d)) => some d
    | some (some (.o d)) => some d
    | _ => none
/-- borrowed: data, or a name's own -/
def Bor (K : PySem.W.Frag) (ω : Om) (H : Hp) (x : V) (d : Dt) : Prop := Rp K (hid ω H) x d ∨ ∃ a, x = .ref a ∧ OwC K (hid ω H) (H a) d
theorem Bor.rp {K : PySem.W.Frag} {ω : Om} {H : Hp} {x : V} {d : Dt} (h : Bor K ω H x d) : Rp K H x d := by
  rcases h with h | ⟨a, rfl, h⟩
  · exact Rp.mono hid_le _ _ h
  · rcases h with ⟨ds, xs, rfl, h2, h3⟩ | ⟨ds, kvs, rfl, h2, h3⟩
    · exact .lst h2 (RpA.mono hid_le _ _ h3)
    · exact .dK h2 (RpK.mono hid_le _ _ h3)
theorem Opd.bor {K : PySem.W.Frag} {ω : Om} {ss : SS} {σ : St} {H : Hp} {x : V} {o : Opd} {d : Dt} (rs : RS K ω ss σ H) (h : OpdR K σ ω H x o) (e : o.get ss = some d) : Bor K ω H x d := by
  cases o with
  | da d' =>
    cases e
    exact .inl h
  | nm i =>
    have h : σ[i]? = some (some x) := h
    simp only [Opd.get] at e
    split at e
    · rename_i d' q
      cases e
      obtain ⟨y, q1, q2⟩ := rs.sl i _ q
      rw [h] at q1
      cases q1
      exact .inl q2
    · rename_i d' q
      cases e
      obtain ⟨y, q1, a, q2, _, q3⟩ := rs.sl i _ q
      rw [h] at q1
      cases q1
      exact .inr ⟨a, q2, q3⟩
    · cases e
theorem OpdR.go {K : PySem.W.Frag} {ω ω' : Om} {σ : St} {H H' : Hp} {x : V} {o : Opd} (h : OpdR K σ ω H x o) (f : Frm ω H ω' H') : OpdR K σ ω' H' x o := by
  cases o with
  | da d' => exact Rp.mono f.fz _ _ h
  | nm i => exact h
inductive OpdA (K : PySem.W.Frag) (σ : St) (ω : Om) (H : Hp) : List V → List Opd → Prop
  | nil : OpdA K σ ω H [] []
  | cons {x : V} {xs : List V} {o : Opd} {os : List Opd} : OpdR K σ ω H x o → OpdA K σ ω H xs os → OpdA K σ ω H (x :: xs) (o :: os)

structure VC {ι : Type} (X : ι → Cx) (k : Nat) (P : Program) (w : World) (K : PySem.W.Frag) (mg : Str → Option Value) (base : Heap) (W : WX) : Prop where
  eP : ∀ i, (X i).prog = P
  ew : ∀ i, (X i).w = w
  eK : ∀ i, (X i).K = K
  em : ∀ i, (X i).mg = mg
  eb : ∀ i, (X i).base = base
  rm : ∀ i, Room k (X i).A
  gd : ∀ i, (X i).A.guards = some []
  ca : ∀ i, (X i).calm = true
  nd : ∀ i, (X i).N.Nodup
  tk : ∀ i, Takes (X i) W
  po : ∀ i, PassesOwn (model (X i).prog (X i).w) (X i).A (X i).env (X i).xe
structure VE {ι : Type} (X : ι → Cx) (K : PySem.W.Frag) (mg : Str → Option Value) (W : WX) (e : Expr) (m : SS → EO Dt) : Prop where
  ex : ∃ t : TE, (∀ i, PE (X i) e t) ∧ ∀ ω ss σ H Q, RS K ω ss σ H → EQg (RpE K) K mg W ω σ H (m ss) Q → t σ H Q
structure VB {ι : Type} (X : ι → Cx) (K : PySem.W.Frag) (mg : Str → Option Value) (W : WX) (e : Expr) (m : SS → EO Opd) : Prop where
  ex : ∃ t : TE, (∀ i, PE (X i) e t) ∧ ∀ ω ss σ H Q, RS K ω ss σ H → EQg (OpdR K σ) K mg W ω σ H (m ss) Q → t σ H Q
structure VA {ι : Type} (X : ι → Cx) (K : PySem.W.Frag) (mg : Str → Option Value) (W : WX) (es : List Expr) (m : SS → EO (List Dt)) : Prop where
  ex : ∃ t : TA, (∀ i, PA (X i) es t) ∧ ∀ ω ss σ H Q, RS K ω ss σ H → EQg (RpL K) K mg W ω σ H (m ss) Q → t σ H Q
structure VBs {ι : Type} (X : ι → Cx) (K : PySem.W.Frag) (mg : Str → Option Value) (W : WX) (es : List Expr) (m : SS → EO (List Opd)) : Prop where
  ex : ∃ t : TA, (∀ i, PA (X i) es t) ∧ ∀ ω ss σ H Q, RS K ω ss σ H → EQg (OpdA K σ) K mg W ω σ H (m ss) Q → t σ H Q
def EqB : Om → Hp → Bool → Bool → Prop := fun _ _ x d => x = d
structure VT {ι : Type} (X : ι → Cx) (K : PySem.W.Frag) (mg : Str → Option Value) (W : WX) (e : Expr) (m : SS → EO Bool) : Prop where
  ex : ∃ t : TT, (∀ i, PT (X i) e t) ∧ ∀ ω ss σ H Q, RS K ω ss σ H → EQg EqB K mg W ω σ H (m ss) Q → t σ H Q
structure VW {ι : Type} (X : ι → Cx) (K : PySem.W.Frag) (mg : Str → Option Value) (W : WX) (e : Expr) (m : SS → EO Bool) : Prop where
  ex : ∃ t : TT, (∀ i, PW (X i) e t) ∧ ∀ ω ss σ H Q, RS K ω ss σ H → EQg EqB K mg W ω σ H (m ss) Q → t σ H Q
/-- a new list or dict: it will be the k-th one's own -/
def NewR (K : PySem.W.Frag) (H0 : Hp) (k : Nat) : Om → Hp → V → Dt → Prop := fun ω H x d => ∃ a, x = .ref a ∧ H0 a = none ∧ ω a = some k ∧ OwC K (hid ω H) (H a) d
structure VO {ι : Type} (X : ι → Cx) (K : PySem.W.Frag) (mg : Str → Option Value) (W : WX) (e : Expr) (m : SS → EO Dt) : Prop where
  ex : ∃ t : TE, (∀ i, PE (X i) e t) ∧ ∀ k ω ss σ H Q, 1000 ≤ k → RS K ω ss σ H → EQg (NewR K H k) K mg W ω σ H (m ss) Q → t σ H Q
/-- behind a statement -/
def SQ (K : PySem.W.Frag) (mg : Str → Option Value) (W : WX) (D : Ends) (ω : Om) (H : Hp) (o : SO) : Prop := match o with
  | .nx ss' => ∀ ω' σ' H', RS K ω' ss' σ' H' → Frm ω H ω' H' → D.nx σ' H'
  | .bk ss' => ∀ ω' σ' H', RS K ω' ss' σ' H' → Frm ω H ω' H' → D.bk σ' H'
  | .ct ss' => ∀ ω' σ' H', RS K ω' ss' σ' H' → Frm ω H ω' H' → D.ct σ' H'
  | .rt d ss' => ∀ ω' σ' H' x, RS K ω' ss' σ' H' → Frm ω H ω' H' → Rp K (hid ω' H') x d → D.rt x H'
  | .exc c fs ss' => ∀ ω' σ' H' cls dd, RS K ω' ss' σ' H' → Frm ω H ω' H' → XR K mg (hid ω' H') c fs cls dd → W cls dd σ' H'
  | .no => False
theorem SQ.shift {K : PySem.W.Frag} {mg : Str → Option Value} {W : WX} {D : Ends} {ω ω1 : Om} {H H1 : Hp} {o : SO} (h : SQ K mg W D ω H o) (fr : Frm ω H ω1 H1) : SQ K mg W D ω1 H1 o := by
  cases o with
  | nx ss => exact fun ω' σ' H' rs f => h ω' σ' H' rs (fr.trans f)
  | bk ss => exact fun ω' σ' H' rs f => h ω' σ' H' rs (fr.trans f)
  | ct ss => exact fun ω' σ' H' rs f => h ω' σ' H' rs (fr.trans f)
  | rt d ss => exact fun ω' σ' H' x rs f rp => h ω' σ' H' x rs (fr.trans f) rp
  | exc c fs ss => exact fun ω' σ' H' cls dd rs f xr => h ω' σ' H' cls dd rs (fr.trans f) xr
  | no => exact h
def EO.st {α : Type} (x : EO α) (f : α → SS → SO) : SO := match x with
  | .ok a ss => f a ss
  | .exc c fs ss => .exc c fs ss
  | .no => .no
theorem seqS {α β : Type} {R : Om → Hp → β → α → Prop} {K : PySem.W.Frag} {mg : Str → Option Value} {W : WX} {D : Ends} {ω : Om} {σ : St} {H : Hp} {r : EO α} {f : α → SS → SO} {Q : β → Hp → Prop} (h : SQ K mg W D ω H (r.st f))
    (k : ∀ d ss' ω' H' x, r = .ok d ss' → RS K ω' ss' σ H' → Frm ω H ω' H' → R ω' H' x d → SQ K mg W D ω' H' (f d ss') → Q x H') : EQg R K mg W ω σ H r Q := by
  cases r with
  | ok d ss => exact fun ω' H' x rs fr rp => k d ss ω' H' x rfl rs fr rp (h.shift fr)
  | exc c fs ss => exact fun ω' H' cls dd rs f xr => h ω' σ H' cls dd rs f xr
  | no => exact h
/-- .. told of the start -/
theorem seqS0 {α β : Type} {R : Om → Hp → β → α → Prop} {K : PySem.W.Frag} {mg : Str → Option Value} {W : WX} {D : Ends} {ω : Om} {σ : St} {H : Hp} {r : EO α} {f : α → SS → SO} {Q : β → Hp → Prop} (h : SQ K mg W D ω H (r.st f))
    (k : ∀ d ss' ω' H' x, r = .ok d ss' → RS K ω' ss' σ H' → Frm ω H ω' H' → R ω' H' x d → SQ K mg W D ω H (f d ss') → Q x H') : EQg R K mg W ω σ H r Q := by
  cases r with
  | ok d ss => exact fun ω' H' x rs fr rp => k d ss ω' H' x rfl rs fr rp h
  | exc c fs ss => exact fun ω' H' cls dd rs f xr => h ω' σ H' cls dd rs f xr
  | no => exact h
structure VS {ι : Type} (X : ι → Cx) (K : PySem.W.Frag) (mg : Str → Option Value) (W : WX) (st : Stmt) (m : SS → SO) : Prop where
  ex : ∃ t : TS, (∀ i, PS (X i) st t) ∧ ∀ ω ss σ H D, RS K ω ss σ H → SQ K mg W D ω H (m ss) → t D σ H
structure VSs {ι : Type} (X : ι → Cx) (K : PySem.W.Frag) (mg : Str → Option Value) (W : WX) (sts : List Stmt) (m : SS → SO) : Prop where
  ex : ∃ t : TS, (∀ i, PSs (X i) sts t) ∧ ∀ ω ss σ H D, RS K ω ss σ H → SQ K mg W D ω H (m ss) → t D σ H

section
variable {ι : Type} {X : ι → Cx} {k : Nat} {P : Program} {w : World} {K : PySem.W.Frag} {mg : Str → Option Value} {base : Heap} {W : WX} {e : Expr} {es : List Expr} {pos : Pos}

def mC (d : Dt) : SS → EO Dt := fun ss => .ok d ss
theorem v_int {i : Int} {j : Nat} : VE X K mg W (.Constant (.int i) j pos) (mC (.int i)) := ⟨_, fun _ => pe_int, fun ω ss σ H Q rs h => h ω H _ rs (.refl _ _) (.int i)⟩
theorem v_bl {b : Bool} {j : Nat} : VE X K mg W (.Constant (.bool b) j pos) (mC (.bool b)) := ⟨_, fun _ => pe_bl, fun ω ss σ H Q rs h => h ω H _ rs (.refl _ _) (.bl b)⟩
theorem v_non {j : Nat} : VE X K mg W (.Constant .none j pos) (mC .none) := ⟨_, fun _ => pe_non, fun ω ss σ H Q rs h => h ω H _ rs (.refl _ _) .non⟩
theorem v_str {x : Str} {j : Nat} : VE X K mg W (.Constant (.str x) j pos) (mC (.str x)) := ⟨_, fun _ => pe_str, fun ω ss σ H Q rs h => h ω H _ rs (.refl _ _) (.str x)⟩
/-- a constant of the module -/
theorem v_glob {x : Str} {v : V} {u : Value} {d : Dt} (C : VC X k P w K mg base W) (hg : ∀ i, Gl (X i) x) (hm : mg x = some u) (r : RelV v u) (rp : ∀ H, Rp K H v d) (hd : (x == ("__debug__" : Str)) = false := by decide) : VE X K mg W (.Name x pos) (mC d) :=
  ⟨_, fun i => pe_glob (hg i) (by rw [C.em i]; exact hm) r hd, fun ω ss σ H Q rs h => h ω H _ rs (.refl _ _) (rp _)⟩
/-- the i-th name, given away: what it owned is nobody's own from then on -/
def mVar (i : Nat) : SS → EO Dt := fun ss => match ss[i]? with
  | some (some (.v d)) => .ok d ss
  | some (some (.o d)) => .ok d (ss.set i (some (.v d)))
  | _ => .no
theorem v_var (i : Nat) {x : Str} (hN : ∀ j, (X j).N[i]? = some x) (hv : ∀ j, Vis (X j).env.scope x) (hd : (x == ("__debug__" : Str)) = false := by decide) (hcd : (x == ("__classdict__" : Str)) = false := by decide) : VE X K mg W (.Name x pos) (mVar i) := by
  refine ⟨_, fun j => pe_var (hN j) (hv j) hd hcd, fun ω ss σ H Q rs h => ?_⟩
  unfold mVar at h
  split at h
  · rename_i d q
    obtain ⟨y, q1, q2⟩ := rs.sl i _ q
    exact ⟨y, q1, h ω H y rs (.refl _ _) q2⟩
  · rename_i d q
    obtain ⟨y, q1, a, rfl, q2, q3⟩ := rs.sl i _ q
    have hi : i < σ.length := (List.getElem?_eq_some_iff.mp q1).1
    have hi2 := rs.few
    have q4 : Rp K (hid (drop ω i) H) (.ref a) d := by
      have e : hid (drop ω i) H a = H a := hid_of (by unfold drop; rw [if_pos q2])
      rcases q3 with ⟨ds, xs, rfl, h2, h3⟩ | ⟨ds, kvs, rfl, h2, h3⟩
      · exact .lst (e.trans h2) (RpA.mono hid_drop _ _ h3)
      · exact .dK (e.trans h2) (RpK.mono hid_drop _ _ h3)
    exact ⟨_, q1, h (drop ω i) H _ (rs.put' q1 hid_drop (fun b k hb => by
      unfold drop at hb
      split at hb
      · cases hb
      · exact rs.own b k hb) (fun j b hj _ hb => drop_ne hb hj) q4) (.drop (by omega)) q4⟩
  · exact h.elim
/-- .. borrowed -/
def mBor (i : Nat) : SS → EO Opd := fun ss => match ss[i]? with
  | some (some (.v d)) => .ok (.da d) ss
  | some (some (.o d)) => .ok (.nm i) ss
  | _ => .no
theorem b_var (i : Nat) {x : Str} (hN : ∀ j, (X j).N[i]? = some x) (hv : ∀ j, Vis (X j).env.scope x) (hd : (x == ("__debug__" : Str)) = false := by decide) (hcd : (x == ("__classdict__" : Str)) = false := by decide) : VB X K mg W (.Name x pos) (mBor i) := by
  refine ⟨_, fun j => pe_var (hN j) (hv j) hd hcd, fun ω ss σ H Q rs h => ?_⟩
  unfold mBor at h
  split at h
  · rename_i d q
    obtain ⟨y, q1, q2⟩ := rs.sl i _ q
    exact ⟨y, q1, h ω H y rs (.refl _ _) q2⟩
  · rename_i d q
    obtain ⟨y, q1, _⟩ := rs.sl i _ q
    exact ⟨y, q1, h ω H y rs (.refl _ _) q1⟩
  · exact h.elim
def mB (m : SS → EO Dt) : SS → EO Opd := fun ss => (m ss).bind fun d ss => .ok (.da d) ss
theorem b_val {m : SS → EO Dt} (h : VE X K mg W e m) : VB X K mg W e (mB m) := by
  obtain ⟨t, h1, h2⟩ := h.ex
  refine ⟨t, h1, fun ω ss σ H Q rs q => h2 ω ss σ H Q rs ?_⟩
  exact seqE q fun d ss' ω' H' x _ rs' fr rp q' => q' ω' H' x rs' (.refl _ _) rp
/-- a new list or dict that nobody is to change -/
theorem v_new {m : SS → EO Dt} (h : VO X K mg W e m) : VE X K mg W e m := by
  obtain ⟨t, h1, h2⟩ := h.ex
  refine ⟨t, h1, fun ω ss σ H Q rs q => h2 1000 ω ss σ H Q (Nat.le_refl _) rs ?_⟩
  cases hm : m ss with
  | no => rw [hm] at q; exact q
  | exc c fs ss' => rw [hm] at q; exact q
  | ok d ss' =>
    rw [hm] at q
    rintro ω' H' x rs' fr ⟨a, rfl, h0, ha, hc⟩
    have ω'' : ∃ ω'' : Om, ω'' = fun b => if b = a then none else ω' b := ⟨_, rfl⟩
    obtain ⟨ω'', ew⟩ := ω''
    have ea : ω'' a = none := by rw [ew]; exact if_pos rfl
    have en : ∀ b, b ≠ a → ω'' b = ω' b := fun b hb => by rw [ew]; exact if_neg hb
    have hs : Same (hid ω' H') (hid ω'' H') := fun b o hb => by
      obtain ⟨z1, z2⟩ := hid_some hb
      by_cases hba : b = a
      · rw [hba] at z1
        rw [ha] at z1
        cases z1
      · rw [hid_of ((en b hba).trans z1)]
        exact z2
    have z0 : ω a = none := rs.free h0
    refine q ω'' H' (.ref a) ⟨rs'.len, rs'.few, fun b k hb => ?_, fun i s hi => ?_⟩ ⟨fr.fz.trans hs, fun b k hk hb => ?_, fr.tr⟩ ?_
    · by_cases hba : b = a
      · rw [hba, ea] at hb
        cases hb
      · exact rs'.own b k ((en b hba).symm.trans hb)
    · obtain ⟨y, y1, y2⟩ := rs'.sl i s hi
      refine ⟨y, y1, y2.keep hs fun b hb => ⟨(en b fun z => ?_).trans hb, rfl⟩⟩
      rw [z, ha] at hb
      have hi2 : i < σ.length := (List.getElem?_eq_some_iff.mp y1).1
      have := rs'.few
      have e : 1000 = i := Option.some.inj hb
      omega
    · obtain ⟨w1, w2⟩ := fr.tp b k hk hb
      refine ⟨(en b fun z => ?_).trans w1, w2⟩
      rw [z, z0] at hb
      cases hb
    · have e : hid ω'' H' a = H' a := hid_of ea
      rcases hc with ⟨ds, xs, rfl, g2, g3⟩ | ⟨ds, kvs, rfl, g2, g3⟩
      · exact .lst (e.trans g2) (RpA.mono hs _ _ g3)
      · exact .dK (e.trans g2) (RpK.mono hs _ _ g3)

def mNil : SS → EO (List Dt) := fun ss => .ok [] ss
def mCons (m : SS → EO Dt) (n : SS → EO (List Dt)) : SS → EO (List Dt) := fun ss => (m ss).bind fun d ss => (n ss).bind fun ds ss => .ok (d :: ds) ss
theorem a_nil : VA X K mg W [] mNil := ⟨_, fun _ => pa_nil, fun ω ss σ H Q rs h => h ω H [] rs (.refl _ _) .nil⟩
theorem a_cons {m : SS → EO Dt} {n : SS → EO (List Dt)} (he : VE X K mg W e m) (hs : VA X K mg W es n) (hst : ∀ i, starEach (e :: es) (X i).env = (false, eval e (X i).env) :: starEach es (X i).env := by intro _; rfl) : VA X K mg W (e :: es) (mCons m n) := by
  obtain ⟨t, h1, h2⟩ := he.ex
  obtain ⟨u, g1, g2⟩ := hs.ex
  refine ⟨tCons t u, fun i => pa_cons (h1 i) (g1 i) (hst i), fun ω ss σ H Q rs q => h2 ω ss σ H _ rs ?_⟩
  refine seqE q fun d ss1 ω1 H1 x _ rs1 fr1 rp1 q1 => g2 ω1 ss1 σ H1 _ rs1 ?_
  refine seqE q1 fun ds ss2 ω2 H2 xs _ rs2 fr2 rp2 q2 => ?_
  exact q2 ω2 H2 _ rs2 (.refl _ _) (.cons (Rp.mono fr2.fz _ _ rp1) rp2)
def mNilB : SS → EO (List Opd) := fun ss => .ok [] ss
def mConsB (m : SS → EO Opd) (n : SS → EO (List Opd)) : SS → EO (List Opd) := fun ss => (m ss).bind fun d ss => (n ss).bind fun ds ss => .ok (d :: ds) ss
theorem OpdA.go {ω ω' : Om} {σ : St} {H H' : Hp} (f : Frm ω H ω' H') : ∀ {os : List Opd} {xs : List V}, OpdA K σ ω H xs os → OpdA K σ ω' H' xs os
  | [], _, h => by cases h; exact .nil
  | o :: os, _, h => by
    cases h with
    | cons h1 h2 => exact .cons (h1.go f) (OpdA.go f h2)
theorem bs_nil : VBs X K mg W [] mNilB := ⟨_, fun _ => pa_nil, fun ω ss σ H Q rs h => h ω H [] rs (.refl _ _) .nil⟩
theorem bs_cons {m : SS → EO Opd} {n : SS → EO (List Opd)} (he : VB X K mg W e m) (hs : VBs X K mg W es n) (hst : ∀ i, starEach (e :: es) (X i).env = (false, eval e (X i).env) :: starEach es (X i).env := by intro _; rfl) : VBs X K mg W (e :: es) (mConsB m n) := by
  obtain ⟨t, h1, h2⟩ := he.ex
  obtain ⟨u, g1, g2⟩ := hs.ex
  refine ⟨tCons t u, fun i => pa_cons (h1 i) (g1 i) (hst i), fun ω ss σ H Q rs q => h2 ω ss σ H _ rs ?_⟩
  refine seqE q fun d ss1 ω1 H1 x _ rs1 fr1 rp1 q1 => g2 ω1 ss1 σ H1 _ rs1 ?_
  refine seqE q1 fun ds ss2 ω2 H2 xs _ rs2 fr2 rp2 q2 => ?_
  exact q2 ω2 H2 _ rs2 (.refl _ _) (.cons (rp1.go fr2) rp2)
/-- room for a list, a tuple, a text -/
def fit {α : Type} (n : Nat) (x : EO α) : EO α := if n ≤ sizeLine then x else .no
def mTup (n : SS → EO (List Dt)) : SS → EO Dt := fun ss => (n ss).bind fun ds ss => fit ds.length (.ok (.tuple ds) ss)
def mLst (n : SS → EO (List Dt)) : SS → EO Dt := fun ss => (n ss).bind fun ds ss => fit ds.length (.ok (.list ds) ss)
theorem fitE {α β : Type} {R : Om → Hp → β → α → Prop} {ω : Om} {σ : St} {H : Hp} {n : Nat} {x : EO α} {Q : β → Hp → Prop} (h : EQg R K mg W ω σ H (fit n x) Q) : n ≤ sizeLine ∧ EQg R K mg W ω σ H x Q := by
  unfold fit at h
  split at h
  · exact ⟨by assumption, h⟩
  · exact h.elim
theorem v_tup {n : SS → EO (List Dt)} {z : Nat} (hs : VA X K mg W es n) : VE X K mg W (.Tuple es z pos) (mTup n) := by
  obtain ⟨u, g1, g2⟩ := hs.ex
  refine ⟨tTup u, fun i => pe_tup (g1 i), fun ω ss σ H Q rs q => g2 ω ss σ H _ rs ?_⟩
  refine seqE q fun ds ss1 ω1 H1 xs _ rs1 fr1 rp1 q1 => ?_
  obtain ⟨hz, q1⟩ := fitE q1
  refine ⟨by rw [rp1.length]; exact hz, fun p hp => ?_⟩
  have hs : Same H1 (upd H1 p (.tup xs)) := same_upd hp
  refine q1 ω1 _ _ (rs1.grow hs) (.grow hs rs1.own) (.tup (.of ?_) (RpA.mono (hid_same hs) _ _ rp1))
  rw [hid_of (rs1.free hp), upd_same]
/-- a new object of the k-th one's own -/
theorem RS.new {ω : Om} {ss : SS} {σ : St} {H : Hp} (rs : RS K ω ss σ H) {p : Addr} {o : HO} {k : Nat} (hk : 1000 ≤ k) (hp : H p = none) : ∃ ω' : Om, ω' p = some k ∧ RS K ω' ss σ (upd H p o) ∧ Frm ω H ω' (upd H p o) ∧ Same (hid ω H) (hid ω' (upd H p o)) := by
  have z : ω p = none := rs.free hp
  have en : ∀ b, b ≠ p → (fun b => if b = p then some k else ω b) b = ω b := fun b hb => if_neg hb
  have hs : Same (hid ω H) (hid (fun b => if b = p then some k else ω b) (upd H p o)) := fun b u hb => by
    obtain ⟨z1, z2⟩ := hid_some hb
    have hbp : b ≠ p := fun e => by rw [e, hp] at z2; cases z2
    rw [hid_of ((en b hbp).trans z1), upd_ne hbp]
    exact z2
  refine ⟨fun b => if b = p then some k else ω b, if_pos rfl, ⟨rs.len, rs.few, fun b j hb => ?_, fun i s hi => ?_⟩, ⟨hs, fun b j hj hb => ?_, fun b hb => (same_upd hp).free hb⟩, hs⟩
  · by_cases hbp : b = p
    · rw [hbp, upd_same]; rfl
    · rw [upd_ne hbp]
      exact rs.own b j ((en b hbp).symm.trans hb)
  · obtain ⟨y, y1, y2⟩ := rs.sl i s hi
    refine ⟨y, y1, y2.keep hs fun b hb => ?_⟩
    have hbp : b ≠ p := fun e => by rw [e, z] at hb; cases hb
    exact ⟨(en b hbp).trans hb, upd_ne hbp⟩
  · have hbp : b ≠ p := fun e => by rw [e, z] at hb; cases hb
    exact ⟨(en b hbp).trans hb, upd_ne hbp⟩
theorem o_lst {n : SS → EO (List Dt)} (hs : VA X K mg W es n) : VO X K mg W (.List es pos) (mLst n) := by
  obtain ⟨u, g1, g2⟩ := hs.ex
  refine ⟨tLst u, fun i => pe_lst (g1 i), fun k ω ss σ H Q hk rs q => g2 ω ss σ H _ rs ?_⟩
  cases hm : n ss with
  | no => unfold mLst at q; rw [hm] at q; exact q
  | exc c fs ss' => unfold mLst at q; rw [hm] at q; exact q
  | ok ds ss1 =>
    unfold mLst at q
    rw [hm] at q
    obtain ⟨hz, q⟩ := fitE q
    rintro ω1 H1 xs rs1 fr1 rp1
    refine ⟨by rw [rp1.length]; exact hz, fun p hp => ?_⟩
    obtain ⟨ω2, e2, rs2, fr2, hs2⟩ := rs1.new (o := .lst xs) hk hp
    exact q ω2 _ _ rs2 (fr1.trans fr2) ⟨p, rfl, fr1.tr p hp, e2, .inl ⟨ds, xs, rfl, upd_same, RpA.mono hs2 _ _ rp1⟩⟩
end
end VL

namespace VL
open PySem PySem.Spec L2
open PyProof.Rows hiding St

mutual
theorem Rp.dp {K : PySem.W.Frag} {H : Hp} : ∀ (d : Dt) (x : V), d.canLay0 = true → Rp K H x d → Dp K H x d
  | .none, _, _, h => by cases h; exact .non
  | .bool b, _, _, h => by cases h; exact .bl b
  | .int i, _, _, h => by cases h; exact .int i
  | .str s, _, _, h => by cases h; exact .str s
  | .list ds, _, c, h => by
    cases h with
    | lst hs ha => exact .lst (.of hs) (RpA.dp ds _ (by simpa [PyData.canLay0] using c) ha)
  | .tuple ds, _, c, h => by
    cases h with
    | tup hs ha => exact .tup hs (RpA.dp ds _ (by simpa [PyData.canLay0] using c) ha)
  | .dict ds, _, c, h => by simp [PyData.canLay0] at c
theorem RpA.dp {K : PySem.W.Frag} {H : Hp} : ∀ (ds : List Dt) (xs : List V), PyData.canLayAll0 ds = true → RpA K H xs ds → DpAll K H xs ds
  | [], _, _, h => by cases h; exact .nil
  | d :: ds, _, c, h => by
    cases h with
    | cons h1 h2 =>
      have c' : d.canLay0 = true ∧ PyData.canLayAll0 ds = true := by simpa [PyData.canLayAll0] using c
      exact .cons (Rp.dp d _ c'.1 h1) (RpA.dp ds _ c'.2 h2)
end
theorem shaped_lay {d : Dt} (h : SeqAt.shaped d = true) : d.canLay0 = true := by
  unfold SeqAt.shaped at h
  simp only [Bool.and_eq_true] at h
  exact h.1

section
variable {ι : Type} {X : ι → Cx} {k : Nat} {P : Program} {w : World} {K : PySem.W.Frag} {mg : Str → Option Value} {base : Heap} {W : WX} {e a b c : Expr} {es : List Expr} {pos : Pos}

structure CmpS (X : ι → Cx) (K : PySem.W.Frag) (op : CmpOp) (f : Dt → Dt → Option Bool) : Prop where
  ex : ∃ r : R2, (∀ i, OpR (X i) (compareOp op) r) ∧ ∀ ω H x y d e z (Q : VK), Bor K ω H x d → Bor K ω H y e → f d e = some z → Q (.bl z) H → r x y H Q
/-- one or the other -/
def alt {α β γ : Type} (f g : α → β → Option γ) : α → β → Option γ := fun x y => match f x y with
  | some z => some z
  | none => g x y
theorem CmpS.or {op : CmpOp} {f g : Dt → Dt → Option Bool} (h1 : CmpS X K op f) (h2 : CmpS X K op g) : CmpS X K op (alt f g) := by
  obtain ⟨r, a1, a2⟩ := h1.ex
  obtain ⟨u, b1, b2⟩ := h2.ex
  refine ⟨_, fun i => (a1 i).or (b1 i), fun ω H x y d e z Q bx by' hf q => ?_⟩
  unfold alt at hf
  cases hz : f d e with
  | some z' =>
    rw [hz] at hf
    cases hf
    exact .inl (a2 ω H x y d e _ Q bx by' hz q)
  | none =>
    rw [hz] at hf
    exact .inr (b2 ω H x y d e z Q bx by' hf q)
def fEq : Dt → Dt → Option Bool := fun d e => if SeqAt.shaped d = true ∧ SeqAt.shaped e = true then some (PyData.eqv d e) else none
def fNe : Dt → Dt → Option Bool := fun d e => if SeqAt.shaped d = true ∧ SeqAt.shaped e = true then some (!PyData.eqv d e) else none
theorem c_eq (C : VC X k P w K mg base W) : CmpS X K .Eq fEq := by
  refine ⟨rEqD K, fun i => ?_, fun ω H x y d e z Q bx by' hf q => ?_⟩
  · rw [← C.eK i]
    exact op_eqD (C.rm i).units
  · unfold fEq at hf
    split at hf
    · rename_i hs
      cases hf
      exact ⟨d, e, Rp.dp _ _ (shaped_lay hs.1) bx.rp, Rp.dp _ _ (shaped_lay hs.2) by'.rp, hs.1, hs.2, q⟩
    · cases hf
theorem c_ne (C : VC X k P w K mg base W) : CmpS X K .NotEq fNe := by
  refine ⟨rNeD K, fun i => ?_, fun ω H x y d e z Q bx by' hf q => ?_⟩
  · rw [← C.eK i]
    exact op_neD (C.rm i).units
  · unfold fNe at hf
    split at hf
    · rename_i hs
      cases hf
      exact ⟨d, e, Rp.dp _ _ (shaped_lay hs.1) bx.rp, Rp.dp _ _ (shaped_lay hs.2) by'.rp, hs.1, hs.2, q⟩
    · cases hf
def fInt (f : Int → Int → Bool) : Dt → Dt → Option Bool := fun d e => match d, e with
  | .int i, .int j => some (f i j)
  | _, _ => none
theorem c_int {op : CmpOp} {f : Int → Int → Bool} (h : ∀ i, OpR (X i) (compareOp op) (rI0 fun i j => .bl (f i j))) : CmpS X K op (fInt f) := by
  refine ⟨_, h, fun ω H x y d e z Q bx by' hf q => ?_⟩
  unfold fInt at hf
  split at hf
  · cases hf
    have h1 := bx.rp
    have h2 := by'.rp
    cases h1
    cases h2
    exact ⟨_, _, rfl, rfl, q⟩
  · cases hf
abbrev fLt := fInt fun i j => decide (i < j)
abbrev fLe := fInt fun i j => decide (i ≤ j)
abbrev fGt := fInt fun i j => decide (j < i)
abbrev fGe := fInt fun i j => decide (j ≤ i)
theorem c_lt : CmpS X K .Lt fLt := c_int fun _ => op_lt
theorem c_le : CmpS X K .LtE fLe := c_int fun _ => op_le
theorem c_gt : CmpS X K .Gt fGt := c_int fun _ => op_gt
theorem c_ge : CmpS X K .GtE fGe := c_int fun _ => op_ge
def isN : Dt → Bool
  | .none => true
  | _ => false
theorem isN_rp {H : Hp} {x : V} {d : Dt} (h : Rp K H x d) : decide (x = V.non) = isN d := by
  cases h <;> first | rfl | exact decide_eq_false (fun z => nomatch z)
def fIs : Dt → Dt → Option Bool := fun d e => if isN e = true then some (isN d) else none
def fIsNot : Dt → Dt → Option Bool := fun d e => if isN e = true then some (!isN d) else none
theorem c_is : CmpS X K .Is fIs := by
  refine ⟨_, fun _ => op_isN, fun ω H x y d e z Q bx by' hf q => ?_⟩
  unfold fIs at hf
  split at hf
  · rename_i he
    cases hf
    have h2 := isN_rp by'.rp
    rw [he] at h2
    exact ⟨of_decide_eq_true h2, by rw [isN_rp bx.rp]; exact q⟩
  · cases hf
theorem c_isNot : CmpS X K .IsNot fIsNot := by
  refine ⟨_, fun _ => op_notN, fun ω H x y d e z Q bx by' hf q => ?_⟩
  unfold fIsNot at hf
  split at hf
  · rename_i he
    cases hf
    have h2 := isN_rp by'.rp
    rw [he] at h2
    exact ⟨of_decide_eq_true h2, by rw [isN_rp bx.rp]; exact q⟩
  · cases hf
/-- one sign in a text -/
def fSign (neg : Bool) : Dt → Dt → Option Bool := fun d e => match d, e with
  | .str ⟨⟨[c]⟩⟩, .str z => some (if neg then !decide (c ∈ z.cps.toList) else decide (c ∈ z.cps.toList))
  | _, _ => none
theorem c_inSign : CmpS X K .In (fSign false) := by
  refine ⟨_, fun _ => op_in_sign, fun ω H x y d e z Q bx by' hf q => ?_⟩
  unfold fSign at hf
  split at hf
  · cases hf
    have h1 := bx.rp
    have h2 := by'.rp
    cases h1
    cases h2
    exact ⟨_, _, rfl, rfl, q⟩
  · cases hf
theorem c_notInSign : CmpS X K .NotIn (fSign true) := by
  refine ⟨_, fun _ => op_notIn_sign, fun ω H x y d e z Q bx by' hf q => ?_⟩
  unfold fSign at hf
  split at hf
  · cases hf
    have h1 := bx.rp
    have h2 := by'.rp
    cases h1
    cases h2
    exact ⟨_, _, rfl, rfl, q⟩
  · cases hf
/-- a flat thing in a list or tuple of flat things -/
def flatD : Dt → Bool
  | .none => true | .bool _ => true | .int _ => true | .str _ => true | _ => false
def toV : Dt → V
  | .none => .non | .bool b => .bl b | .int i => .int i | .str s => .str s | _ => .non
theorem flat_rp {H : Hp} {x : V} {d : Dt} (h : Rp K H x d) (f : flatD d = true) : x = toV d ∧ flatV x = true := by
  cases h <;> first | exact ⟨rfl, rfl⟩ | exact absurd (show false = true from f) Bool.false_ne_true
theorem flat_rpa {H : Hp} : ∀ {ds : List Dt} {xs : List V}, RpA K H xs ds → ds.all flatD = true → xs = ds.map toV ∧ xs.all flatV = true
  | [], _, h, _ => by cases h; exact ⟨rfl, rfl⟩
  | d :: ds, _, h, f => by
    cases h with
    | cons h1 h2 =>
      rw [List.all_cons, Bool.and_eq_true] at f
      obtain ⟨e1, f1⟩ := flat_rp h1 f.1
      obtain ⟨e2, f2⟩ := flat_rpa h2 f.2
      subst e2
      exact ⟨by rw [List.map_cons, e1], by rw [List.all_cons, f1, f2]; rfl⟩
def seqD : Dt → Option (List Dt)
  | .list ds => some ds
  | .tuple ds => some ds
  | _ => none
theorem seq_rp {H : Hp} {y : V} {d : Dt} {ds : List Dt} (h : Rp K H y d) (s : seqD d = some ds) : ∃ p xs, y = .ref p ∧ (SqL K H p xs ∨ SqT K H p xs) ∧ RpA K H xs ds := by
  cases h with
  | lst h1 h2 => cases s; exact ⟨_, _, rfl, .inl (.of h1), h2⟩
  | tup h1 h2 => cases s; exact ⟨_, _, rfl, .inr h1, h2⟩
  | _ => cases s
def fInSeq (neg : Bool) : Dt → Dt → Option Bool := fun d e => match seqD e with
  | some ds => if flatD d = true ∧ ds.all flatD = true then some (if neg then !inV (toV d) (ds.map toV) else inV (toV d) (ds.map toV)) else none
  | none => none
theorem inSeq_go {neg : Bool} {ω : Om} {H : Hp} {x y : V} {d e : Dt} {z : Bool} {Q : VK} (bx : Bor K ω H x d) (by' : Bor K ω H y e) (hf : fInSeq neg d e = some z) (q : Q (.bl z) H) : rIn K neg x y H Q := by
  unfold fInSeq at hf
  split at hf
  · rename_i ds hs
    split at hf
    · rename_i hh
      cases hf
      obtain ⟨p, xs, rfl, h1, h2⟩ := seq_rp by'.rp hs
      obtain ⟨e1, f1⟩ := flat_rp bx.rp hh.1
      obtain ⟨e2, f2⟩ := flat_rpa h2 hh.2
      subst e1 e2
      exact ⟨p, _, rfl, h1, f1, f2, q⟩
    · cases hf
  · cases hf
theorem c_inSeq (C : VC X k P w K mg base W) : CmpS X K .In (fInSeq false) :=
  ⟨rIn K false, fun i => by rw [← C.eK i]; exact op_in_seq, fun ω H x y d e z Q bx by' hf q => inSeq_go bx by' hf q⟩
theorem c_notInSeq (C : VC X k P w K mg base W) : CmpS X K .NotIn (fInSeq true) :=
  ⟨rIn K true, fun i => by rw [← C.eK i]; exact op_notIn_seq, fun ω H x y d e z Q bx by' hf q => inSeq_go bx by' hf q⟩
/-- anything in a list -/
def fInD (neg : Bool) : Dt → Dt → Option Bool := fun d e => match e with
  | .list ds => if SeqAt.shaped d = true ∧ SeqAt.shaped (.list ds) = true then some (if neg then !ds.any fun z => PyData.eqv z d else ds.any fun z => PyData.eqv z d) else none
  | _ => none
theorem c_inD (C : VC X k P w K mg base W) : CmpS X K .In (fInD false) := by
  refine ⟨rInD K, fun i => ?_, fun ω H x y d e z Q bx by' hf q => ?_⟩
  · rw [← C.eK i]
    exact op_inD (by have := (C.rm i).un; omega)
  · unfold fInD at hf
    split at hf
    · rename_i ds
      split at hf
      · rename_i hs
        cases hf
        exact ⟨d, ds, Rp.dp _ _ (shaped_lay hs.1) bx.rp, Rp.dp _ _ (shaped_lay hs.2) by'.rp, hs.1, hs.2, q⟩
      · cases hf
    · cases hf
theorem c_notInD (C : VC X k P w K mg base W) : CmpS X K .NotIn (fInD true) := by
  refine ⟨rNotInD K, fun i => ?_, fun ω H x y d e z Q bx by' hf q => ?_⟩
  · rw [← C.eK i]
    exact op_notInD (by have := (C.rm i).un; omega)
  · unfold fInD at hf
    split at hf
    · rename_i ds
      split at hf
      · rename_i hs
        cases hf
        exact ⟨d, ds, Rp.dp _ _ (shaped_lay hs.1) bx.rp, Rp.dp _ _ (shaped_lay hs.2) by'.rp, hs.1, hs.2, q⟩
      · cases hf
    · cases hf
def fIn : Dt → Dt → Option Bool := alt (fSign false) (alt (fInSeq false) (fInD false))
def fNotIn : Dt → Dt → Option Bool := alt (fSign true) (alt (fInSeq true) (fInD true))
theorem c_in (C : VC X k P w K mg base W) : CmpS X K .In fIn := c_inSign.or ((c_inSeq C).or (c_inD C))
theorem c_notIn (C : VC X k P w K mg base W) : CmpS X K .NotIn fNotIn := c_notInSign.or ((c_notInSeq C).or (c_notInD C))

/-- the operands as they stand when they are used -/
def two {α : Type} (f : Dt → Dt → Option α) (o p : Opd) (ss : SS) : Option α := match o.get ss, p.get ss with
  | some d, some e => f d e
  | _, _ => none
theorem two_some {α : Type} {f : Dt → Dt → Option α} {o p : Opd} {ss : SS} {z : α} (h : two f o p ss = some z) : ∃ d e, o.get ss = some d ∧ p.get ss = some e ∧ f d e = some z := by
  unfold two at h
  split at h
  · rename_i d e h1 h2
    exact ⟨d, e, h1, h2, h⟩
  · cases h
def mCmp (f : Dt → Dt → Option Bool) (m n : SS → EO Opd) : SS → EO Bool := fun ss => (m ss).bind fun o ss => (n ss).bind fun p ss => .lift (two f o p ss) ss
def mBl (m : SS → EO Bool) : SS → EO Dt := fun ss => (m ss).bind fun d ss => .ok (.bool d) ss
theorem lift_get {α β : Type} {R : Om → Hp → β → α → Prop} {ω : Om} {σ : St} {H : Hp} {ss : SS} {x : Option α} {Q : β → Hp → Prop} (h : EQg R K mg W ω σ H (.lift x ss) Q) : ∃ z, x = some z ∧ EQg R K mg W ω σ H (.ok z ss) Q := by
  cases x with
  | none => exact h.elim
  | some z => exact ⟨z, rfl, h⟩
theorem cmp_go {op : CmpOp} {f : Dt → Dt → Option Bool} {m n : SS → EO Opd} (hm : VB X K mg W a m) (hn : VB X K mg W b n) (hc : CmpS X K op f) : ∃ (r : R2) (ta tb : TE), (∀ i, OpR (X i) (compareOp op) r) ∧ (∀ i, PE (X i) a ta) ∧ (∀ i, PE (X i) b tb) ∧
    ∀ ω ss σ H (Q : VK), RS K ω ss σ H → EQg EqB K mg W ω σ H (mCmp f m n ss) (fun k H' => Q (.bl k) H') → tOp r ta tb σ H Q := by
  obtain ⟨r, a1, a2⟩ := hc.ex
  obtain ⟨t, h1, h2⟩ := hm.ex
  obtain ⟨u, g1, g2⟩ := hn.ex
  refine ⟨r, t, u, a1, h1, g1, fun ω ss σ H Q rs q => h2 ω ss σ H _ rs ?_⟩
  refine seqE q fun o ss1 ω1 H1 x _ rs1 fr1 rp1 q1 => g2 ω1 ss1 σ H1 _ rs1 ?_
  refine seqE q1 fun p ss2 ω2 H2 y _ rs2 fr2 rp2 q2 => ?_
  obtain ⟨z, hz, q2⟩ := lift_get q2
  obtain ⟨d, e, e1, e2, e3⟩ := two_some hz
  exact a2 ω2 H2 x y d e z _ (Opd.bor rs2 (rp1.go fr2) e1) (Opd.bor rs2 rp2 e2) e3 (q2 ω2 H2 z rs2 (.refl _ _) rfl)
theorem t_cmp {op : CmpOp} {f : Dt → Dt → Option Bool} {m n : SS → EO Opd} (hm : VB X K mg W a m) (hn : VB X K mg W b n) (hc : CmpS X K op f) (hk : behindInMarks op b = false) : VT X K mg W (.Compare a [op] [b] pos) (mCmp f m n) := by
  obtain ⟨r, t, u, a1, h1, g1, g⟩ := cmp_go hm hn hc
  exact ⟨_, fun i => pt_cmpR (a1 i) (h1 i) (g1 i) hk, fun ω ss σ H Q rs q => g ω ss σ H _ rs (q.imp fun k H' h => ⟨k, rfl, h⟩)⟩
theorem blE {r : EO Bool} {ω : Om} {σ : St} {H : Hp} {Q : VK} (q : EQg (RpE K) K mg W ω σ H (r.bind fun d ss => .ok (.bool d) ss) Q) : EQg EqB K mg W ω σ H r (fun k H' => Q (.bl k) H') :=
  seqE q fun d ss1 ω1 H1 x _ rs1 fr1 rp1 q1 => by
    cases rp1
    exact q1 ω1 H1 (.bl d) rs1 (.refl _ _) (.bl d)
theorem v_cmp {op : CmpOp} {f : Dt → Dt → Option Bool} {m n : SS → EO Opd} (hm : VB X K mg W a m) (hn : VB X K mg W b n) (hc : CmpS X K op f) (hk : behindInMarks op b = false) : VE X K mg W (.Compare a [op] [b] pos) (mBl (mCmp f m n)) := by
  obtain ⟨r, t, u, a1, h1, g1, g⟩ := cmp_go hm hn hc
  exact ⟨_, fun i => pe_cmpR (a1 i) (h1 i) (g1 i) hk, fun ω ss σ H Q rs q => g ω ss σ H Q rs (blE q)⟩
/-- a op b op' c -/
def mChain (f g : Dt → Dt → Option Bool) (m n l : SS → EO Opd) : SS → EO Bool := fun ss => (m ss).bind fun o ss => (n ss).bind fun p ss => (EO.lift (two f o p ss) ss).bind fun z ss =>
  if z = true then (l ss).bind fun q ss => .lift (two g p q ss) ss else .ok false ss
theorem chain_go {op op' : CmpOp} {f f' : Dt → Dt → Option Bool} {m n l : SS → EO Opd} (hm : VB X K mg W a m) (hn : VB X K mg W b n) (hl : VB X K mg W c l) (hc : CmpS X K op f) (hc' : CmpS X K op' f') : ∃ (r r' : R2) (ta tb tc : TE), (∀ i, OpR (X i) (compareOp op) r) ∧ (∀ i, OpR (X i) (compareOp op') r') ∧
    (∀ i, PE (X i) a ta) ∧ (∀ i, PE (X i) b tb) ∧ (∀ i, PE (X i) c tc) ∧ ∀ ω ss σ H (Q : VK), RS K ω ss σ H → EQg EqB K mg W ω σ H (mChain f f' m n l ss) (fun k H' => Q (.bl k) H') → tChain r r' ta tb tc σ H Q := by
  obtain ⟨r, a1, a2⟩ := hc.ex
  obtain ⟨r', b1, b2⟩ := hc'.ex
  obtain ⟨t, h1, h2⟩ := hm.ex
  obtain ⟨u, g1, g2⟩ := hn.ex
  obtain ⟨v, l1, l2⟩ := hl.ex
  refine ⟨r, r', t, u, v, a1, b1, h1, g1, l1, fun ω ss σ H Q rs q => h2 ω ss σ H _ rs ?_⟩
  refine seqE q fun o ss1 ω1 H1 x _ rs1 fr1 rp1 q1 => g2 ω1 ss1 σ H1 _ rs1 ?_
  refine seqE q1 fun p ss2 ω2 H2 y _ rs2 fr2 rp2 q2 => ?_
  cases hz : two f o p ss2 with
  | none => rw [hz] at q2; exact q2.elim
  | some z =>
    rw [hz] at q2
    obtain ⟨d, e, e1, e2, e3⟩ := two_some hz
    refine a2 ω2 H2 x y d e z _ (Opd.bor rs2 (rp1.go fr2) e1) (Opd.bor rs2 rp2 e2) e3 ⟨z, rfl, ?_⟩
    have q2 : EQg EqB K mg W ω2 σ H2 (if z = true then (l ss2).bind fun q ss => .lift (two f' p q ss) ss else .ok false ss2) (fun k H' => Q (.bl k) H') := q2
    cases z with
    | false =>
      rw [if_neg Bool.false_ne_true] at q2 ⊢
      exact q2 ω2 H2 false rs2 (.refl _ _) rfl
    | true =>
      rw [if_pos rfl] at q2 ⊢
      refine l2 ω2 ss2 σ H2 _ rs2 (seqE q2 fun o3 ss3 ω3 H3 x3 _ rs3 fr3 rp3 q3 => ?_)
      obtain ⟨z3, hz3, q3⟩ := lift_get q3
      obtain ⟨d', e', i1, i2, i3⟩ := two_some hz3
      exact b2 ω3 H3 y x3 d' e' z3 _ (Opd.bor rs3 (rp2.go fr3) i1) (Opd.bor rs3 rp3 i2) i3 (q3 ω3 H3 z3 rs3 (.refl _ _) rfl)
theorem t_chain {op op' : CmpOp} {f f' : Dt → Dt → Option Bool} {m n l : SS → EO Opd} (hm : VB X K mg W a m) (hn : VB X K mg W b n) (hl : VB X K mg W c l) (hc : CmpS X K op f) (hc' : CmpS X K op' f') (hk : lastMarks [op, op'] [b, c] = false := by with_unfolding_all rfl) :
    VT X K mg W (.Compare a [op, op'] [b, c] pos) (mChain f f' m n l) := by
  obtain ⟨r, r', t, u, v, a1, b1, h1, g1, l1, g⟩ := chain_go hm hn hl hc hc'
  exact ⟨_, fun i => pt_chain (a1 i) (b1 i) (h1 i) (g1 i) (l1 i) hk, fun ω ss σ H Q rs q => g ω ss σ H _ rs (q.imp fun k H' h => ⟨k, rfl, h⟩)⟩
theorem v_chain {op op' : CmpOp} {f f' : Dt → Dt → Option Bool} {m n l : SS → EO Opd} (hm : VB X K mg W a m) (hn : VB X K mg W b n) (hl : VB X K mg W c l) (hc : CmpS X K op f) (hc' : CmpS X K op' f') (hk : lastMarks [op, op'] [b, c] = false := by with_unfolding_all rfl) :
    VE X K mg W (.Compare a [op, op'] [b, c] pos) (mBl (mChain f f' m n l)) := by
  obtain ⟨r, r', t, u, v, a1, b1, h1, g1, l1, g⟩ := chain_go hm hn hl hc hc'
  exact ⟨_, fun i => pe_chain (a1 i) (b1 i) (h1 i) (g1 i) (l1 i) hk, fun ω ss σ H Q rs q => g ω ss σ H Q rs (blE q)⟩

def toB (m : SS → EO Dt) : SS → EO Bool := fun ss => (m ss).bind fun d ss => match d with
  | .bool z => .ok z ss
  | _ => .no
/-- an expression whose value is a bool -/
theorem t_val {m : SS → EO Dt} (h : VE X K mg W e m) (he : ∀ i whole, isTrue e (X i).env whole = (do let v ← whole; standAt e.pos; holding [v] (truthy v)) := by intro _ _; rfl) : VT X K mg W e (toB m) := by
  obtain ⟨t, h1, h2⟩ := h.ex
  refine ⟨_, fun i => pt_val (h1 i) (he i), fun ω ss σ H Q rs q => h2 ω ss σ H _ rs ?_⟩
  refine seqE q fun d ss1 ω1 H1 x _ rs1 fr1 rp1 q1 => ?_
  cases rp1 with
  | bl z => exact ⟨z, rfl, q1 ω1 H1 z rs1 (.refl _ _) rfl⟩
  | _ => exact q1.elim
def mNot (m : SS → EO Bool) : SS → EO Bool := fun ss => (m ss).bind fun d ss => .ok (!d) ss
theorem t_not {m : SS → EO Bool} (h : VT X K mg W a m) : VT X K mg W (.UnaryOp .Not a pos) (mNot m) := by
  obtain ⟨t, h1, h2⟩ := h.ex
  refine ⟨_, fun i => pt_not (h1 i), fun ω ss σ H Q rs q => h2 ω ss σ H _ rs ?_⟩
  refine seqE q fun d ss1 ω1 H1 x _ rs1 fr1 rp1 q1 => ?_
  cases rp1
  exact q1 ω1 H1 _ rs1 (.refl _ _) rfl
def mAnd (m n : SS → EO Bool) : SS → EO Bool := fun ss => (m ss).bind fun d ss => if d = true then n ss else .ok false ss
def mOr (m n : SS → EO Bool) : SS → EO Bool := fun ss => (m ss).bind fun d ss => if d = true then .ok true ss else n ss
theorem w_and1 {m : SS → EO Bool} (h : VT X K mg W a m) : VW X K mg W (.BoolOp .And [a] pos) m := let ⟨t, h1, h2⟩ := h.ex; ⟨t, fun i => pw_and1 (h1 i), h2⟩
theorem w_or1 {m : SS → EO Bool} (h : VT X K mg W a m) : VW X K mg W (.BoolOp .Or [a] pos) m := let ⟨t, h1, h2⟩ := h.ex; ⟨t, fun i => pw_or1 (h1 i), h2⟩
theorem w_and {m n : SS → EO Bool} (h : VT X K mg W a m) (g : VW X K mg W (.BoolOp .And (b :: es) pos) n) : VW X K mg W (.BoolOp .And (a :: b :: es) pos) (mAnd m n) := by
  obtain ⟨t, h1, h2⟩ := h.ex
  obtain ⟨u, g1, g2⟩ := g.ex
  refine ⟨_, fun i => pw_and (h1 i) (g1 i), fun ω ss σ H Q rs q => h2 ω ss σ H _ rs ?_⟩
  refine seqE q fun d ss1 ω1 H1 x _ rs1 fr1 rp1 q1 => ?_
  cases rp1
  cases d with
  | true => exact g2 ω1 ss1 σ H1 _ rs1 q1
  | false => exact q1 ω1 H1 _ rs1 (.refl _ _) rfl
theorem w_or {m n : SS → EO Bool} (h : VT X K mg W a m) (g : VW X K mg W (.BoolOp .Or (b :: es) pos) n) : VW X K mg W (.BoolOp .Or (a :: b :: es) pos) (mOr m n) := by
  obtain ⟨t, h1, h2⟩ := h.ex
  obtain ⟨u, g1, g2⟩ := g.ex
  refine ⟨_, fun i => pw_or (h1 i) (g1 i), fun ω ss σ H Q rs q => h2 ω ss σ H _ rs ?_⟩
  refine seqE q fun d ss1 ω1 H1 x _ rs1 fr1 rp1 q1 => ?_
  cases rp1
  cases d with
  | false => exact g2 ω1 ss1 σ H1 _ rs1 q1
  | true => exact q1 ω1 H1 _ rs1 (.refl _ _) rfl
theorem t_w {m : SS → EO Bool} (h : VW X K mg W e m) : VT X K mg W e m := let ⟨t, h1, h2⟩ := h.ex; ⟨t, fun i => (h1 i).pt, h2⟩
def vAnd (m n : SS → EO Dt) : SS → EO Dt := fun ss => (m ss).bind fun d ss => match d with
  | .bool true => n ss
  | .bool false => .ok (.bool false) ss
  | _ => .no
def vOr (m n : SS → EO Dt) : SS → EO Dt := fun ss => (m ss).bind fun d ss => match d with
  | .bool false => n ss
  | .bool true => .ok (.bool true) ss
  | _ => .no
def vNot (m : SS → EO Dt) : SS → EO Dt := fun ss => (m ss).bind fun d ss => match d with
  | .bool z => .ok (.bool (!z)) ss
  | _ => .no
theorem v_one {op : BoolOp} {m : SS → EO Dt} (h : VE X K mg W a m) : VE X K mg W (.BoolOp op [a] pos) m := let ⟨t, h1, h2⟩ := h.ex; ⟨t, fun i => pe_one (h1 i), h2⟩
theorem v_and {m n : SS → EO Dt} (h : VE X K mg W a m) (g : VE X K mg W (.BoolOp .And (b :: es) pos) n) : VE X K mg W (.BoolOp .And (a :: b :: es) pos) (vAnd m n) := by
  obtain ⟨t, h1, h2⟩ := h.ex
  obtain ⟨u, g1, g2⟩ := g.ex
  refine ⟨_, fun i => pe_and (h1 i) (g1 i), fun ω ss σ H Q rs q => h2 ω ss σ H _ rs ?_⟩
  refine seqE q fun d ss1 ω1 H1 x _ rs1 fr1 rp1 q1 => ?_
  cases rp1 with
  | bl z =>
    refine ⟨z, rfl, ?_⟩
    cases z with
    | true => exact g2 ω1 ss1 σ H1 _ rs1 q1
    | false => exact q1 ω1 H1 _ rs1 (.refl _ _) (.bl _)
  | _ => exact q1.elim
theorem v_or {m n : SS → EO Dt} (h : VE X K mg W a m) (g : VE X K mg W (.BoolOp .Or (b :: es) pos) n) : VE X K mg W (.BoolOp .Or (a :: b :: es) pos) (vOr m n) := by
  obtain ⟨t, h1, h2⟩ := h.ex
  obtain ⟨u, g1, g2⟩ := g.ex
  refine ⟨_, fun i => pe_or (h1 i) (g1 i), fun ω ss σ H Q rs q => h2 ω ss σ H _ rs ?_⟩
  refine seqE q fun d ss1 ω1 H1 x _ rs1 fr1 rp1 q1 => ?_
  cases rp1 with
  | bl z =>
    refine ⟨z, rfl, ?_⟩
    cases z with
    | false => exact g2 ω1 ss1 σ H1 _ rs1 q1
    | true => exact q1 ω1 H1 _ rs1 (.refl _ _) (.bl _)
  | _ => exact q1.elim
theorem v_not {m : SS → EO Dt} (h : VE X K mg W a m) : VE X K mg W (.UnaryOp .Not a pos) (vNot m) := by
  obtain ⟨t, h1, h2⟩ := h.ex
  refine ⟨_, fun i => pe_not (h1 i), fun ω ss σ H Q rs q => h2 ω ss σ H _ rs ?_⟩
  refine seqE q fun d ss1 ω1 H1 x _ rs1 fr1 rp1 q1 => ?_
  cases rp1 with
  | bl z => exact ⟨z, rfl, q1 ω1 H1 _ rs1 (.refl _ _) (.bl _)⟩
  | _ => exact q1.elim
def mIf {α : Type} (c : SS → EO Bool) (m n : SS → EO α) : SS → EO α := fun ss => (c ss).bind fun d ss => if d = true then m ss else n ss
theorem v_if {t : SS → EO Bool} {m n : SS → EO Dt} (hc : VT X K mg W c t) (h : VE X K mg W a m) (g : VE X K mg W b n) : VE X K mg W (.IfExp c a b pos) (mIf t m n) := by
  obtain ⟨tc, c1, c2⟩ := hc.ex
  obtain ⟨t, h1, h2⟩ := h.ex
  obtain ⟨u, g1, g2⟩ := g.ex
  refine ⟨_, fun i => pe_ifExp (c1 i) (h1 i) (g1 i), fun ω ss σ H Q rs q => c2 ω ss σ H _ rs ?_⟩
  refine seqE q fun d ss1 ω1 H1 x _ rs1 fr1 rp1 q1 => ?_
  cases rp1
  cases d with
  | true => exact h2 ω1 ss1 σ H1 _ rs1 q1
  | false => exact g2 ω1 ss1 σ H1 _ rs1 q1

/-- the result is data, or a new object of data -/
structure BinS (X : ι → Cx) (K : PySem.W.Frag) (op : Operator) (f : Dt → Dt → Option Dt) : Prop where
  ex : ∃ r : R2, (∀ i, OpR (X i) (binaryOp op) r) ∧ ∀ ω ss σ H x y d e z (Q : VK), RS K ω ss σ H → Bor K ω H x d → Bor K ω H y e → f d e = some z → (∀ H' v, Same H H' → Rp K (hid ω H') v z → Q v H') → r x y H Q
theorem BinS.or {op : Operator} {f g : Dt → Dt → Option Dt} (h1 : BinS X K op f) (h2 : BinS X K op g) : BinS X K op (alt f g) := by
  obtain ⟨r, a1, a2⟩ := h1.ex
  obtain ⟨u, b1, b2⟩ := h2.ex
  refine ⟨_, fun i => (a1 i).or (b1 i), fun ω ss σ H x y d e z Q rs bx by' hf q => ?_⟩
  unfold alt at hf
  cases hz : f d e with
  | some z' =>
    rw [hz] at hf
    cases hf
    exact .inl (a2 ω ss σ H x y d e _ Q rs bx by' hz q)
  | none =>
    rw [hz] at hf
    exact .inr (b2 ω ss σ H x y d e z Q rs bx by' hf q)
def gInt (g : Int → Int → Option Int) : Dt → Dt → Option Dt := fun d e => match d, e with
  | .int i, .int j => (g i j).map .int
  | _, _ => none
theorem s_int {op : Operator} {C : Int → Int → Prop} {f : Int → Int → Int} {g : Int → Int → Option Int} (h : ∀ i, OpR (X i) (binaryOp op) (rI C fun i j => .int (f i j))) (hg : ∀ i j z, g i j = some z → C i j ∧ z = f i j) : BinS X K op (gInt g) := by
  refine ⟨_, h, fun ω ss σ H x y d e z Q rs bx by' hf q => ?_⟩
  unfold gInt at hf
  split at hf
  · obtain ⟨z', e1, e2⟩ := Option.map_eq_some_iff.mp hf
    obtain ⟨c, e3⟩ := hg _ _ _ e1
    have h1 := bx.rp
    have h2 := by'.rp
    cases h1
    cases h2
    subst e2 e3
    exact ⟨_, _, rfl, rfl, c, q H _ (Same.refl _) (.int _)⟩
  · cases hf
theorem s_int0 {op : Operator} {f : Int → Int → Int} (h : ∀ i, OpR (X i) (binaryOp op) (rI0 fun i j => .int (f i j))) : BinS X K op (gInt fun i j => some (f i j)) := by
  refine ⟨_, h, fun ω ss σ H x y d e z Q rs bx by' hf q => ?_⟩
  unfold gInt at hf
  split at hf
  · cases hf
    have h1 := bx.rp
    have h2 := by'.rp
    cases h1
    cases h2
    exact ⟨_, _, rfl, rfl, q H _ (Same.refl _) (.int _)⟩
  · cases hf
def gMul : Dt → Dt → Option Dt := gInt fun i j => if (-(2 ^ 64) < i ∧ i < 2 ^ 64) ∨ (-(2 ^ 64) < j ∧ j < 2 ^ 64) then some (i * j) else none
def gMod : Dt → Dt → Option Dt := gInt fun i j => if 0 < j then some (i % j) else none
def gDiv : Dt → Dt → Option Dt := gInt fun i j => if 0 < j ∧ j < 1073741824 then some (i / j) else none
def gPow : Dt → Dt → Option Dt := gInt fun i j => if 0 ≤ j ∧ j ≤ 1000000 ∧ i.natAbs < 2 ^ 64 then some (i ^ j.toNat) else none
def gSub : Dt → Dt → Option Dt := gInt fun i j => some (i - j)
theorem s_mul : BinS X K .Mult gMul := s_int (fun _ => op_mul) fun i j z h => by
  split at h
  · cases h; exact ⟨by assumption, rfl⟩
  · cases h
theorem s_mod : BinS X K .Mod gMod := s_int (fun _ => op_mod) fun i j z h => by
  split at h
  · cases h; exact ⟨by assumption, rfl⟩
  · cases h
theorem s_div : BinS X K .FloorDiv gDiv := s_int (fun _ => op_fdiv) fun i j z h => by
  split at h
  · cases h; exact ⟨by assumption, rfl⟩
  · cases h
theorem s_pow : BinS X K .Pow gPow := s_int (fun _ => op_pow) fun i j z h => by
  split at h
  · cases h; exact ⟨by assumption, rfl⟩
  · cases h
theorem s_sub : BinS X K .Sub gSub := s_int0 fun _ => op_sub
def gAddS : Dt → Dt → Option Dt := fun d e => match d, e with
  | .str i, .str j => if i.length + j.length ≤ sizeLine then some (.str (i ++ j)) else none
  | _, _ => none
def gAddT : Dt → Dt → Option Dt := fun d e => match d, e with
  | .tuple xs, .tuple ys => if xs.length + ys.length ≤ sizeLine then some (.tuple (xs ++ ys)) else none
  | _, _ => none
def gAddL : Dt → Dt → Option Dt := fun d e => match d, e with
  | .list xs, .list ys => if xs.length + ys.length ≤ sizeLine then some (.list (xs ++ ys)) else none
  | _, _ => none
theorem s_addS : BinS X K .Add gAddS := by
  refine ⟨_, fun _ => op_add_str, fun ω ss σ H x y d e z Q rs bx by' hf q => ?_⟩
  unfold gAddS at hf
  split at hf
  · split at hf
    · cases hf
      have h1 := bx.rp
      have h2 := by'.rp
      cases h1
      cases h2
      exact ⟨_, _, rfl, rfl, by assumption, q H _ (Same.refl _) (.str _)⟩
    · cases hf
  · cases hf
theorem bor_tup {ω : Om} {H : Hp} {x : V} {ds : List Dt} (h : Bor K ω H x (.tuple ds)) : ∃ a xs, x = .ref a ∧ SqT K (hid ω H) a xs ∧ RpA K (hid ω H) xs ds := by
  rcases h with h | ⟨a, _, h⟩
  · cases h with
    | tup h1 h2 => exact ⟨_, _, rfl, h1, h2⟩
  · rcases h with ⟨ds, xs, e, _⟩ | ⟨ds, xs, e, _⟩ <;> cases e
theorem bor_lst {ω : Om} {H : Hp} {x : V} {ds : List Dt} (h : Bor K ω H x (.list ds)) : ∃ a xs, x = .ref a ∧ H a = some (.lst xs) ∧ RpA K (hid ω H) xs ds := by
  rcases h with h | ⟨a, rfl, h⟩
  · cases h with
    | lst h1 h2 => exact ⟨_, _, rfl, hid_le _ _ h1, h2⟩
  · rcases h with ⟨ds, xs, e, h2, h3⟩ | ⟨ds, xs, e, _⟩
    · cases e
      exact ⟨_, _, rfl, h2, h3⟩
    · cases e
theorem new_tup {ω : Om} {ss : SS} {σ : St} {H : Hp} {xs : List V} {ds : List Dt} {p : Addr} (rs : RS K ω ss σ H) (hp : H p = none) (h : RpA K (hid ω H) xs ds) : Same H (upd H p (.tup xs)) ∧ Rp K (hid ω (upd H p (.tup xs))) (.ref p) (.tuple ds) := by
  have hs : Same H (upd H p (.tup xs)) := same_upd hp
  exact ⟨hs, .tup (.of (by rw [hid_of (rs.free hp), upd_same])) (RpA.mono (hid_same hs) _ _ h)⟩
theorem new_lst {ω : Om} {ss : SS} {σ : St} {H : Hp} {xs : List V} {ds : List Dt} {p : Addr} (rs : RS K ω ss σ H) (hp : H p = none) (h : RpA K (hid ω H) xs ds) : Same H (upd H p (.lst xs)) ∧ Rp K (hid ω (upd H p (.lst xs))) (.ref p) (.list ds) := by
  have hs : Same H (upd H p (.lst xs)) := same_upd hp
  exact ⟨hs, .lst (by rw [hid_of (rs.free hp), upd_same]) (RpA.mono (hid_same hs) _ _ h)⟩
theorem s_addT (C : VC X k P w K mg base W) : BinS X K .Add gAddT := by
  refine ⟨rCatA K, fun i => by rw [← C.eK i]; exact op_catA, fun ω ss σ H x y d e z Q rs bx by' hf q => ?_⟩
  unfold gAddT at hf
  split at hf
  · split at hf
    · rename_i ds es hz
      cases hf
      obtain ⟨a, xs, rfl, h1, h2⟩ := bor_tup bx
      obtain ⟨b, ys, rfl, g1, g2⟩ := bor_tup by'
      refine ⟨a, b, xs, ys, rfl, rfl, sqT_mono hid_le h1, sqT_mono hid_le g1, by rw [h2.length, g2.length]; exact hz, fun e0 => ?_, fun _ e0 => ?_, fun _ _ p hp => ?_⟩
      · subst e0
        cases h2
        exact q H _ (Same.refl _) (.tup g1 g2)
      · subst e0
        cases g2
        rw [List.append_nil] at q
        exact q H _ (Same.refl _) (.tup h1 h2)
      · obtain ⟨n1, n2⟩ := new_tup rs hp (h2.app g2)
        exact q _ _ n1 n2
    · cases hf
  · cases hf
theorem s_addL : BinS X K .Add gAddL := by
  refine ⟨_, fun _ => op_cat, fun ω ss σ H x y d e z Q rs bx by' hf q => ?_⟩
  unfold gAddL at hf
  split at hf
  · split at hf
    · rename_i ds es hz
      cases hf
      obtain ⟨a, xs, rfl, h1, h2⟩ := bor_lst bx
      obtain ⟨b, ys, rfl, g1, g2⟩ := bor_lst by'
      refine ⟨a, b, xs, ys, rfl, rfl, h1, g1, by rw [h2.length, g2.length]; exact hz, fun p hp => ?_⟩
      obtain ⟨n1, n2⟩ := new_lst rs hp (h2.app g2)
      exact q _ _ n1 n2
    · cases hf
  · cases hf
def gAdd : Dt → Dt → Option Dt := alt (gInt fun i j => some (i + j)) (alt gAddS (alt gAddT gAddL))
theorem s_add (C : VC X k P w K mg base W) : BinS X K .Add gAdd := (s_int0 fun _ => op_add).or (s_addS.or ((s_addT C).or s_addL))
def mBin (f : Dt → Dt → Option Dt) (m n : SS → EO Opd) : SS → EO Dt := fun ss => (m ss).bind fun o ss => (n ss).bind fun p ss => .lift (two f o p ss) ss
theorem v_bin {op : Operator} {f : Dt → Dt → Option Dt} {m n : SS → EO Opd} (hm : VB X K mg W a m) (hn : VB X K mg W b n) (hc : BinS X K op f) : VE X K mg W (.BinOp a op b pos) (mBin f m n) := by
  obtain ⟨r, a1, a2⟩ := hc.ex
  obtain ⟨t, h1, h2⟩ := hm.ex
  obtain ⟨u, g1, g2⟩ := hn.ex
  refine ⟨_, fun i => pe_op (a1 i) (h1 i) (g1 i), fun ω ss σ H Q rs q => h2 ω ss σ H _ rs ?_⟩
  refine seqE q fun o ss1 ω1 H1 x _ rs1 fr1 rp1 q1 => g2 ω1 ss1 σ H1 _ rs1 ?_
  refine seqE q1 fun p ss2 ω2 H2 y _ rs2 fr2 rp2 q2 => ?_
  obtain ⟨z, hz, q2⟩ := lift_get q2
  obtain ⟨d, e, e1, e2, e3⟩ := two_some hz
  exact a2 ω2 ss2 σ H2 x y d e z _ rs2 (Opd.bor rs2 (rp1.go fr2) e1) (Opd.bor rs2 rp2 e2) e3 fun H' v hs hv => q2 ω2 H' v (rs2.grow hs) (.grow hs rs2.own) hv
/-- a new list of one's own -/
theorem o_addL {m n : SS → EO Opd} (hm : VB X K mg W a m) (hn : VB X K mg W b n) : VO X K mg W (.BinOp a .Add b pos) (mBin gAddL m n) := by
  obtain ⟨t, h1, h2⟩ := hm.ex
  obtain ⟨u, g1, g2⟩ := hn.ex
  refine ⟨_, fun i => pe_op op_cat (h1 i) (g1 i), fun k ω ss σ H Q hk rs q => h2 ω ss σ H _ rs ?_⟩
  refine seqE (R2 := NewR K H k) q fun o ss1 ω1 H1 x _ rs1 fr1 rp1 q1 => g2 ω1 ss1 σ H1 _ rs1 ?_
  refine seqE (R2 := NewR K H k) q1 fun p ss2 ω2 H2 y _ rs2 fr2 rp2 q2 => ?_
  obtain ⟨z, hz, q2⟩ := lift_get q2
  obtain ⟨d, e, e1, e2, hf⟩ := two_some hz
  have bx := Opd.bor rs2 (rp1.go fr2) e1
  have by' := Opd.bor rs2 rp2 e2
  unfold gAddL at hf
  split at hf
  · split at hf
    · rename_i ds es hzz
      cases hf
      obtain ⟨a, xs, rfl, h1, h2⟩ := bor_lst bx
      obtain ⟨b, ys, rfl, g1, g2⟩ := bor_lst by'
      refine ⟨a, b, xs, ys, rfl, rfl, h1, g1, by rw [h2.length, g2.length]; exact hzz, fun p hp => ?_⟩
      obtain ⟨ω3, w1, rs3, fr3, hs3⟩ := rs2.new (o := .lst (xs ++ ys)) hk hp
      exact q2 ω3 _ _ rs3 fr3 ⟨p, rfl, (fr1.trans fr2).tr p hp, w1, .inl ⟨_, _, rfl, upd_same, RpA.mono hs3 _ _ (h2.app g2)⟩⟩
    · cases hf
  · cases hf
def mNeg (m : SS → EO Dt) : SS → EO Dt := fun ss => (m ss).bind fun d ss => match d with
  | .int i => .ok (.int (-i)) ss
  | _ => .no
theorem v_neg {m : SS → EO Dt} (h : VE X K mg W a m) : VE X K mg W (.UnaryOp .USub a pos) (mNeg m) := by
  obtain ⟨t, h1, h2⟩ := h.ex
  refine ⟨_, fun i => pe_un un_neg (h1 i), fun ω ss σ H Q rs q => h2 ω ss σ H _ rs ?_⟩
  refine seqE q fun d ss1 ω1 H1 x _ rs1 fr1 rp1 q1 => ?_
  cases rp1 with
  | int z => exact ⟨z, rfl, q1 ω1 H1 _ rs1 (.refl _ _) (.int _)⟩
  | _ => exact q1.elim
end
end VL

namespace VL
open PySem PySem.Spec L2
open PyProof.Rows hiding St

/-- a value of either kind -/
inductive NV where
  | fz (d : Dt)
  | ow (d : Dt)
def NV.sv : NV → SV
  | .fz d => .v d
  | .ow d => .o d
def NvR (K : PySem.W.Frag) (H0 : Hp) (k : Nat) : Om → Hp → V → NV → Prop := fun ω H x n => match n with
  | .fz d => Rp K (hid ω H) x d
  | .ow d => NewR K H0 k ω H x d
structure VN {ι : Type} (X : ι → Cx) (K : PySem.W.Frag) (mg : Str → Option Value) (W : WX) (e : Expr) (m : SS → EO NV) : Prop where
  ex : ∃ t : TE, (∀ i, PE (X i) e t) ∧ ∀ k ω ss σ H Q, 1000 ≤ k → RS K ω ss σ H → EQg (NvR K H k) K mg W ω σ H (m ss) Q → t σ H Q

section
variable {ι : Type} {X : ι → Cx} {k : Nat} {P : Program} {w : World} {K : PySem.W.Frag} {mg : Str → Option Value} {base : Heap} {W : WX} {e a b c : Expr} {es : List Expr} {pos : Pos}

def mFz (m : SS → EO Dt) : SS → EO NV := fun ss => (m ss).bind fun d ss => .ok (.fz d) ss
def mOw (m : SS → EO Dt) : SS → EO NV := fun ss => (m ss).bind fun d ss => .ok (.ow d) ss
theorem n_v {m : SS → EO Dt} (h : VE X K mg W e m) : VN X K mg W e (mFz m) := by
  obtain ⟨t, h1, h2⟩ := h.ex
  refine ⟨t, h1, fun k ω ss σ H Q hk rs q => h2 ω ss σ H Q rs ?_⟩
  exact seqE q fun d ss' ω' H' x _ rs' fr rp q' => q' ω' H' x rs' (.refl _ _) rp
theorem n_o {m : SS → EO Dt} (h : VO X K mg W e m) : VN X K mg W e (mOw m) := by
  obtain ⟨t, h1, h2⟩ := h.ex
  refine ⟨t, h1, fun k ω ss σ H Q hk rs q => h2 k ω ss σ H Q hk rs ?_⟩
  exact seqE q fun d ss' ω' H' x _ rs' fr rp q' => q' ω' H' x rs' (.refl _ _) rp
theorem NvR.go {H0 : Hp} {k : Nat} {ω ω' : Om} {H H' : Hp} {x : V} {n : NV} (hk : 1000 ≤ k) (h : NvR K H0 k ω H x n) (f : Frm ω H ω' H') : NvR K H0 k ω' H' x n := by
  cases n with
  | fz d => exact Rp.mono f.fz _ _ h
  | ow d =>
    obtain ⟨a, h1, h2, h3, h4⟩ := h
    obtain ⟨g1, g2⟩ := f.tp a k hk h3
    exact ⟨a, h1, h2, g1, by rw [g2]; exact h4.mono f.fz⟩
/-- a value is stored in the i-th slot -/
theorem store_nv {H0 : Hp} {k i : Nat} {ω0 ω : Om} {ss : SS} {σ : St} {H : Hp} {x : V} {n : NV} (rs : RS K ω ss σ H) (fr : Frm ω0 H0 ω H) (z0 : ∀ a, H0 a = none → ω0 a = none) (hk : 1000 ≤ k) (hi : i < σ.length) (h : NvR K H0 k ω H x n) :
    ∃ ω', RS K ω' (ss.set i (some n.sv)) (σ.set i (some x)) H ∧ Frm ω0 H0 ω' H ∧ Same (hid ω H) (hid ω' H) ∧ ∀ b k', 1000 ≤ k' → k' ≠ k → ω b = some k' → ω' b = some k' := by
  have hi2 := rs.few
  cases n with
  | fz d =>
    refine ⟨drop ω i, rs.put hi hid_drop (fun a j ha => ?_) (fun j a hj _ ha => drop_ne ha hj) (Rp.mono hid_drop _ _ h), fr.trans (.drop (by omega)), hid_drop, fun b k' h1 _ h3 => drop_ne h3 (by omega)⟩
    unfold drop at ha
    split at ha
    · cases ha
    · exact rs.own a j ha
  | ow d =>
    obtain ⟨a, rfl, h2, h3, h4⟩ := h
    obtain ⟨ω', ew⟩ : ∃ ω' : Om, ω' = fun b => if b = a then some i else drop ω i b := ⟨_, rfl⟩
    have ea : ω' a = some i := by rw [ew]; exact if_pos rfl
    have en : ∀ b, b ≠ a → ω' b = drop ω i b := fun b hb => by rw [ew]; exact if_neg hb
    have hs : Same (hid ω H) (hid ω' H) := fun b o hb => by
      obtain ⟨q1, q2⟩ := hid_some hb
      have hba : b ≠ a := fun e => by rw [e, h3] at q1; cases q1
      rw [hid_of ((en b hba).trans (drop_none q1))]
      exact q2
    have kp : ∀ b k', k' ≠ k → k' ≠ i → ω b = some k' → ω' b = some k' := fun b k' n1 n2 hb => by
      have hba : b ≠ a := fun e => by rw [e, h3] at hb; exact n1 (Option.some.inj hb).symm
      exact (en b hba).trans (drop_ne hb n2)
    refine ⟨ω', rs.put hi hs (fun b j hb => ?_) (fun j b hj hjl hb => ?_) ⟨a, rfl, ea, h4.mono hs⟩, ⟨fr.fz.trans hs, fun b j hj hb => ?_, fr.tr⟩, hs, fun b k' h1 n1 hb => kp b k' n1 (by omega) hb⟩
    · by_cases hba : b = a
      · rw [hba]; exact rs.own a k h3
      · rw [en b hba] at hb
        unfold drop at hb
        split at hb
        · cases hb
        · exact rs.own b j hb
    · exact kp b j (by omega) hj hb
    · obtain ⟨g1, g2⟩ := fr.tp b j hj hb
      refine ⟨?_, g2⟩
      have hba : b ≠ a := fun e => by rw [e, z0 a h2] at hb; cases hb
      exact (en b hba).trans (drop_ne g1 (by omega))

def mSeq (m n : SS → SO) : SS → SO := fun ss => match m ss with
  | .nx ss' => n ss'
  | o => o
theorem ss_nil : VSs X K mg W [] .nx := ⟨_, fun _ => pss_nil, fun ω ss σ H D rs q => q ω σ H rs (.refl _ _)⟩
theorem ss_one {st : Stmt} {m : SS → SO} (h : VS X K mg W st m) : VSs X K mg W [st] m := let ⟨t, h1, h2⟩ := h.ex; ⟨t, fun i => pss_one (h1 i), h2⟩
theorem ss_cons {st : Stmt} {r : List Stmt} {m n : SS → SO} (h : VS X K mg W st m) (g : VSs X K mg W r n) : VSs X K mg W (st :: r) (mSeq m n) := by
  obtain ⟨t, h1, h2⟩ := h.ex
  obtain ⟨u, g1, g2⟩ := g.ex
  refine ⟨tSeq t u, fun i => pss_cons (h1 i) (g1 i), fun ω ss σ H D rs q => h2 ω ss σ H _ rs ?_⟩
  unfold mSeq at q
  cases hm : m ss with
  | nx ss' =>
    rw [hm] at q
    exact fun ω' σ' H' rs' fr => g2 ω' ss' σ' H' D rs' (SQ.shift q fr)
  | rt d ss' => rw [hm] at q; exact q
  | bk ss' => rw [hm] at q; exact q
  | ct ss' => rw [hm] at q; exact q
  | exc c fs ss' => rw [hm] at q; exact q
  | no => rw [hm] at q; exact q
def mRet (m : SS → EO Dt) : SS → SO := fun ss => (m ss).st fun d ss => .rt d ss
theorem s_ret {m : SS → EO Dt} (h : VE X K mg W e m) : VS X K mg W (.Return (some e) pos) (mRet m) := by
  obtain ⟨t, h1, h2⟩ := h.ex
  refine ⟨_, fun i => ps_ret (h1 i), fun ω ss σ H D rs q => h2 ω ss σ H _ rs ?_⟩
  exact seqS q fun d ss1 ω1 H1 x _ rs1 fr1 rp1 q1 => q1 ω1 σ H1 x rs1 (.refl _ _) rp1
theorem s_retN : VS X K mg W (.Return none pos) (fun ss => .rt .none ss) := ⟨_, fun _ => ps_retN, fun ω ss σ H D rs q => q ω σ H _ rs (.refl _ _) .non⟩
theorem s_pass : VS X K mg W (.Pass pos) .nx := ⟨_, fun _ => ps_pass, fun ω ss σ H D rs q => q ω σ H rs (.refl _ _)⟩
theorem s_break : VS X K mg W (.Break pos) .bk := ⟨_, fun _ => ps_break, fun ω ss σ H D rs q => q ω σ H rs (.refl _ _)⟩
theorem s_cont : VS X K mg W (.Continue pos) .ct := ⟨_, fun _ => ps_continue, fun ω ss σ H D rs q => q ω σ H rs (.refl _ _)⟩
def mIfS (c : SS → EO Bool) (m n : SS → SO) : SS → SO := fun ss => (c ss).st fun d ss => if d = true then m ss else n ss
theorem s_if {as bs : List Stmt} {t : SS → EO Bool} {m n : SS → SO} (hc : VT X K mg W c t) (h : VSs X K mg W as m) (g : VSs X K mg W bs n) : VS X K mg W (.If c as bs pos) (mIfS t m n) := by
  obtain ⟨tc, c1, c2⟩ := hc.ex
  obtain ⟨t, h1, h2⟩ := h.ex
  obtain ⟨u, g1, g2⟩ := g.ex
  refine ⟨_, fun i => ps_if (c1 i) (h1 i) (g1 i), fun ω ss σ H D rs q => c2 ω ss σ H _ rs ?_⟩
  refine seqS q fun d ss1 ω1 H1 x _ rs1 fr1 rp1 q1 => ?_
  cases rp1
  cases d with
  | true => exact h2 ω1 ss1 σ H1 _ rs1 q1
  | false => exact g2 ω1 ss1 σ H1 _ rs1 q1
def mDrop {α : Type} (m : SS → EO α) : SS → SO := fun ss => (m ss).st fun _ ss => .nx ss
theorem s_expr {m : SS → EO Dt} (h : VE X K mg W e m) (hs : ∀ i, swapsWith e none pos.line (X i).env = pure false := by intro _; rfl) : VS X K mg W (.Expr e pos) (mDrop m) := by
  obtain ⟨t, h1, h2⟩ := h.ex
  refine ⟨_, fun i => ps_expr (h1 i) (hs i), fun ω ss σ H D rs q => h2 ω ss σ H _ rs ?_⟩
  exact seqS q fun d ss1 ω1 H1 x _ rs1 fr1 rp1 q1 => q1 ω1 σ H1 rs1 (.refl _ _)

def mSet (i : Nat) (m : SS → EO NV) : SS → SO := fun ss => (m ss).st fun n ss => if i < ss.length then .nx (ss.set i (some n.sv)) else .no
theorem s_set (C : VC X k P w K mg base W) (i : Nat) {x : Str} {p' : Pos} {m : SS → EO NV} (h : VN X K mg W e m) (hi : ∀ j, (X j).N[i]? = some x) (hx : ∀ j, Loc (X j).env.scope x)
    (hs : ∀ j, swapsWith e (some (.Name x p')) pos.line (X j).env = pure false := by intro _; rfl) (hf : ∀ j, (X j).fn x = true ∨ (X j).env.scope.names.lookup x = some .local := by intro _; first | exact .inl rfl | exact .inr rfl) :
    VS X K mg W (.Assign [.Name x p'] e pos) (mSet i m) := by
  obtain ⟨t, h1, h2⟩ := h.ex
  refine ⟨_, fun j => ps_set (C.nd j) (hi j) (hx j) (h1 j) (hs j) (hf j), fun ω ss σ H D rs q => h2 1000 ω ss σ H _ (Nat.le_refl _) rs ?_⟩
  refine seqS0 q fun n ss1 ω1 H1 y _ rs1 fr1 rp1 q1 => ?_
  split at q1
  · rename_i hlt
    obtain ⟨ω2, rs2, fr2, hs2, _⟩ := store_nv rs1 fr1 (fun a ha => rs.free ha) (Nat.le_refl 1000) (by rw [← rs1.len]; exact hlt) rp1
    exact q1 ω2 _ H1 rs2 fr2
  · exact q1.elim
/-- a, b = x, y -/
def mPar (i j : Nat) (m n : SS → EO NV) : SS → SO := fun ss => (m ss).st fun d ss => (n ss).st fun e ss => if i < ss.length ∧ j < ss.length then .nx ((ss.set i (some d.sv)).set j (some e.sv)) else .no
theorem s_par (C : VC X k P w K mg base W) (i j : Nat) {x y : Str} {px py pt : Pos} {kt k2 : Nat} {pt2 : Pos} {m n : SS → EO NV} (h : VN X K mg W a m) (g : VN X K mg W b n) (hi : ∀ l, (X l).N[i]? = some x) (hj : ∀ l, (X l).N[j]? = some y) (hij : i ≠ j)
    (hx : ∀ l, (X l).env.scope.names.lookup x = some .local) (hy : ∀ l, (X l).env.scope.names.lookup y = some .local)
    (hw : ∀ l, swappedStores [.Tuple [.Name x px, .Name y py] kt pt] (.Tuple [a, b] k2 pt2) (X l).env = pure (some [x, y]) := by intro _; rfl)
    (hs : ∀ l, swapsWithSole [.Tuple [.Name x px, .Name y py] kt pt] (.Tuple [a, b] k2 pt2) pos.line (X l).env = pure false := by intro _; rfl)
    (st1 : ∀ l, starEach [a, b] (X l).env = (false, eval a (X l).env) :: starEach [b] (X l).env := by intro _; rfl) (st2 : ∀ l, starEach [b] (X l).env = (false, eval b (X l).env) :: starEach [] (X l).env := by intro _; rfl) :
    VS X K mg W (.Assign [.Tuple [.Name x px, .Name y py] kt pt] (.Tuple [a, b] k2 pt2) pos) (mPar i j m n) := by
  obtain ⟨t, h1, h2⟩ := h.ex
  obtain ⟨u, g1, g2⟩ := g.ex
  refine ⟨_, fun l => ps_par (C.ca l) (C.nd l) (hi l) (hj l) hij (hx l) (hy l) (pa_cons (h1 l) (pa_cons (g1 l) pa_nil (st2 l)) (st1 l)) (hw l) (hs l), fun ω ss σ H D rs q => ?_⟩
  refine h2 1000 ω ss σ H _ (Nat.le_refl _) rs (seqS0 q fun d ss1 ω1 H1 x1 e1 rs1 fr1 rp1 q1 => ?_)
  refine g2 1001 ω1 ss1 σ H1 _ (by decide) rs1 ?_
  cases hn : n ss1 with
  | no => rw [hn] at q1; exact q1
  | exc c fs ss2 => rw [hn] at q1; exact fun ω' H' cls dd rs' f xr => q1 ω' σ H' cls dd rs' (fr1.trans f) xr
  | ok e ss2 =>
    rw [hn] at q1
    intro ω2 H2 y1 rs2 fr2 rp2
    have q1 : SQ K mg W D ω H (if i < ss2.length ∧ j < ss2.length then .nx ((ss2.set i (some d.sv)).set j (some e.sv)) else .no) := q1
    split at q1
    · rename_i hlt
      have z0 : ∀ a, H a = none → ω a = none := fun a ha => rs.free ha
      obtain ⟨ω3, rs3, fr3, hs3, kp3⟩ := store_nv rs2 (fr1.trans fr2) z0 (Nat.le_refl 1000) (by rw [← rs2.len]; exact hlt.1) (rp1.go (Nat.le_refl _) fr2)
      have rp3 : NvR K H 1001 ω3 H2 y1 e := by
        cases e with
        | fz d' => exact Rp.mono hs3 _ _ rp2
        | ow d' =>
          obtain ⟨p, w1, w2, w3, w4⟩ := rp2
          exact ⟨p, w1, fr1.tr p w2, kp3 p 1001 (by decide) (by decide) w3, w4.mono hs3⟩
      obtain ⟨ω4, rs4, fr4, _, _⟩ := store_nv (i := j) rs3 fr3 z0 (show 1000 ≤ 1001 by decide) (by rw [List.length_set, ← rs2.len]; exact hlt.2) rp3
      exact ⟨x1, y1, rfl, q1 ω4 _ H2 rs4 fr4⟩
    · exact q1.elim
theorem RS.mut {ω : Om} {ss : SS} {σ : St} {H : Hp} {i : Nat} {a : Addr} {o : HO} {s : SV} {x : V} (rs : RS K ω ss σ H) (ha : ω a = some i) (hx : σ[i]? = some (some x)) (h : SlR K ω (upd H a o) i s x) :
    RS K ω (ss.set i (some s)) σ (upd H a o) ∧ Frm ω H ω (upd H a o) ∧ hid ω (upd H a o) = hid ω H := by
  have hi : i < σ.length := (List.getElem?_eq_some_iff.mp hx).1
  have hf := rs.few
  have e : hid ω (upd H a o) = hid ω H := by
    funext b
    by_cases hb : b = a
    · subst hb
      unfold hid
      rw [ha]
    · unfold hid
      rw [upd_ne hb]
  have ne : ∀ b j, j ≠ i → ω b = some j → b ≠ a := fun b j hj hb z => by rw [z, ha] at hb; exact hj (Option.some.inj hb).symm
  refine ⟨⟨by rw [List.length_set]; exact rs.len, rs.few, fun b j hb => ?_, fun j s' hj => ?_⟩, ⟨by rw [e]; exact Same.refl _, fun b j hj hb => ⟨hb, upd_ne (ne b j (by omega) hb)⟩, fun b hb => ?_⟩, e⟩
  · by_cases hba : b = a
    · rw [hba, upd_same]; rfl
    · rw [upd_ne hba]; exact rs.own b j hb
  · by_cases hji : j = i
    · subst hji
      rw [List.getElem?_set_self (by rw [rs.len]; exact hi)] at hj
      cases hj
      exact ⟨x, hx, h⟩
    · rw [List.getElem?_set_ne (Ne.symm hji)] at hj
      obtain ⟨y, q1, q2⟩ := rs.sl j s' hj
      exact ⟨y, q1, q2.keep (by rw [e]; exact Same.refl _) fun b hb => ⟨hb, upd_ne (ne b j hji hb)⟩⟩
  · by_cases hba : b = a
    · rw [hba, upd_same] at hb; cases hb
    · rw [upd_ne hba] at hb; exact hb
def ownL (ss : SS) (i : Nat) : Option (List Dt) := match ss[i]? with
  | some (some (.o (.list ds))) => some ds
  | _ => none
theorem ownL_at {ss : SS} {i : Nat} {ds : List Dt} (h : ownL ss i = some ds) : ss[i]? = some (some (.o (.list ds))) := by
  unfold ownL at h
  split at h
  · cases h; assumption
  · cases h
theorem RS.ownL {ω : Om} {ss : SS} {σ : St} {H : Hp} {i : Nat} {ds : List Dt} (rs : RS K ω ss σ H) (h : ownL ss i = some ds) : ∃ a xs, σ[i]? = some (some (.ref a)) ∧ ω a = some i ∧ H a = some (.lst xs) ∧ RpA K (hid ω H) xs ds := by
  obtain ⟨x, q1, a, rfl, q2, q3⟩ := rs.sl i _ (ownL_at h)
  rcases q3 with ⟨ds', xs, e, h2, h3⟩ | ⟨ds', xs, e, _⟩
  · cases e
    exact ⟨a, xs, q1, q2, h2, h3⟩
  · cases e
def mAppend (i : Nat) (m : SS → EO Dt) : SS → SO := fun ss => match ownL ss i with
  | some _ => (m ss).st fun d ss => match ownL ss i with
    | some ds => if ds.length < sizeLine then .nx (ss.set i (some (.o (.list (ds ++ [d]))))) else .no
    | none => .no
  | none => .no
theorem s_append (i : Nat) {x : Str} {p1 p2 p3 : Pos} {m : SS → EO Dt} (h : VE X K mg W e m) (eK : ∀ j, (X j).K = K) (hN : ∀ j, (X j).N[i]? = some x) (hv : ∀ j, Vis (X j).env.scope x) (hd : (x == ("__debug__" : Str)) = false := by decide) (hcd : (x == ("__classdict__" : Str)) = false := by decide)
    (hb : ∀ j, attributeBase (.Name x p1) "append" (X j).env (eval (.Name x p1) (X j).env) = eval (.Name x p1) (X j).env := by intro _; rfl)
    (hf : ∀ j, ((backTo p3 (starEach (e :: []) (X j).env)).all (fun x => !x.1) && (backToKw p3 (keywordEach [] (X j).env)).all (fun x => x.1.isSome) && decide ((e :: []).length + ([] : List Keyword).length + (if ([] : List Keyword).isEmpty then 0 else 1) < 30)) = true := by intro _; rfl)
    (hl : (p2.endLine == p3.line) = true := by rfl) (hst : ∀ j, starEach (e :: []) (X j).env = (false, eval e (X j).env) :: starEach [] (X j).env := by intro _; rfl) (hpl : ∀ j, (backTo p3 (starEach [] (X j).env)).any (·.1) = false := by intro _; rfl)
    (hsw : ∀ j, swapsWith (.Call (.Attribute (.Name x p1) "append" p2) [e] [] p3) none pos.line (X j).env = pure false := by intro _; rfl) :
    VS X K mg W (.Expr (.Call (.Attribute (.Name x p1) "append" p2) [e] [] p3) pos) (mAppend i m) := by
  obtain ⟨t, h1, h2⟩ := h.ex
  refine ⟨tDrop (tBM K "list" rAppend (tVar i) (tCons t tNil)), fun j => ps_expr (by
    rw [← eK j]
    exact pe_bm PySem.F.plainAttrs_list PySem.F.slot_list_append PySem.F.type_list_append (show MtR (X j) "list.append" rAppend from mt_append) (pe_var (hN j) (hv j) hd hcd) (pa_cons (h1 j) pa_nil (hst j)) (hb j) (hf j) hl (hst j) (hpl j)) (hsw j), fun ω ss σ H D rs q => ?_⟩
  unfold mAppend at q
  cases ho : ownL ss i with
  | none => rw [ho] at q; exact q.elim
  | some ds0 =>
    rw [ho] at q
    obtain ⟨a, xs, w1, w2, w3, w4⟩ := rs.ownL ho
    refine ⟨_, w1, .inl ⟨rfl, _, .of w3⟩, h2 ω ss σ H _ rs (seqS q fun d ss1 ω1 H1 y _ rs1 fr1 rp1 q1 => ?_)⟩
    cases ho1 : ownL ss1 i with
    | none => rw [ho1] at q1; exact q1.elim
    | some ds =>
      rw [ho1] at q1
      dsimp only at q1
      obtain ⟨a1, ys, v1, v2, v3, v4⟩ := rs1.ownL ho1
      have ea : a1 = a := by
        rw [w1] at v1
        cases v1
        rfl
      subst ea
      split at q1
      · rename_i hlt
        have em : hid ω1 (upd H1 a1 (.lst (ys ++ [y]))) = hid ω1 H1 := by
          funext b
          by_cases hb : b = a1
          · subst hb
            unfold hid
            rw [v2]
          · unfold hid
            rw [upd_ne hb]
        obtain ⟨m1, m2, m3⟩ := rs1.mut (o := .lst (ys ++ [y])) (s := .o (.list (ds ++ [d]))) v2 v1 ⟨a1, rfl, v2, .inl ⟨_, _, rfl, upd_same, by rw [em]; exact v4.app (.one rp1)⟩⟩
        exact ⟨a1, ys, y, rfl, rfl, v3, by rw [v4.length]; exact hlt, q1 ω1 σ _ m1 m2⟩
      · exact q1.elim
end
end VL

namespace VL
open PySem PySem.Spec L2
open PyProof.Rows hiding St
open RZ

def Off (gi : List Nat) (σ σ' : St) : Prop := σ'.length = σ.length ∧ ∀ j : Nat, j ∉ gi → σ'[j]? = σ[j]?
structure VG {ι : Type} (X : ι → Cx) (K : PySem.W.Frag) (tg : Expr) (gi : List Nat) (g : Dt → SS → Option SS) : Prop where
  ex : ∃ t : TG, (∀ i, PG (X i) tg t) ∧ ∀ ω ss σ H x d ss' (Q : St → Hp → Prop), RS K ω ss σ H → Rp K (hid ω H) x d → g d ss = some ss' → (∀ ω' σ', RS K ω' ss' σ' H → Frm ω H ω' H → Off gi σ σ' → Q σ' H) → t x σ H Q
structure VGs {ι : Type} (X : ι → Cx) (K : PySem.W.Frag) (tgs : List Expr) (gi : List Nat) (g : List Dt → SS → Option SS) : Prop where
  ex : ∃ t : TGs, (∀ i, PGs (X i) tgs t) ∧ ∀ ω ss σ H xs ds ss' (Q : St → Hp → Prop), RS K ω ss σ H → RpA K (hid ω H) xs ds → g ds ss = some ss' → (∀ ω' σ', RS K ω' ss' σ' H → Frm ω H ω' H → Off gi σ σ' → Q σ' H) → t xs σ H Q
def gNm (i : Nat) : Dt → SS → Option SS := fun d ss => if i < ss.length then some (ss.set i (some (.v d))) else none
def gNilV : List Dt → SS → Option SS := fun ds ss => match ds with
  | [] => some ss
  | _ :: _ => none
def gConsV (g : Dt → SS → Option SS) (h : List Dt → SS → Option SS) : List Dt → SS → Option SS := fun ds ss => match ds with
  | [] => none
  | d :: ds => match g d ss with
    | some ss' => h ds ss'
    | none => none
def gTupV (n : Nat) (h : List Dt → SS → Option SS) : Dt → SS → Option SS := fun d ss => match d with
  | .tuple ds => if ds.length = n then h ds ss else none
  | _ => none
section
variable {ι : Type} {X : ι → Cx} {k : Nat} {P : Program} {w : World} {K : PySem.W.Frag} {mg : Str → Option Value} {base : Heap} {W : WX} {e a b c : Expr} {es : List Expr} {pos : Pos}
theorem g_nm (i : Nat) {x : Str} {p : Pos} (nd : ∀ j, (X j).N.Nodup) (hi : ∀ j, (X j).N[i]? = some x) (hx : ∀ j, Loc (X j).env.scope x) (hf : ∀ j, (X j).fn x = true ∨ (X j).env.scope.names.lookup x = some .local := by intro _; first | exact .inl rfl | exact .inr rfl) : VG X K (.Name x p) [i] (gNm i) := by
  refine ⟨_, fun j => pg_name (nd j) (hi j) (hx j) (hf j), fun ω ss σ H x d ss' Q rs rp hg q => ?_⟩
  unfold gNm at hg
  split at hg
  · rename_i hlt
    cases hg
    have hl : i < σ.length := by rw [← rs.len]; exact hlt
    have h2 := rs.few
    refine q (drop ω i) _ (rs.put hl hid_drop (fun b j hb => ?_) (fun j b hj _ hb => drop_ne hb hj) (Rp.mono hid_drop _ _ rp)) (.drop (by omega)) ⟨by simp, fun j hj => ?_⟩
    · unfold drop at hb
      split at hb
      · cases hb
      · exact rs.own b j hb
    · rw [List.getElem?_set_ne (fun z => hj (by simp [z]))]
  · cases hg
theorem gs_nil : VGs X K [] [] gNilV := by
  refine ⟨_, fun _ => pgs_nil, fun ω ss σ H xs ds ss' Q rs rp hg q => ?_⟩
  unfold gNilV at hg
  split at hg
  · cases hg
    cases rp
    exact ⟨rfl, q ω σ rs (.refl _ _) ⟨rfl, fun _ _ => rfl⟩⟩
  · cases hg
theorem gs_cons {tg : Expr} {tgs : List Expr} {gi gj : List Nat} {g : Dt → SS → Option SS} {h : List Dt → SS → Option SS} (h1 : VG X K tg gi g) (h2 : VGs X K tgs gj h)
    (hs : ∀ i, (assignEach (tg :: tgs) (X i).env).map (·.2) = assign tg (X i).env :: (assignEach tgs (X i).env).map (·.2) := by intro _; rfl) : VGs X K (tg :: tgs) (gi ++ gj) (gConsV g h) := by
  obtain ⟨t, a1, a2⟩ := h1.ex
  obtain ⟨u, b1, b2⟩ := h2.ex
  refine ⟨_, fun i => pgs_cons (a1 i) (b1 i) (hs i), fun ω ss σ H xs ds ss' Q rs rp hg q => ?_⟩
  unfold gConsV at hg
  split at hg
  · cases hg
  · rename_i d ds
    split at hg
    · rename_i ss1 hg1
      cases rp with
      | cons r1 r2 =>
        refine ⟨_, _, rfl, a2 ω ss σ H _ d ss1 _ rs r1 hg1 fun ω1 σ1 rs1 fr1 o1 => b2 ω1 ss1 σ1 H _ ds ss' Q rs1 (RpA.mono fr1.fz _ _ r2) hg fun ω2 σ2 rs2 fr2 o2 => q ω2 σ2 rs2 (fr1.trans fr2) ⟨o2.1.trans o1.1, fun j hj => ?_⟩⟩
        rw [List.mem_append, not_or] at hj
        exact (o2.2 j hj.2).trans (o1.2 j hj.1)
    · cases hg
theorem g_tup (C : VC X k P w K mg base W) {tgs : List Expr} {gi : List Nat} {h : List Dt → SS → Option SS} {z n : Nat} (h2 : VGs X K tgs gi h) (hn : ∀ i, (assignEach tgs (X i).env).length = n := by intro _; rfl) (hst : ∀ i, (assignEach tgs (X i).env).findIdx? (·.1) = none := by intro _; rfl) :
    VG X K (.Tuple tgs z pos) gi (gTupV n h) := by
  obtain ⟨u, b1, b2⟩ := h2.ex
  refine ⟨gTup K n u, fun i => by rw [← C.eK i]; exact pg_tup (C.ca i) (b1 i) (hn i) (hst i), fun ω ss σ H x d ss' Q rs rp hg q => ?_⟩
  unfold gTupV at hg
  split at hg
  · rename_i ds
    split at hg
    · rename_i hl
      cases rp with
      | tup r1 r2 => exact ⟨_, _, rfl, sqT_mono hid_le r1, by rw [r2.length]; exact hl, b2 ω ss σ H _ ds ss' Q rs r2 hg q⟩
    · cases hg
  · cases hg
/-- a target takes what an expression gives -/
def mAsg (g : Dt → SS → Option SS) (m : SS → EO Dt) : SS → SO := fun ss => (m ss).st fun d ss => match g d ss with
  | some ss' => .nx ss'
  | none => .no
theorem s_asg {tg : Expr} {gi : List Nat} {g : Dt → SS → Option SS} {m : SS → EO Dt} (hg : VG X K tg gi g) (h : VE X K mg W e m) (hs : ∀ i, swapsWithSole [tg] e pos.line (X i).env = pure false := by intro _; rfl) (hw : ∀ i, swappedStores [tg] e (X i).env = pure none := by intro _; rfl)
    (h1 : ∀ i, (assignEach [tg] (X i).env).map (·.2) = [assign tg (X i).env] := by intro _; rfl) : VS X K mg W (.Assign [tg] e pos) (mAsg g m) := by
  obtain ⟨t, a1, a2⟩ := h.ex
  obtain ⟨u, b1, b2⟩ := hg.ex
  refine ⟨_, fun i => ps_asg (a1 i) (b1 i) (hs i) (hw i) (h1 i), fun ω ss σ H D rs q => a2 ω ss σ H _ rs ?_⟩
  refine seqS q fun d ss1 ω1 H1 x _ rs1 fr1 rp1 q1 => ?_
  split at q1
  · rename_i ss2 hg2
    exact b2 ω1 ss1 σ H1 x d ss2 _ rs1 rp1 hg2 fun ω2 σ2 rs2 fr2 _ => q1 ω2 σ2 H1 rs2 fr2
  · exact q1.elim

def WalkJ (K : PySem.W.Frag) (F : Hp) (items : List Dt) (J : It) : Prop := ∀ (H : Hp) (i : Nat), Same F H →
  (∀ d, items[i]? = some d → J.go i H ∧ ∀ x H', J.yld i H x H' → Same H H' ∧ ∀ F', Same F F' → (∀ a o, H' a = some o → H a = none → F' a = some o) → Rp K F' x d) ∧ (i = items.length → J.stop i H)
structure VI {ι : Type} (X : ι → Cx) (K : PySem.W.Frag) (mg : Str → Option Value) (W : WX) (tg it : Expr) (m : SS → EO (List Dt)) : Prop where
  ex : ∃ wi : TI, (∀ i, PI (X i) tg it wi) ∧ ∀ ω ss σ H R, RS K ω ss σ H → EQg (fun ω' H' (J : It) items => WalkJ K (hid ω' H') items J) K mg W ω σ H (m ss) R → wi σ H R
def signs (z : Str) : List Dt := z.cps.toList.map fun c => .str ⟨#[c]⟩
def itemsD : Dt → Option (List Dt)
  | .list ds => some ds
  | .tuple ds => some ds
  | .str z => some (signs z)
  | _ => none
/-- a list, a tuple, a text -/
def iSq (K : PySem.W.Frag) (te : TE) : TI := fun σ H R => te σ H fun x H1 => (∃ a xs, x = .ref a ∧ SqL K H1 a xs ∧ R (Itl K a) H1) ∨ (∃ a xs, x = .ref a ∧ SqT K H1 a xs ∧ R (Itt K a) H1) ∨ ∃ z, x = .str z ∧ R (Its z) H1
theorem pi_sq {Y : Cx} {tg : Expr} {te : TE} (he : PE Y e te) : PI Y tg e (iSq Y.K te) := by
  refine ⟨fun pins s σ H R I h => thn (he.run pins s σ H _ I h) fun v s1 hv => ?_⟩
  obtain ⟨y, H1, I1, r1, h1⟩ := hv
  rcases h1 with ⟨a, xs, rfl, hq, q⟩ | ⟨a, xs, rfl, hq, q⟩ | ⟨z, rfl, q⟩
  · cases r1
    obtain ⟨its, _, p, _⟩ := I1.list hq
    exact wpAny_pyIter_list p.isList (pi_one (tk := s1.toks) I1 _ (turn_list a _) ⟨_, Heap.get?_push_size _ rfl, rfl, rfl⟩ q)
  · cases r1
    obtain ⟨its, _, p, _⟩ := I1.tuple hq
    exact wpAny_pyIter_tuple (show s1.heap.IsTuple a its.toArray from p) (pi_one (tk := s1.toks) I1 _ (turn_tuple a _) ⟨_, Heap.get?_push_size _ rfl, rfl, rfl⟩ q)
  · obtain ⟨t, rfl⟩ := r1
    cases ha : z.cps.all (· < 128)
    · exact wpAny_pyIter_wide ha (pi_one (tk := s1.toks) I1 _ (turn_str _ z t "str_iterator" (.inr rfl)) ⟨_, Heap.get?_push_size _ rfl, rfl, rfl⟩ q)
    · exact wpAny_pyIter_ascii ha (pi_one (tk := s1.toks) I1 _ (turn_str _ z t "str_ascii_iterator" (.inl rfl)) ⟨_, Heap.get?_push_size _ rfl, rfl, rfl⟩ q)
def mItems (m : SS → EO Dt) : SS → EO (List Dt) := fun ss => (m ss).bind fun d ss => .lift (itemsD d) ss
theorem walk_list {F : Hp} {a : Addr} {xs : List V} {ds : List Dt} (h : F a = some (.lst xs)) (r : RpA K F xs ds) : WalkJ K F ds (Itl K a) := fun H i hs => by
  have hq : SqL K H a xs := .of (hs _ _ h)
  refine ⟨fun d hd => ?_, fun e => ⟨xs, hq, by rw [r.length, e]; exact Nat.le_refl _⟩⟩
  obtain ⟨x, hx, rx⟩ := r.get hd
  refine ⟨⟨xs, x, hq, hx⟩, fun y H' hy => ?_⟩
  obtain ⟨rfl, hy⟩ := hy
  have ey : y = x := Option.some.inj ((hy xs hq).symm.trans hx)
  subst ey
  exact ⟨Same.refl _, fun F' hF _ => Rp.mono hF _ _ rx⟩
theorem walk_tup {F : Hp} {a : Addr} {xs : List V} {ds : List Dt} (h : SqT K F a xs) (r : RpA K F xs ds) : WalkJ K F ds (Itt K a) := fun H i hs => by
  have hq : SqT K H a xs := sqT_mono hs h
  refine ⟨fun d hd => ?_, fun e => ⟨xs, hq, by rw [r.length, e]; exact Nat.le_refl _⟩⟩
  obtain ⟨x, hx, rx⟩ := r.get hd
  refine ⟨⟨xs, x, hq, hx⟩, fun y H' hy => ?_⟩
  obtain ⟨rfl, hy⟩ := hy
  have ey : y = x := Option.some.inj ((hy xs hq).symm.trans hx)
  subst ey
  exact ⟨Same.refl _, fun F' hF _ => Rp.mono hF _ _ rx⟩
theorem walk_str {F : Hp} {z : Str} : WalkJ K F (signs z) (Its z) := fun H i hs => by
  refine ⟨fun d hd => ?_, fun e => ?_⟩
  · unfold signs at hd
    rw [List.getElem?_map] at hd
    obtain ⟨cc, h1, rfl⟩ := Option.map_eq_some_iff.mp hd
    have h2 : z.cps[i]? = some cc := by simpa using h1
    refine ⟨(Array.getElem?_eq_some_iff.mp h2).1, fun y H' hy => ?_⟩
    obtain ⟨rfl, c2, h3, rfl⟩ := hy
    rw [h2] at h3
    cases h3
    exact ⟨Same.refl _, fun F' _ _ => .str _⟩
  · subst e
    show z.cps.size ≤ (signs z).length
    unfold signs
    simp
theorem i_sq (C : VC X k P w K mg base W) {tg : Expr} {m : SS → EO Dt} (h : VE X K mg W e m) : VI X K mg W tg e (mItems m) := by
  obtain ⟨t, a1, a2⟩ := h.ex
  refine ⟨iSq K t, fun i => by rw [← C.eK i]; exact pi_sq (a1 i), fun ω ss σ H R rs q => a2 ω ss σ H _ rs ?_⟩
  refine seqE (R2 := fun ω' H' (J : It) items => WalkJ K (hid ω' H') items J) q fun d ss1 ω1 H1 x _ rs1 fr1 rp1 q1 => ?_
  obtain ⟨items, hi, q1⟩ := lift_get q1
  cases rp1 with
  | lst r1 r2 =>
    cases hi
    exact .inl ⟨_, _, rfl, .of (hid_le _ _ r1), q1 ω1 H1 _ rs1 (.refl _ _) (walk_list r1 r2)⟩
  | tup r1 r2 =>
    cases hi
    exact .inr (.inl ⟨_, _, rfl, sqT_mono hid_le r1, q1 ω1 H1 _ rs1 (.refl _ _) (walk_tup r1 r2)⟩)
  | str z =>
    cases hi
    exact .inr (.inr ⟨z, rfl, q1 ω1 H1 _ rs1 (.refl _ _) walk_str⟩)
  | _ => cases hi
def rangeD (lo : Int) (n : Nat) : List Dt := (List.range n).map fun i => .int (lo + (i : Nat))
theorem rangeD_len {lo : Int} {n : Nat} : (rangeD lo n).length = n := by unfold rangeD; simp
theorem walk_rng {F : Hp} {lo : Int} {n : Nat} : WalkJ K F (rangeD lo n) (Itr lo n) := fun H i hs => by
  refine ⟨fun d hd => ?_, fun e => ?_⟩
  · unfold rangeD at hd
    rw [List.getElem?_map] at hd
    obtain ⟨j, h1, rfl⟩ := Option.map_eq_some_iff.mp hd
    have h2 := List.getElem?_eq_some_iff.mp h1
    obtain ⟨h3, h4⟩ := h2
    rw [List.getElem_range] at h4
    subst h4
    refine ⟨show i < n by simpa using h3, fun y H' hy => ?_⟩
    obtain ⟨rfl, rfl⟩ := hy
    exact ⟨Same.refl _, fun F' _ _ => .int _⟩
  · rw [rangeD_len] at e
    subst e
    exact Nat.le_refl _
def small62 (i : Int) : Prop := -(2 ^ 62) ≤ i ∧ i < 2 ^ 62
instance (i : Int) : Decidable (small62 i) := by unfold small62; exact inferInstance
def mRng1 (m : SS → EO (List Dt)) : SS → EO (List Dt) := fun ss => (m ss).bind fun ds ss => match ds with
  | [.int j] => if small62 j then .ok (rangeD 0 j.toNat) ss else .no
  | _ => .no
def mRng2 (m : SS → EO (List Dt)) : SS → EO (List Dt) := fun ss => (m ss).bind fun ds ss => match ds with
  | [.int i, .int j] => if small62 i ∧ small62 j then .ok (rangeD i (j - i).toNat) ss else .no
  | _ => .no
theorem i_rng1 (C : VC X k P w K mg base W) {tg : Expr} {p : Pos} {m : SS → EO (List Dt)} (h : VA X K mg W [e] m) (hg : ∀ i, Gl (X i) "range") (hm : mg "range" = none) (hs : ∀ i, starEach [e] (X i).env = [(false, eval e (X i).env)] := by intro _; rfl) : VI X K mg W tg (.Call (.Name "range" p) [e] [] pos) (mRng1 m) := by
  obtain ⟨t, a1, a2⟩ := h.ex
  refine ⟨_, fun i => pi_range1 (hg i) (by rw [C.em i]; exact hm) (a1 i) (hs i), fun ω ss σ H R rs q => a2 ω ss σ H _ rs ?_⟩
  refine seqE (R2 := fun ω' H' (J : It) items => WalkJ K (hid ω' H') items J) q fun d ss1 ω1 H1 x _ rs1 fr1 rp1 q1 => ?_
  split at q1
  · split at q1
    · rename_i j _ hj
      cases rp1 with
      | cons r1 r2 =>
        cases r1
        cases r2
        exact ⟨j, rfl, hj.1, hj.2, q1 ω1 H1 _ rs1 (.refl _ _) walk_rng⟩
    · exact q1.elim
  · exact q1.elim
theorem i_rng2 (C : VC X k P w K mg base W) {tg e2 : Expr} {p : Pos} {m : SS → EO (List Dt)} (h : VA X K mg W [e, e2] m) (hg : ∀ i, Gl (X i) "range") (hm : mg "range" = none) (hs : ∀ i, starEach [e, e2] (X i).env = [(false, eval e (X i).env), (false, eval e2 (X i).env)] := by intro _; rfl) (hs2 : ∀ i, starEach [e2] (X i).env = [(false, eval e2 (X i).env)] := by intro _; rfl) : VI X K mg W tg (.Call (.Name "range" p) [e, e2] [] pos) (mRng2 m) := by
  obtain ⟨t, a1, a2⟩ := h.ex
  refine ⟨_, fun i => pi_range2 (hg i) (by rw [C.em i]; exact hm) (a1 i) (hs i) (hs2 i), fun ω ss σ H R rs q => a2 ω ss σ H _ rs ?_⟩
  refine seqE (R2 := fun ω' H' (J : It) items => WalkJ K (hid ω' H') items J) q fun d ss1 ω1 H1 x _ rs1 fr1 rp1 q1 => ?_
  split at q1
  · split at q1
    · rename_i i' j _ hj
      cases rp1 with
      | cons r1 r2 =>
        cases r1
        cases r2 with
        | cons r3 r4 =>
          cases r3
          cases r4
          exact ⟨i', j, rfl, ⟨hj.1.1, hj.1.2, hj.2.1, hj.2.2⟩, q1 ω1 H1 _ rs1 (.refl _ _) walk_rng⟩
    · exact q1.elim
  · exact q1.elim
def enumD (i : Nat) : List Dt → List Dt
  | [] => []
  | d :: ds => .tuple [.int (i : Nat), d] :: enumD (i + 1) ds
theorem enumD_get : ∀ {ds : List Dt} {k i : Nat} {d : Dt}, (enumD k ds)[i]? = some d → ∃ d', ds[i]? = some d' ∧ d = .tuple [.int ((k + i : Nat) : Int), d']
  | [], _, _, _, h => by simp [enumD] at h
  | d :: ds, k, 0, d0, h => by
    have e : PyData.tuple [.int (k : Nat), d] = d0 := by simpa [enumD] using h
    exact ⟨d, rfl, e.symm⟩
  | d :: ds, k, i + 1, _, h => by
    obtain ⟨d', h1, h2⟩ := enumD_get (ds := ds) (k := k + 1) (i := i) (by simpa [enumD] using h)
    exact ⟨d', by simpa using h1, by rw [h2]; simp only [Nat.add_assoc, Nat.add_comm 1 i]⟩
theorem enumD_len : ∀ {ds : List Dt} {k : Nat}, (enumD k ds).length = ds.length
  | [], _ => rfl
  | d :: ds, k => by simp [enumD, enumD_len]
def mEnum (m : SS → EO (List Dt)) : SS → EO (List Dt) := fun ss => (m ss).bind fun ds ss => match ds with
  | [.list xs] => .ok (enumD 0 xs) ss
  | _ => .no
theorem i_enum (C : VC X k P w K mg base W) {p tpos : Pos} {elts : List Expr} {kk : Nat} {m : SS → EO (List Dt)} (h : VA X K mg W [e] m) (hg : ∀ i, Gl (X i) "enumerate") (hm : mg "enumerate" = none) (hs : ∀ i, starEach [e] (X i).env = [(false, eval e (X i).env)] := by intro _; rfl) :
    VI X K mg W (.Tuple elts kk tpos) (.Call (.Name "enumerate" p) [e] [] pos) (mEnum m) := by
  obtain ⟨t, a1, a2⟩ := h.ex
  refine ⟨iEnum K t, fun i => by rw [← C.eK i]; exact pi_enum (hg i) (by rw [C.em i]; exact hm) (a1 i) (hs i), fun ω ss σ H R rs q => a2 ω ss σ H _ rs ?_⟩
  refine seqE (R2 := fun ω' H' (J : It) items => WalkJ K (hid ω' H') items J) q fun d ss1 ω1 H1 x _ rs1 fr1 rp1 q1 => ?_
  split at q1
  · rename_i ds
    cases rp1 with
    | cons r1 r2 =>
      cases r2
      cases r1 with
      | @lst a xs _ r1 r2 =>
        refine ⟨a, xs, rfl, .of (hid_le _ _ r1), q1 ω1 H1 _ rs1 (.refl _ _) fun H2 i hs2 => ?_⟩
        have hq : SqL K H2 a xs := .of (hs2 _ _ r1)
        refine ⟨fun d hd => ?_, fun ei => ⟨xs, hq, by rw [r2.length, ei, enumD_len]; exact Nat.le_refl _⟩⟩
        obtain ⟨d', h1, rfl⟩ := enumD_get hd
        obtain ⟨x, hx, rx⟩ := r2.get h1
        refine ⟨⟨xs, x, hq, hx⟩, fun y H' hy => ?_⟩
        obtain ⟨T, x', rfl, hT, rfl, hy⟩ := hy
        have ey : x' = x := Option.some.inj ((hy xs hq).symm.trans hx)
        subst ey
        refine ⟨same_upd hT, fun F' hF hn => .tup (.of (hn T _ upd_same hT)) (.cons ?_ (.one (Rp.mono hF _ _ rx)))⟩
        rw [Nat.zero_add]
        exact .int _
  · exact q1.elim
def zipD : List Dt → List Dt → List Dt
  | d :: ds, e :: es => .tuple [d, e] :: zipD ds es
  | _, _ => []
theorem zipD_get : ∀ {ds es : List Dt} {i : Nat} {d : Dt}, (zipD ds es)[i]? = some d → ∃ d' e', ds[i]? = some d' ∧ es[i]? = some e' ∧ d = .tuple [d', e']
  | [], _, _, _, h => by simp [zipD] at h
  | _ :: _, [], _, _, h => by simp [zipD] at h
  | d :: ds, e :: es, 0, _, h => ⟨d, e, rfl, rfl, by simpa [zipD] using h.symm⟩
  | d :: ds, e :: es, i + 1, _, h => by
    obtain ⟨d', e', h1, h2, h3⟩ := zipD_get (ds := ds) (es := es) (i := i) (by simpa [zipD] using h)
    exact ⟨d', e', by simpa using h1, by simpa using h2, h3⟩
theorem zipD_len : ∀ {ds es : List Dt}, (zipD ds es).length = min ds.length es.length
  | [], _ => by simp [zipD]
  | _ :: _, [] => by simp [zipD]
  | d :: ds, e :: es => by simp only [zipD, List.length_cons, zipD_len]; omega
def mZip (m : SS → EO (List Dt)) : SS → EO (List Dt) := fun ss => (m ss).bind fun ds ss => match ds with
  | [.list xs, .list ys] => .ok (zipD xs ys) ss
  | [.tuple xs, .tuple ys] => .ok (zipD xs ys) ss
  | _ => .no
theorem i_zip (C : VC X k P w K mg base W) {e2 : Expr} {p tpos : Pos} {elts : List Expr} {kk : Nat} {m : SS → EO (List Dt)} (h : VA X K mg W [e, e2] m) (hg : ∀ i, Gl (X i) "zip") (hm : mg "zip" = none)
    (hs : ∀ i, starEach [e, e2] (X i).env = (false, eval e (X i).env) :: starEach [e2] (X i).env := by intro _; rfl) (hs2 : ∀ i, (backTo pos (starEach [e2] (X i).env)).any (·.1) = false := by intro _; rfl) :
    VI X K mg W (.Tuple elts kk tpos) (.Call (.Name "zip" p) [e, e2] [] pos) (mZip m) := by
  obtain ⟨t, a1, a2⟩ := h.ex
  refine ⟨iZipA K t, fun i => by rw [← C.eK i]; exact pi_zipA (hg i) (by rw [C.em i]; exact hm) (a1 i) (hs i) (hs2 i), fun ω ss σ H R rs q => a2 ω ss σ H _ rs ?_⟩
  refine seqE (R2 := fun ω' H' (J : It) items => WalkJ K (hid ω' H') items J) q fun d ss1 ω1 H1 x _ rs1 fr1 rp1 q1 => ?_
  split at q1
  · rename_i ds es
    cases rp1 with
    | cons r1 r2 =>
      cases r2 with
      | cons r2 r3 =>
        cases r3
        cases r1 with
        | @lst a xs _ r1 r3 =>
          cases r2 with
          | @lst b ys _ r2 r4 =>
            refine ⟨a, b, xs, ys, rfl, .inl ⟨.of (hid_le _ _ r1), .of (hid_le _ _ r2), q1 ω1 H1 _ rs1 (.refl _ _) fun H2 i hs2 => ?_⟩⟩
            have hq : SqL K H2 a xs := .of (hs2 _ _ r1)
            have hq' : SqL K H2 b ys := .of (hs2 _ _ r2)
            refine ⟨fun d hd => ?_, fun ei => ⟨xs, ys, hq, hq', ?_⟩⟩
            · obtain ⟨d', e', h1, h2, rfl⟩ := zipD_get hd
              obtain ⟨x, hx, rx⟩ := r3.get h1
              obtain ⟨y, hy, ry⟩ := r4.get h2
              refine ⟨⟨xs, ys, x, y, hq, hq', hx, hy⟩, fun v H' hv => ?_⟩
              obtain ⟨T, x', y', rfl, hT, rfl, hv1, hv2⟩ := hv
              have ex : x' = x := Option.some.inj ((hv1 xs hq).symm.trans hx)
              have ey : y' = y := Option.some.inj ((hv2 ys hq').symm.trans hy)
              subst ex ey
              exact ⟨same_upd hT, fun F' hF hn => .tup (.of (hn T _ upd_same hT)) (.cons (Rp.mono hF _ _ rx) (.one (Rp.mono hF _ _ ry)))⟩
            · rw [r3.length, r4.length, ei, zipD_len]
              omega
  · rename_i ds es
    cases rp1 with
    | cons r1 r2 =>
      cases r2 with
      | cons r2 r3 =>
        cases r3
        cases r1 with
        | @tup a xs _ r1 r3 =>
          cases r2 with
          | @tup b ys _ r2 r4 =>
            refine ⟨a, b, xs, ys, rfl, .inr ⟨sqT_mono hid_le r1, sqT_mono hid_le r2, q1 ω1 H1 _ rs1 (.refl _ _) fun H2 i hs2 => ?_⟩⟩
            have hq : SqT K H2 a xs := sqT_mono hs2 r1
            have hq' : SqT K H2 b ys := sqT_mono hs2 r2
            refine ⟨fun d hd => ?_, fun ei => ⟨xs, ys, hq, hq', ?_⟩⟩
            · obtain ⟨d', e', h1, h2, rfl⟩ := zipD_get hd
              obtain ⟨x, hx, rx⟩ := r3.get h1
              obtain ⟨y, hy, ry⟩ := r4.get h2
              refine ⟨⟨xs, ys, x, y, hq, hq', hx, hy⟩, fun v H' hv => ?_⟩
              obtain ⟨T, x', y', rfl, hT, rfl, hv1, hv2⟩ := hv
              have ex : x' = x := Option.some.inj ((hv1 xs hq).symm.trans hx)
              have ey : y' = y := Option.some.inj ((hv2 ys hq').symm.trans hy)
              subst ex ey
              exact ⟨same_upd hT, fun F' hF hn => .tup (.of (hn T _ upd_same hT)) (.cons (Rp.mono hF _ _ rx) (.one (Rp.mono hF _ _ ry)))⟩
            · rw [r3.length, r4.length, ei, zipD_len]
              omega
  · exact q1.elim

def forGo (g : Dt → SS → Option SS) (n : SS → SO) : List Dt → SS → SO
  | [], ss => .nx ss
  | d :: ds, ss => match g d ss with
    | none => .no
    | some ss1 => match n ss1 with
      | .nx ss2 => forGo g n ds ss2
      | .ct ss2 => forGo g n ds ss2
      | .bk ss2 => .nx ss2
      | .rt d ss2 => .rt d ss2
      | .exc c fs ss2 => .exc c fs ss2
      | .no => .no
def mFor (m : SS → EO (List Dt)) (g : Dt → SS → Option SS) (n : SS → SO) : SS → SO := fun ss => (m ss).st fun items ss => forGo g n items ss
theorem s_for (C : VC X k P w K mg base W) {tg it : Expr} {body : List Stmt} {gi : List Nat} {m : SS → EO (List Dt)} {g : Dt → SS → Option SS} {n : SS → SO} (hi : VI X K mg W tg it m) (hg : VG X K tg gi g) (hb : VSs X K mg W body n)
    (hs : ∀ i x, foldedSetIterable it (X i).env x = pure x := by intro _ _; rfl) : VS X K mg W (.For tg it body [] pos) (mFor m g n) := by
  obtain ⟨wi, a1, a2⟩ := hi.ex
  obtain ⟨t, b1, b2⟩ := hg.ex
  obtain ⟨u, c1, c2⟩ := hb.ex
  refine ⟨_, fun i => ps_for (C.po i) (C.ca i) (a1 i) (b1 i) (c1 i) (hs i), fun ω ss σ H D rs q => a2 ω ss σ H _ rs ?_⟩
  refine seqS (R := fun ω' H' (J : It) items => WalkJ K (hid ω' H') items J) q fun items ss1 ω1 H1 J _ rs1 fr1 wj q1 => ?_
  refine ⟨fun i mm σ' H' => mm = items.length - i ∧ i ≤ items.length ∧ ∃ ω2 ss2, RS K ω2 ss2 σ' H' ∧ Frm ω1 H1 ω2 H' ∧ SQ K mg W D ω2 H' (forGo g n (items.drop i) ss2), ⟨_, rfl, Nat.zero_le _, ω1, ss1, rs1, .refl _ _, q1⟩, ?_⟩
  rintro i mm σ2 H2 ⟨rfl, hle, ω2, ss2, rs2, fr2, q2⟩
  obtain ⟨wgo, wstop⟩ := wj H2 i (fr2.fz.trans hid_le)
  by_cases hlt : i < items.length
  · have hd : items[i]? = some items[i] := List.getElem?_eq_getElem hlt
    obtain ⟨go, yl⟩ := wgo _ hd
    have hdr : items.drop i = items[i] :: items.drop (i + 1) := List.drop_eq_getElem_cons hlt
    rw [hdr] at q2
    refine .inr ⟨go, fun σ' H' => ∃ ω3 ss3, RS K ω3 ss3 σ' H' ∧ Frm ω1 H1 ω3 H' ∧ SQ K mg W D ω3 H' (forGo g n (items.drop (i + 1)) ss3), fun σ' H' hN => ⟨items.length - (i + 1), by omega, rfl, hlt, hN⟩, fun x H3 hy => ?_⟩
    obtain ⟨sm, rp⟩ := yl x H3 hy
    have rs3 := rs2.grow sm
    have fr3 : Frm ω2 H2 ω2 H3 := .grow sm rs2.own
    have rp3 : Rp K (hid ω2 H3) x items[i] := rp _ ((fr2.trans fr3).fz) fun a o h1 h2 => by
      rw [hid_of (rs2.free h2)]
      exact h1
    rw [forGo] at q2
    cases hgs : g items[i] ss2 with
    | none => rw [hgs] at q2; exact q2.elim
    | some ss4 =>
      rw [hgs] at q2
      dsimp only at q2
      refine b2 ω2 ss2 σ2 H3 x _ ss4 _ rs3 rp3 hgs fun ω4 σ4 rs4 fr4 _ => c2 ω4 ss4 σ4 H3 _ rs4 ?_
      have fr5 := fr3.trans fr4
      cases hn : n ss4 with
      | nx ss5 =>
        rw [hn] at q2
        exact fun ω' σ' H' rs' fr' => ⟨ω', ss5, rs', (fr2.trans fr5).trans fr', q2.shift (fr5.trans fr')⟩
      | ct ss5 =>
        rw [hn] at q2
        exact fun ω' σ' H' rs' fr' => ⟨ω', ss5, rs', (fr2.trans fr5).trans fr', q2.shift (fr5.trans fr')⟩
      | bk ss5 => rw [hn] at q2; exact fun ω' σ' H' rs' fr' => q2 ω' σ' H' rs' (fr5.trans fr')
      | rt d ss5 => rw [hn] at q2; exact fun ω' σ' H' x rs' fr' rx => q2 ω' σ' H' x rs' (fr5.trans fr') rx
      | exc c fs ss5 => rw [hn] at q2; exact fun ω' σ' H' cls dd rs' fr' xr => q2 ω' σ' H' cls dd rs' (fr5.trans fr') xr
      | no => rw [hn] at q2; exact q2.elim
  · have ei : i = items.length := by omega
    rw [List.drop_of_length_le (by omega)] at q2
    exact .inl ⟨wstop ei, q2 ω2 σ2 H2 rs2 (.refl _ _)⟩

def whileN (c : SS → EO Bool) (n : SS → SO) : Nat → SS → SO
  | 0, _ => .no
  | f + 1, ss => (c ss).st fun z ss1 => if z = true then (match n ss1 with
      | .nx ss2 => whileN c n f ss2
      | .ct ss2 => whileN c n f ss2
      | .bk ss2 => .nx ss2
      | .rt d ss2 => .rt d ss2
      | .exc c fs ss2 => .exc c fs ss2
      | .no => .no) else .nx ss1
open Classical in
/-- as many turns as it takes -/
noncomputable def mWhile (c : SS → EO Bool) (n : SS → SO) : SS → SO := fun ss => if h : ∃ f, whileN c n f ss ≠ .no then whileN c n h.choose ss else .no
theorem s_while (C : VC X k P w K mg base W) {body : List Stmt} {t : SS → EO Bool} {n : SS → SO} (hc : VT X K mg W c t) (hb : VSs X K mg W body n) : VS X K mg W (.While c body [] pos) (mWhile t n) := by
  obtain ⟨tc, a1, a2⟩ := hc.ex
  obtain ⟨u, c1, c2⟩ := hb.ex
  refine ⟨_, fun i => ps_while (C.po i) (a1 i) (c1 i), fun ω ss σ H D rs q => ?_⟩
  have hq : ∃ f, SQ K mg W D ω H (whileN t n f ss) := by
    unfold mWhile at q
    split at q
    · exact ⟨_, q⟩
    · exact q.elim
  obtain ⟨f, q⟩ := hq
  refine ⟨fun m σ' H' => ∃ ω2 ss2, RS K ω2 ss2 σ' H' ∧ SQ K mg W D ω2 H' (whileN t n m ss2), ⟨f, ω, ss, rs, q⟩, ?_⟩
  rintro m σ2 H2 ⟨ω2, ss2, rs2, q2⟩
  cases m with
  | zero => exact q2.elim
  | succ m =>
    rw [whileN] at q2
    refine a2 ω2 ss2 σ2 H2 _ rs2 (seqS q2 fun z ss3 ω3 H3 x _ rs3 fr3 rp3 q3 => ?_)
    cases rp3
    cases z with
    | false => exact q3 ω3 σ2 H3 rs3 (.refl _ _)
    | true =>
      refine ⟨fun σ' H' => ∃ ω4 ss4, RS K ω4 ss4 σ' H' ∧ SQ K mg W D ω4 H' (whileN t n m ss4), fun σ' H' hN => ⟨m, Nat.lt_succ_self _, hN⟩, c2 ω3 ss3 σ2 H3 _ rs3 ?_⟩
      have q3 : SQ K mg W D ω3 H3 (match n ss3 with
        | .nx ss2 => whileN t n m ss2
        | .ct ss2 => whileN t n m ss2
        | .bk ss2 => .nx ss2
        | .rt d ss2 => .rt d ss2
        | .exc c fs ss2 => .exc c fs ss2
        | .no => .no) := q3
      cases hn : n ss3 with
      | nx ss5 => rw [hn] at q3; exact fun ω' σ' H' rs' fr' => ⟨ω', ss5, rs', q3.shift fr'⟩
      | ct ss5 => rw [hn] at q3; exact fun ω' σ' H' rs' fr' => ⟨ω', ss5, rs', q3.shift fr'⟩
      | bk ss5 => rw [hn] at q3; exact q3
      | rt d ss5 => rw [hn] at q3; exact q3
      | exc c fs ss5 => rw [hn] at q3; exact q3
      | no => rw [hn] at q3; exact q3
end
end VL

namespace VL
open PySem PySem.Spec L2
open PyProof.Rows hiding St

abbrev WF : WX := fun _ _ _ _ => False
abbrev BI (ι : Type) : Type := ι × Shared × Hp × Addr × List (Str × Addr) × List Addr
/-- the contexts of a comprehension's block -/
abbrev blkX {ι : Type} (X : ι → Cx) (scope : Scope) : BI ι → Cx := fun z => (X z.1).blk z.2.1 z.2.2.1 scope (compEnvC scope z.2.2.2.2.1 z.2.2.2.1 (X z.1).env) z.2.2.2.2.2
theorem VC.blk {ι : Type} {X : ι → Cx} {k : Nat} {P : Program} {w : World} {K : PySem.W.Frag} {mg : Str → Option Value} {base : Heap} {W : WX} (C : VC X k P w K mg base W) (scope : Scope) : VC (blkX X scope) k P w K mg base WF :=
  ⟨fun z => C.eP z.1, fun z => C.ew z.1, fun z => C.eK z.1, fun z => C.em z.1, fun z => C.eb z.1, fun z => C.rm z.1, fun z => C.gd z.1, fun z => C.ca z.1, fun z => C.nd z.1, fun z u s' x => by
    obtain ⟨_, _, _, _, _, _, _, _, _, _, _, _, _, _, _, _, h⟩ := x
    exact h.elim, fun z => PassesOwn.never⟩
structure VTs {ι : Type} (X : ι → Cx) (K : PySem.W.Frag) (mg : Str → Option Value) (W : WX) (es : List Expr) (m : SS → EO Bool) : Prop where
  ex : ∃ t : TT, (∀ i, PTs (X i) es t) ∧ ∀ ω ss σ H Q, RS K ω ss σ H → EQg EqB K mg W ω σ H (m ss) Q → t σ H Q
def mYes : SS → EO Bool := fun ss => .ok true ss
def wipeS (ss : SS) : List Nat → SS
  | [] => ss
  | v :: vs => (wipeS ss vs).set v none
def restS (ss1 ss2 : SS) : List Nat → SS
  | [] => ss2
  | v :: vs => (restS ss1 ss2 vs).set v (match ss1[v]? with
    | some (some (.v d)) => some (.v d)
    | _ => none)
theorem wipeS_len (ss : SS) : ∀ vs : List Nat, (wipeS ss vs).length = ss.length
  | [] => rfl
  | v :: vs => by rw [wipeS, List.length_set, wipeS_len ss vs]
theorem wipeS_some {ss : SS} {i : Nat} {s : SV} : ∀ {vs : List Nat}, (wipeS ss vs)[i]? = some (some s) → i ∉ vs ∧ ss[i]? = some (some s)
  | [], h => ⟨by simp, h⟩
  | v :: vs, h => by
    rw [wipeS] at h
    by_cases hi : v = i
    · subst hi
      by_cases hv : v < (wipeS ss vs).length
      · rw [List.getElem?_set_self hv] at h; cases h
      · rw [List.getElem?_eq_none (by simpa using hv)] at h; cases h
    · rw [List.getElem?_set_ne hi] at h
      obtain ⟨h1, h2⟩ := wipeS_some h
      exact ⟨by rw [List.mem_cons, not_or]; exact ⟨fun z => hi z.symm, h1⟩, h2⟩
theorem restS_len (ss1 ss2 : SS) : ∀ vs : List Nat, (restS ss1 ss2 vs).length = ss2.length
  | [] => rfl
  | v :: vs => by rw [restS, List.length_set, restS_len ss1 ss2 vs]
theorem restS_some {ss1 ss2 : SS} {i : Nat} {s : SV} : ∀ {vs : List Nat}, (restS ss1 ss2 vs)[i]? = some (some s) → (i ∉ vs ∧ ss2[i]? = some (some s)) ∨ ∃ d, s = .v d ∧ ss1[i]? = some (some (.v d))
  | [], h => .inl ⟨by simp, h⟩
  | v :: vs, h => by
    rw [restS] at h
    by_cases hi : v = i
    · subst hi
      by_cases hv : v < (restS ss1 ss2 vs).length
      · rw [List.getElem?_set_self hv] at h
        have h : (match ss1[v]? with
          | some (some (.v d)) => some (SV.v d)
          | _ => none) = some s := Option.some.inj h
        split at h
        · rename_i d q
          cases h
          exact .inr ⟨d, rfl, q⟩
        · cases h
      · rw [List.getElem?_eq_none (by simpa using hv)] at h; cases h
    · rw [List.getElem?_set_ne hi] at h
      rcases restS_some h with ⟨h1, h2⟩ | h2
      · exact .inl ⟨by rw [List.mem_cons, not_or]; exact ⟨fun z => hi z.symm, h1⟩, h2⟩
      · exact .inr h2
theorem wipe_in {σ : St} {i : Nat} (hi : i < σ.length) : ∀ {vs : List Nat}, i ∈ vs → (wipe σ vs)[i]? = some none
  | [], h => nomatch h
  | v :: vs, h => by
    unfold wipe
    by_cases hv : v = i
    · subst hv
      rw [List.getElem?_set_self (by rw [wipe_length]; exact hi)]
    · rw [List.getElem?_set_ne hv]
      rcases List.mem_cons.mp h with e | e
      · exact absurd e.symm hv
      · exact wipe_in hi e
theorem wipe_off {σ σ' : St} {gi vs : List Nat} (h : Off gi (wipe σ vs) σ') (hg : ∀ j ∈ gi, j ∈ vs) : wipe σ' vs = wipe σ vs := by
  have hl : σ'.length = σ.length := by rw [h.1, wipe_length]
  refine List.ext_getElem? fun j => ?_
  by_cases hj : j ∈ vs
  · by_cases hlt : j < σ.length
    · rw [wipe_in (by omega) hj, wipe_in hlt hj]
    · rw [List.getElem?_eq_none (by rw [wipe_length]; omega), List.getElem?_eq_none (by rw [wipe_length]; omega)]
  · rw [wipe_out hj, h.2 j fun z => hj (hg j z)]
section
variable {K : PySem.W.Frag} {ω ω' : Om} {ss ss1 ss2 : SS} {σ : St} {H H' : Hp}
theorem RS.wipe (r : RS K ω ss σ H) (vs : List Nat) : RS K ω (wipeS ss vs) (wipe σ vs) H :=
  ⟨by rw [wipeS_len, wipe_length]; exact r.len, by rw [wipe_length]; exact r.few, r.own, fun i s h => by
    obtain ⟨h1, h2⟩ := wipeS_some h
    obtain ⟨x, q1, q2⟩ := r.sl i s h2
    exact ⟨x, by rw [wipe_out h1]; exact q1, q2⟩⟩
theorem RS.rest {vs : List Nat} (r1 : RS K ω ss1 σ H) (r2 : RS K ω' ss2 (L2.wipe σ vs) H') (f : Same (hid ω H) (hid ω' H')) : RS K ω' (restS ss1 ss2 vs) σ H' :=
  ⟨by rw [restS_len, r2.len, wipe_length], r1.few, r2.own, fun i s h => by
    rcases restS_some h with ⟨h1, h2⟩ | ⟨d, rfl, h2⟩
    · obtain ⟨x, q1, q2⟩ := r2.sl i s h2
      rw [wipe_out h1] at q1
      exact ⟨x, q1, q2⟩
    · obtain ⟨x, q1, q2⟩ := r1.sl i _ h2
      exact ⟨x, q1, Rp.mono f _ _ q2⟩⟩
/-- an object of a high owner's is changed -/
theorem RS.mutT {D : Addr} {o : HO} {k : Nat} (r : RS K ω ss σ H) (hk : 1000 ≤ k) (hD : ω D = some k) : RS K ω ss σ (upd H D o) ∧ hid ω (upd H D o) = hid ω H := by
  have e : hid ω (upd H D o) = hid ω H := by
    funext b
    by_cases hb : b = D
    · subst hb; unfold hid; rw [hD]
    · unfold hid; rw [upd_ne hb]
  refine ⟨⟨r.len, r.few, fun b j hb => ?_, fun i s h => ?_⟩, e⟩
  · by_cases hbD : b = D
    · rw [hbD, upd_same]; rfl
    · rw [upd_ne hbD]; exact r.own b j hb
  · obtain ⟨x, q1, q2⟩ := r.sl i s h
    have hi : i < σ.length := (List.getElem?_eq_some_iff.mp q1).1
    have hf := r.few
    refine ⟨x, q1, q2.keep (by rw [e]; exact Same.refl _) fun b hb => ⟨hb, upd_ne fun z => ?_⟩⟩
    rw [z, hD] at hb
    have := Option.some.inj hb
    omega
theorem Frm.mutT {D : Addr} {o : HO} {k : Nat} (f : Frm ω H ω' H') (h0 : ω D = none) (h1 : H D = none) (hD : ω' D = some k) : Frm ω H ω' (upd H' D o) := by
  have e : hid ω' (upd H' D o) = hid ω' H' := by
    funext b
    by_cases hb : b = D
    · subst hb; unfold hid; rw [hD]
    · unfold hid; rw [upd_ne hb]
  refine ⟨by rw [e]; exact f.fz, fun b j hj hb => ?_, fun b hb => ?_⟩
  · obtain ⟨g1, g2⟩ := f.tp b j hj hb
    exact ⟨g1, (upd_ne fun z => by rw [z, h0] at hb; cases hb).trans g2⟩
  · by_cases hbD : b = D
    · rw [hbD]; exact h1
    · rw [upd_ne hbD] at hb; exact f.tr b hb
end
def EO.calm {α : Type} : EO α → EO α
  | .ok a ss => .ok a ss
  | .exc _ _ _ => .no
  | .no => .no
def lcGo (vs : List Nat) (g : Dt → SS → Option SS) (mt : SS → EO Bool) (me : SS → EO Dt) : List Dt → SS → List Dt → EO (List Dt)
  | [], ss, acc => .ok acc ss
  | d :: ds, ss, acc => match g d ss with
    | none => .no
    | some ss1 => (mt ss1).calm.bind fun z ss2 => if z = true then (me ss2).calm.bind fun y ss3 => if acc.length < sizeLine then lcGo vs g mt me ds (wipeS ss3 vs) (acc ++ [y]) else .no else lcGo vs g mt me ds (wipeS ss2 vs) acc
def mLc (m : SS → EO (List Dt)) (vs : List Nat) (g : Dt → SS → Option SS) (mt : SS → EO Bool) (me : SS → EO Dt) : SS → EO Dt := fun ss => (m ss).bind fun items ss1 => (lcGo vs g mt me items (wipeS ss1 vs) []).bind fun acc ss2 => .ok (.list acc) (restS ss1 ss2 vs)
section
variable {ι : Type} {X : ι → Cx} {k : Nat} {P : Program} {w : World} {K : PySem.W.Frag} {mg : Str → Option Value} {base : Heap} {W : WX} {e a b c : Expr} {es : List Expr} {pos : Pos}
theorem ts_nil : VTs X K mg W [] mYes := ⟨_, fun _ => pts_nil, fun ω ss σ H Q rs q => q ω H _ rs (.refl _ _) rfl⟩
theorem ts_one {m : SS → EO Bool} (h : VT X K mg W e m) : VTs X K mg W [e] m := let ⟨t, h1, h2⟩ := h.ex; ⟨t, fun i => pts_one (h1 i), h2⟩
theorem lc_go {vs gi : List Nat} {m : SS → EO (List Dt)} {g : Dt → SS → Option SS} {mt : SS → EO Bool} {me : SS → EO Dt} {wi : TI} {t : TG} {tt : TT} {te : TE}
    (a2 : ∀ ω ss σ H R, RS K ω ss σ H → EQg (fun ω' H' (J : It) items => WalkJ K (hid ω' H') items J) K mg W ω σ H (m ss) R → wi σ H R)
    (b2 : ∀ ω ss σ H x d ss' (Q : St → Hp → Prop), RS K ω ss σ H → Rp K (hid ω H) x d → g d ss = some ss' → (∀ ω' σ', RS K ω' ss' σ' H → Frm ω H ω' H → Off gi σ σ' → Q σ' H) → t x σ H Q)
    (c2 : ∀ ω ss σ H Q, RS K ω ss σ H → EQg EqB K mg WF ω σ H (mt ss) Q → tt σ H Q)
    (d2 : ∀ ω ss σ H Q, RS K ω ss σ H → EQg (RpE K) K mg WF ω σ H (me ss) Q → te σ H Q) (hgi : ∀ j ∈ gi, j ∈ vs)
    {k : Nat} {ω : Om} {ss : SS} {σ : St} {H : Hp} {Q : VK} (hk : 1000 ≤ k) (rs : RS K ω ss σ H) (q : EQg (NewR K H k) K mg W ω σ H (mLc m vs g mt me ss) Q) : tLc wi t tt te vs σ H Q := by
  refine a2 ω ss σ H _ rs (seqE0 (R := fun ω' H' (J : It) items => WalkJ K (hid ω' H') items J) (R2 := NewR K H k) q fun items ss1 ω1 H1 J _ rs1 fr1 wj q1 => ?_)
  intro D hD
  have hD0 : H D = none := fr1.tr D hD
  have hDω : ω D = none := rs.free hD0
  obtain ⟨ω2, e2, rs2, fr2, hs2⟩ := (rs1.wipe vs).new (o := .lst []) hk hD
  refine ⟨fun i mm H' => mm = items.length - i ∧ i ≤ items.length ∧ ∃ ω3 ss3 acc xs, RS K ω3 ss3 (wipe σ vs) H' ∧ Frm ω H ω3 H' ∧ Same (hid ω1 H1) (hid ω3 H') ∧ ω3 D = some k ∧ H' D = some (.lst xs) ∧ RpA K (hid ω3 H') xs acc ∧
      EQg (NewR K H k) K mg W ω σ H ((lcGo vs g mt me (items.drop i) ss3 acc).bind fun acc ss2 => .ok (.list acc) (restS ss1 ss2 vs)) Q,
    ⟨_, rfl, Nat.zero_le _, ω2, _, [], [], rs2, fr1.trans fr2, hs2, e2, upd_same, .nil, q1⟩, ?_⟩
  rintro i mm H3 ⟨rfl, hle, ω3, ss3, acc, xs, rs3, fr3, sm3, e3, hx3, rp3, q3⟩
  obtain ⟨wgo, wstop⟩ := wj H3 i (sm3.trans hid_le)
  by_cases hlt : i < items.length
  · obtain ⟨go, yl⟩ := wgo _ (List.getElem?_eq_getElem hlt)
    have hdr : items.drop i = items[i] :: items.drop (i + 1) := List.drop_eq_getElem_cons hlt
    rw [hdr] at q3
    refine .inr ⟨go, fun H' => ∃ ω3 ss3 acc xs, RS K ω3 ss3 (wipe σ vs) H' ∧ Frm ω H ω3 H' ∧ Same (hid ω1 H1) (hid ω3 H') ∧ ω3 D = some k ∧ H' D = some (.lst xs) ∧ RpA K (hid ω3 H') xs acc ∧
      EQg (NewR K H k) K mg W ω σ H ((lcGo vs g mt me (items.drop (i + 1)) ss3 acc).bind fun acc ss2 => .ok (.list acc) (restS ss1 ss2 vs)) Q, fun H' hN => ⟨items.length - (i + 1), by omega, rfl, hlt, hN⟩, fun x H4 hy => ?_⟩
    obtain ⟨sm, rp⟩ := yl x H4 hy
    have rs4 := rs3.grow sm
    have fr4 : Frm ω3 H3 ω3 H4 := .grow sm rs3.own
    have rp4 : Rp K (hid ω3 H4) x items[i] := rp _ (sm3.trans fr4.fz) fun a o h1 h2 => by
      rw [hid_of (rs3.free h2)]
      exact h1
    rw [lcGo] at q3
    cases hgs : g items[i] ss3 with
    | none => rw [hgs] at q3; exact q3.elim
    | some ss4 =>
      rw [hgs] at q3
      dsimp only at q3
      refine b2 ω3 ss3 _ H4 x _ ss4 _ rs4 rp4 hgs fun ω5 σ5 rs5 fr5 off => ?_
      have ew : wipe σ5 vs = wipe σ vs := wipe_off off hgi
      refine ⟨ew, ?_⟩
      refine c2 ω5 ss4 σ5 H4 _ rs5 ?_
      cases hmt : mt ss4 with
      | no => rw [hmt] at q3; exact q3.elim
      | exc c fs s' => rw [hmt] at q3; exact q3.elim
      | ok z ss5 =>
        rw [hmt] at q3
        intro ω6 H6 z' rs6 fr6 ez
        have ez : z' = z := ez
        subst ez
        have fr46 : Frm ω3 H3 ω6 H6 := (fr4.trans fr5).trans fr6
        have q3 : EQg (NewR K H k) K mg W ω σ H ((if z' = true then (me ss5).calm.bind fun y ss3 => if acc.length < sizeLine then lcGo vs g mt me (items.drop (i + 1)) (wipeS ss3 vs) (acc ++ [y]) else .no else lcGo vs g mt me (items.drop (i + 1)) (wipeS ss5 vs) acc).bind fun acc ss2 => .ok (.list acc) (restS ss1 ss2 vs)) Q := q3
        obtain ⟨t1, t2⟩ := fr46.tp D k hk e3
        cases z' with
        | false =>
          rw [if_neg Bool.false_ne_true] at q3 ⊢
          have rw' := rs6.wipe vs
          rw [ew] at rw'
          exact ⟨ω6, _, acc, xs, rw', fr3.trans fr46, sm3.trans fr46.fz, t1, t2.trans hx3, RpA.mono fr46.fz _ _ rp3, q3⟩
        | true =>
          rw [if_pos rfl] at q3 ⊢
          refine d2 ω6 ss5 σ5 H6 _ rs6 ?_
          cases hme : me ss5 with
          | no => rw [hme] at q3; exact q3.elim
          | exc c fs s' => rw [hme] at q3; exact q3.elim
          | ok y ss6 =>
            rw [hme] at q3
            intro ω7 H7 yv rs7 fr7 rp7
            have q3 : EQg (NewR K H k) K mg W ω σ H ((if acc.length < sizeLine then lcGo vs g mt me (items.drop (i + 1)) (wipeS ss6 vs) (acc ++ [y]) else .no).bind fun acc ss2 => .ok (.list acc) (restS ss1 ss2 vs)) Q := q3
            have fr47 := fr46.trans fr7
            obtain ⟨u1, u2⟩ := fr47.tp D k hk e3
            have rp3' : RpA K (hid ω7 H7) xs acc := RpA.mono fr47.fz _ _ rp3
            split at q3
            · rename_i hz
              have rw' := rs7.wipe vs
              rw [ew] at rw'
              obtain ⟨m1, m2⟩ := rw'.mutT (o := .lst (xs ++ [yv])) hk u1
              refine ⟨xs, u2.trans hx3, by rw [rp3'.length]; exact hz, ω7, _, acc ++ [y], xs ++ [yv], m1, (fr3.trans fr47).mutT hDω hD0 u1, by rw [m2]; exact sm3.trans fr47.fz, u1, upd_same, by rw [m2]; exact rp3'.app (.one rp7), q3⟩
            · exact q3.elim
  · have ei : i = items.length := by omega
    rw [List.drop_of_length_le (by omega)] at q3
    exact .inl ⟨wstop ei, q3 ω3 H3 (.ref D) (rs1.rest rs3 sm3) fr3 ⟨D, rfl, hD0, e3, .inl ⟨_, _, rfl, hx3, rp3⟩⟩⟩
/-- [elt for target in iter if ..] -/
theorem o_lc (C : VC X k P w K mg base W) {tg it elt : Expr} {ifs : List Expr} {scope : Scope} {own : List (Str × Nat)} {gi : List Nat} {m : SS → EO (List Dt)} {g : Dt → SS → Option SS} {mt : SS → EO Bool} {me : SS → EO Dt}
    (ok : ∀ i, BlkOk (X i).N (X i).env.scope scope own) (hi : VI X K mg W tg it m) (hg : VG (blkX X scope) K tg gi g) (ht : VTs (blkX X scope) K mg WF ifs mt) (he : VE (blkX X scope) K mg WF elt me) (hgi : ∀ j ∈ gi, j ∈ own.map (·.2) := by decide)
    (hs : ∀ i x, foldedSetIterable it (X i).env x = pure x := by intro _ _; rfl) : VO X K mg W (.ListComp elt [⟨tg, it, ifs, 0⟩] scope pos) (mLc m (own.map (·.2)) g mt me) := by
  obtain ⟨wi, a1, a2⟩ := hi.ex
  obtain ⟨t, b1, b2⟩ := hg.ex
  obtain ⟨tt, c1, c2⟩ := ht.ex
  obtain ⟨te, d1, d2⟩ := he.ex
  exact ⟨_, fun i => pe_lc (C.ca i) (C.nd i) (a1 i) (ok i) (fun s H Ca cl fp => b1 (i, s, H, Ca, cl, fp)) (fun s H Ca cl fp => c1 (i, s, H, Ca, cl, fp)) (fun s H Ca cl fp => d1 (i, s, H, Ca, cl, fp)) (hs i), fun k ω ss σ H Q hk rs q => lc_go a2 b2 c2 d2 hgi hk rs q⟩
/-- name = [..] on one line -/
theorem s_setLc (C : VC X k P w K mg base W) (i : Nat) {y : Str} {py spos : Pos} {tg it elt : Expr} {ifs : List Expr} {scope : Scope} {own : List (Str × Nat)} {gi : List Nat} {m : SS → EO (List Dt)} {g : Dt → SS → Option SS} {mt : SS → EO Bool} {me : SS → EO Dt}
    (hy : ∀ j, (X j).N[i]? = some y) (hyl : ∀ j, (X j).env.scope.names.lookup y = some .local) (hsw : ∀ j, swapsWith (.ListComp elt [⟨tg, it, ifs, 0⟩] scope pos) (some (.Name y py)) spos.line (X j).env = pure true)
    (ok : ∀ i, BlkOk (X i).N (X i).env.scope scope own) (hi : VI X K mg W tg it m) (hg : VG (blkX X scope) K tg gi g) (ht : VTs (blkX X scope) K mg WF ifs mt) (he : VE (blkX X scope) K mg WF elt me) (hgi : ∀ j ∈ gi, j ∈ own.map (·.2) := by decide)
    (hs : ∀ i x, foldedSetIterable it (X i).env x = pure x := by intro _ _; rfl) : VS X K mg W (.Assign [.Name y py] (.ListComp elt [⟨tg, it, ifs, 0⟩] scope pos) spos) (mSet i (mOw (mLc m (own.map (·.2)) g mt me))) := by
  obtain ⟨wi, a1, a2⟩ := hi.ex
  obtain ⟨t, b1, b2⟩ := hg.ex
  obtain ⟨tt, c1, c2⟩ := ht.ex
  obtain ⟨te, d1, d2⟩ := he.ex
  refine ⟨_, fun j => ps_setLc (C.ca j) (C.nd j) (hy j) (hyl j) (hsw j) (a1 j) (ok j) (fun s H Ca cl fp => b1 (j, s, H, Ca, cl, fp)) (fun s H Ca cl fp => c1 (j, s, H, Ca, cl, fp)) (fun s H Ca cl fp => d1 (j, s, H, Ca, cl, fp)) (hs j), fun ω ss σ H D rs q => ?_⟩
  refine lc_go a2 b2 c2 d2 hgi (Nat.le_refl 1000) rs (seqS0 (D := D) (f := fun d ss => if i < ss.length then .nx (ss.set i (some (NV.ow d).sv)) else .no) (Q := fun x H1 => gName i x σ H1 D.nx) ?_ fun d ss1 ω1 H1 y _ rs1 fr1 rp1 q1 => ?_)
  · unfold mSet mOw at q
    cases hm : mLc m (own.map (·.2)) g mt me ss with
    | no => rw [hm] at q; exact q
    | exc c fs s' => rw [hm] at q; exact q
    | ok d ss1 => rw [hm] at q; exact q
  · split at q1
    · rename_i hlt
      obtain ⟨ω2, rs2, fr2, hs2, _⟩ := store_nv (n := .ow d) rs1 fr1 (fun a ha => rs.free ha) (Nat.le_refl 1000) (by rw [← rs1.len]; exact hlt) rp1
      exact q1 ω2 _ H1 rs2 fr2
    · exact q1.elim
end
end VL

namespace VL
open PySem PySem.Spec L2
open PyProof.Rows hiding St

/-- a def's promise, where no repr is under way -/
structure FnG (P : Program) (w : World) (K : PySem.W.Frag) (mg : Str → Option Value) (base : Heap) (k : Nat) (f : Addr) (fd : FuncData) (ps : List Str) (sp : Sp) : Prop where
  len : ∀ vs H Q E, sp vs H Q E → vs.length = ps.length
  go : ∀ (A : Around) (outer : List Env) (s : Shared) (H : Hp) (args : Args) (us : List Value) (vs : List V) (Q : VK) (E : XK),
    Room k A → A.guards = some [] → Env0 P w K mg base A outer s H → BindsTo s fd args (ps.zip us) → Vals vs us → sp vs H Q E →
    codeAny (model P w) A (.call (.ref f) args) (CR (L2.CX P w) outer P w H s Q E) s
section
variable {P : Program} {w : World} {K : PySem.W.Frag} {mg : Str → Option Value} {base : Heap} {k : Nat} {f : Addr} {fd : FuncData} {N ps : List Str} {sp sp' : Sp} {x qual : Str} {st : Stmt}
theorem FnG.mono {j : Nat} (F : FnG P w K mg base j f fd ps sp) (h : j ≤ k) : FnG P w K mg base k f fd ps sp := ⟨F.len, fun A outer s H args us vs Q E hr => F.go A outer s H args us vs Q E (hr.mono h)⟩
theorem FnG.imp (F : FnG P w K mg base k f fd ps sp) (h : ∀ vs H Q E, sp' vs H Q E → sp vs H Q E) : FnG P w K mg base k f fd ps sp' :=
  ⟨fun vs H Q E z => F.len vs H Q E (h _ _ _ _ z), fun A outer s H args us vs Q E hr hg he hb hv z => F.go A outer s H args us vs Q E hr hg he hb hv (h _ _ _ _ z)⟩
/-- by the body -/
theorem FnG.of (F : Fun K x qual st f fd) (S : FnScope N ps (defScope st)) (len : ∀ vs H Q E, sp vs H Q E → vs.length = ps.length)
    (body : ∀ (cdv : Value) (A : Around) (outer : List Env) (s : Shared) (H : Hp) (vs : List V) (Q : VK) (E : XK), Room k (A.deeper (envOfC qual (defScope st) s.heap.objs.size f cdv)) → A.guards = some [] → sp vs H Q E →
      ∃ t, PSs (cxOf (L2.CX P w) P w K mg base N qual (defScope st) f cdv A outer s H E) (defBody st) t ∧ t { nx := fun _ H' => Q .non H', rt := Q } (L2.start N vs) H) :
    FnG P w K mg base (k + 1) f fd ps sp := by
  obtain ⟨oc, od, kV, doc, pm, an, cdv, ct, osl, rfl, lk, hcd⟩ := F.ex
  refine ⟨len, fun A outer s H args us vs Q E hr hg e0 hb rv hsp => ?_⟩
  have lenv := len _ _ _ _ hsp
  have keepB : ∀ b o, base.get? b = some o → s.heap.get? b = some o := fun b o e => (e0.bs b o e).1
  have inK : K.In s.heap := e0.mod.kin.keeps keepB
  have kinds : ∀ y ∈ ps.zip us, (defScope st).names.lookup y.1 = some .local ∨ ((defScope st).names.lookup y.1 = some .cell ∧ ((cellsFrom (s.heap.objs.size + 1) (defScope st).names []).lookup y.1).isSome = true) := by
    rintro ⟨n, v⟩ hy
    rcases S.par n (List.of_mem_zip hy).1 with z | z
    · exact .inl z
    · exact .inr ⟨z, PySem.W.cellsFrom_some _ _ _ (.inl z)⟩
  refine codeAny_call_function hr.depth (inK _ _ lk) rfl S.co S.gen rfl (PySem.W.codeRec_of inK hcd) (hb _ _ _ _ ?_)
  refine wpAny_newFunctionEnv_cells S.kind kinds fun env he s1 ic => ?_
  subst he
  refine ⟨(e0.mod.nolimit.keeps keepB).keeps ic.toInCall.keep, codeAny_func ?_⟩
  obtain ⟨t, ht, hq⟩ := body cdv A outer s H vs Q E (hr.deeper _) hg hsp
  have I0 := inv_start (CX := L2.CX P w) (mg := mg) (E := E) S hr.hd e0 lenv rv ic
  refine wpAny_mono (ht.run [] s1 (L2.start N vs) H _ I0 hq) (fun fl s' hs => ?_) (fun e s' hs => hs)
  cases fl with
  | ret u =>
    obtain ⟨v, σ', H', J, r1, q⟩ := hs
    exact ⟨v, H', J.os, J.bare, J.base, J.hok, r1, q⟩
  | next =>
    obtain ⟨σ', H', J, q⟩ := hs
    exact ⟨.non, H', J.os, J.bare, J.base, J.hok, rfl, q⟩
  | brk => exact hs.elim fun _ z => z.elim fun _ z => z.2.elim
  | cont => exact hs.elim fun _ z => z.elim fun _ z => z.2.elim
end

section
variable {Y : Cx} {k : Nat} {f : Addr} {fd : FuncData} {ps ks : List Str} {sp : Sp} {E : St → XK} {x m : Str} {p pos apos : Pos} {e o : Expr} {es : List Expr} {kws : List Keyword} {t tk : TA}
theorem run_g {pins : List (Addr × Obj)} {σ : St} {H : Hp} {s : Shared} {Q : VK} {args : Args} {us' : List Value} {vs : List V} (F : FnG Y.prog Y.w Y.K Y.mg Y.base k f fd ps sp) (hr : Room k Y.A) (hg : Y.A.guards = some []) (hx : PassesAt (L2.CX Y.prog Y.w) Y σ (E σ))
    (I : Inv Y pins σ H s) (hb : BindsTo s fd args (ps.zip us')) (r : Vals vs us') (h : sp vs H Q (E σ)) : codeAny (model Y.prog Y.w) Y.A (.call (.ref f) args) (fun r s' => match r with
      | .ok (.ret u) => EP Y pins σ Q u s'
      | .ok _ => False
      | .error z => Y.xe z s') s := by
  refine codeAny_mono (F.go Y.A Y.stack s H args us' vs Q (E σ) hr hg I.env0 hb r h) fun z s' hq => ?_
  cases z with
  | error z => exact hx pins H s z s' I hq
  | ok fl =>
    cases fl with
    | ret u => exact I.after hq
    | next => exact hq
    | brk => exact hq
    | cont => exact hq
theorem run_gw {pins : List (Addr × Obj)} {σ : St} {H : Hp} {s : Shared} {Q : VK} {us : List Value} {kw : List (Str × Value)} {us' : List Value} {vs : List V} (F : FnG Y.prog Y.w Y.K Y.mg Y.base k f fd ps sp) (hr : Room k Y.A) (hg : Y.A.guards = some []) (hx : PassesAt (L2.CX Y.prog Y.w) Y σ (E σ))
    (I : Inv Y pins σ H s) (hb : BindsTo s fd ⟨us, kw⟩ (ps.zip us')) (r : Vals vs us') (h : sp vs H Q (E σ)) : wpAny (model Y.prog Y.w) Y.A (call (.ref f) us kw) (EP Y pins σ Q) Y.xe s := by
  refine wpAny_call (codeAny_mono (run_g F hr hg hx I hb r h) fun z s' hq => ?_)
  cases z with
  | error z => exact hq
  | ok fl =>
    cases fl with
    | ret u => exact hq
    | next => exact hq
    | brk => exact hq
    | cont => exact hq
/-- f(e, ..) -/
theorem pe_g (F : FnG Y.prog Y.w Y.K Y.mg Y.base k f fd ps sp) (hr : Room k Y.A) (hgd : Y.A.guards = some []) (hg : Gl Y x) (hm : Y.mg x = some (.ref f)) (hk : PySem.W.keepIn Y.K (.ref f) = true) (hb : Binds Y.K fd ps []) (hx : ∀ σ, PassesAt (L2.CX Y.prog Y.w) Y σ (E σ))
    (ha : PA Y (e :: es) t) (hdb : (x == ("__debug__" : Str)) = false) (he : starEach (e :: es) Y.env = (false, eval e Y.env) :: starEach es Y.env) (hpl : (backTo pos (starEach es Y.env)).any (·.1) = false) :
    PE Y (.Call (.Name x p) (e :: es) [] pos) (tCallS sp E t) := by
  refine ⟨fun pins s σ H Q I h => wpAny_Call_Name_kw (ld_glob I hg hm ?_ hdb)⟩
  refine PySem.W.callWith_K (h₀ := Y.base) I.ok.mod.kin hk (thn (ha.run pos pins s σ H _ I h) fun us s1 hv => ?_) he hpl
  obtain ⟨vs, H1, I1, r, q⟩ := hv
  have lv : (us ++ []).length = ps.length := by rw [List.append_nil, ← r.length]; exact F.len _ _ _ _ q
  have b1 := hb s1 us I1.kIn lv
  rw [List.append_nil] at b1
  exact ⟨I1.kIn, run_gw F hr hgd (hx σ) I1 b1 r q⟩
theorem pe_g0 (F : FnG Y.prog Y.w Y.K Y.mg Y.base k f fd ps sp) (hr : Room k Y.A) (hgd : Y.A.guards = some []) (hg : Gl Y x) (hm : Y.mg x = some (.ref f)) (hk : PySem.W.keepIn Y.K (.ref f) = true) (hb : Binds Y.K fd ps []) (hx : ∀ σ, PassesAt (L2.CX Y.prog Y.w) Y σ (E σ))
    (hdb : (x == ("__debug__" : Str)) = false) : PE Y (.Call (.Name x p) [] [] pos) (tCallS sp E tNil) := by
  refine ⟨fun pins s σ H Q I h => wpAny_Call_Name_kw (ld_glob I hg hm ?_ hdb)⟩
  have h : sp [] H Q (E σ) := h
  have lv : (([] : List Value) ++ []).length = ps.length := F.len _ _ _ _ h
  have b1 := hb s [] I.kIn lv
  exact PySem.W.callWith_K0 I.kIn hk (run_gw (us := []) F hr hgd (hx σ) I b1 .nil h)
/-- f(k = e, ..): keywords alone; g puts them in order -/
theorem pe_gk {g : List Value → List Value → List Value} {gV : List V → List V → List V} (F : FnG Y.prog Y.w Y.K Y.mg Y.base k f fd ps sp) (hr : Room k Y.A) (hgd : Y.A.guards = some []) (hg : Gl Y x) (hm : Y.mg x = some (.ref f)) (hk : PySem.W.keepIn Y.K (.ref f) = true)
    (hb : KBinds Y.K fd ps ks g gV) (hx : ∀ σ, PassesAt (L2.CX Y.prog Y.w) Y σ (E σ)) (hkw : PK Y kws tk) (hall : (backToKw pos (keywordEach kws Y.env)).all (·.1.isSome) = true) (hks : (backToKw pos (keywordEach kws Y.env)).filterMap (·.1) = ks)
    (hdb : (x == ("__debug__" : Str)) = false) (hpl : ((backTo pos (starEach [] Y.env)).any (·.1) || (backToKw pos (keywordEach kws Y.env)).any (·.1.isNone)) = false) :
    PE Y (.Call (.Name x p) [] kws pos) (fun σ H Q => tk σ H fun zs H1 => sp (gV [] zs) H1 Q (E σ)) := by
  refine ⟨fun pins s σ H Q I h => wpAny_Call_Name_kw (ld_glob I hg hm ?_ hdb)⟩
  refine PySem.W.callWith_KW0 (h₀ := Y.base) I.ok.mod.kin hk hall (thn (hkw.run pos pins s σ H _ I h) fun ws s1 hv => ?_) hpl
  obtain ⟨zs, H1, I1, r, q⟩ := hv
  refine ⟨I1.kIn, ?_⟩
  rw [hks]
  have r2 := hb.rel .nil r
  have lv : (g [] ws).length = ps.length := by rw [← r2.length]; exact F.len _ _ _ _ q
  exact run_gw F hr hgd (hx σ) I1 (hb.to s1 [] ws I1.kIn lv) r2 q
end

def Keeps (H H' F F' : Hp) : Prop := Same H H' ∧ Same F F' ∧ Same F' H' ∧ ∀ a o, F' a = some o → (F a).isSome = true ∨ H a = none
def spF (K : PySem.W.Frag) (mg : Str → Option Value) (n : Nat) (f : List Dt → Res Dt) : Sp := fun vs H Q E => vs.length = n ∧ ∃ F ds, Same F H ∧ RpA K F vs ds ∧ match f ds with
  | .ok d => ∀ F' H' x, Keeps H H' F F' → Rp K F' x d → Q x H'
  | .exc c fs => ∀ F' H' cls dd, Keeps H H' F F' → XR K mg F' c fs cls dd → E cls dd H'
  | .no => False
def outF : SO → Res Dt
  | .rt d _ => .ok d
  | .nx _ => .ok .none
  | .exc c fs _ => .exc c fs
  | _ => .no
def startS (N : List Str) (ds : List Dt) : SS := ds.map (fun d => some (SV.v d)) ++ List.replicate (N.length - ds.length) none
/-- the context of a def's body -/
abbrev fX (P : Program) (w : World) (K : PySem.W.Frag) (mg : Str → Option Value) (base : Heap) (N : List Str) (qual : Str) (sc : Scope) (f : Addr) (cdv : Value) (A : Around) (outer : List Env) (s : Shared) (H : Hp) (E : XK) : Unit → Cx :=
  fun _ => cxOf (L2.CX P w) P w K mg base N qual sc f cdv A outer s H E
abbrev WX0 (E : XK) : WX := fun cls dd _ H => E cls dd H
section
variable {P : Program} {w : World} {K : PySem.W.Frag} {mg : Str → Option Value} {base : Heap} {k : Nat} {f : Addr} {fd : FuncData} {N ps : List Str} {x qual : Str} {st : Stmt}
theorem VC.fn {sc : Scope} {cdv : Value} {A : Around} {outer : List Env} {s : Shared} {H : Hp} {E : XK} (nd : N.Nodup) (hr : Room k (A.deeper (envOfC qual sc s.heap.objs.size f cdv))) (hg : A.guards = some []) :
    VC (fX P w K mg base N qual sc f cdv A outer s H E) k P w K mg base (WX0 E) :=
  ⟨fun _ => rfl, fun _ => rfl, fun _ => rfl, fun _ => rfl, fun _ => rfl, fun _ => hr, fun _ => hg, fun _ => rfl, fun _ => nd, fun _ => takes_of rfl rfl rfl rfl, fun _ => passes_of rfl⟩
theorem startS_get {ds : List Dt} {i : Nat} {s : SV} (h : (startS N ds)[i]? = some (some s)) : ∃ d, ds[i]? = some d ∧ s = .v d := by
  unfold startS at h
  by_cases hi : i < ds.length
  · rw [List.getElem?_append_left (by simpa using hi), List.getElem?_map, List.getElem?_eq_getElem hi] at h
    cases h
    exact ⟨_, List.getElem?_eq_getElem hi, rfl⟩
  · rw [List.getElem?_append_right (by simpa using hi), List.getElem?_replicate] at h
    split at h <;> cases h
theorem start_get {vs : List V} {i : Nat} {v : V} (h : vs[i]? = some v) : (L2.start N vs)[i]? = some (some v) := by
  have hi : i < vs.length := (List.getElem?_eq_some_iff.mp h).1
  unfold L2.start
  rw [List.getElem?_append_left (by simpa using hi), List.getElem?_map, h]
  rfl
/-- what a callee sees as another one's -/
def out0 (F H : Hp) : Om := fun a => if F a = none ∧ H a ≠ none then some 1000000 else none
theorem hid_out0 {F H : Hp} (h : Same F H) : hid (out0 F H) H = F := by
  funext a
  unfold hid out0
  cases hF : F a with
  | some o => simp [h a o hF]
  | none =>
    cases hH : H a with
    | none => simp [hF, hH]
    | some o => simp [hF, hH]
theorem keeps_out0 {F H H' : Hp} {ω' : Om} (h : Same F H) (fr : Frm (out0 F H) H ω' H') : Keeps H H' F (hid ω' H') := by
  have fz := fr.fz
  rw [hid_out0 h] at fz
  have lab : ∀ a o, F a = none → H a = some o → out0 F H a = some 1000000 := fun a o h1 h2 => by
    unfold out0
    rw [if_pos ⟨h1, by rw [h2]; exact fun z => nomatch z⟩]
  refine ⟨fun a o e => ?_, fz, hid_le, fun a o e => ?_⟩
  · cases hF : F a with
    | some o' =>
      have := h a o' hF
      rw [e] at this
      cases this
      exact hid_le _ _ (fz a o hF)
    | none =>
      obtain ⟨_, q⟩ := fr.tp a 1000000 (by decide) (lab a o hF e)
      rw [q]
      exact e
  · cases hF : F a with
    | some o' => exact .inl rfl
    | none =>
      cases hH : H a with
      | none => exact .inr rfl
      | some o' =>
        obtain ⟨q, _⟩ := fr.tp a 1000000 (by decide) (lab a o' hF hH)
        unfold hid at e
        rw [q] at e
        cases e
/-- THE RULE for a def upon data -/
theorem fn_pure {m : SS → SO} (F : Fun K x qual st f fd) (S : FnScope N ps (defScope st)) (hN : N.length ≤ 1000)
    (body : ∀ (cdv : Value) (A : Around) (outer : List Env) (s : Shared) (H : Hp) (E : XK), VC (fX P w K mg base N qual (defScope st) f cdv A outer s H E) k P w K mg base (WX0 E) → VSs (fX P w K mg base N qual (defScope st) f cdv A outer s H E) K mg (WX0 E) (defBody st) m) :
    FnG P w K mg base (k + 1) f fd ps (spF K mg ps.length fun ds => outF (m (startS N ds))) := by
  refine FnG.of F S (fun vs H Q E z => z.1) fun cdv A outer s H vs Q E hr hg hsp => ?_
  obtain ⟨hl, F0, ds, hF, rp, hq⟩ := hsp
  dsimp only at hq
  obtain ⟨t, t1, t2⟩ := (body cdv A outer s H E (VC.fn S.nd hr hg)).ex
  refine ⟨t, t1 (), t2 (out0 F0 H) (startS N ds) (L2.start N vs) H _ ?_ ?_⟩
  · have hpl : ps.length ≤ N.length := by
      have := congrArg List.length S.pre
      rw [List.length_take] at this
      omega
    refine ⟨?_, ?_, fun a j ha => ?_, fun i sv hi => ?_⟩
    · unfold startS L2.start
      simp only [List.length_append, List.length_map, List.length_replicate, rp.length]
    · unfold L2.start
      simp only [List.length_append, List.length_map, List.length_replicate]
      omega
    · unfold out0 at ha
      split at ha
      · rename_i hc
        exact Option.isSome_iff_ne_none.mpr hc.2
      · cases ha
    · obtain ⟨d, h1, rfl⟩ := startS_get hi
      obtain ⟨v, h2, h3⟩ := rp.get h1
      refine ⟨v, start_get h2, ?_⟩
      show Rp K (hid (out0 F0 H) H) v d
      rw [hid_out0 hF]
      exact h3
  · cases hm : m (startS N ds) with
    | rt d ss' =>
      rw [hm] at hq
      exact fun ω' σ' H' v _ fr rv => hq _ H' v (keeps_out0 hF fr) rv
    | nx ss' =>
      rw [hm] at hq
      exact fun ω' σ' H' _ fr => hq _ H' .non (keeps_out0 hF fr) .non
    | exc c fs ss' =>
      rw [hm] at hq
      exact fun ω' σ' H' cls dd _ fr xr => hq _ H' cls dd (keeps_out0 hF fr) xr
    | bk ss' => rw [hm] at hq; exact hq.elim
    | ct ss' => rw [hm] at hq; exact hq.elim
    | no => rw [hm] at hq; exact hq.elim
/-- the promise in better words -/
theorem spF_imp {n : Nat} {g h : List Dt → Res Dt} (e : ∀ ds, ds.length = n → g ds = h ds ∨ h ds = .no) : ∀ vs H Q E, spF K mg n h vs H Q E → spF K mg n g vs H Q E := fun vs H Q E ⟨hl, F, ds, hF, rp, q⟩ => by
  refine ⟨hl, F, ds, hF, rp, ?_⟩
  rcases e ds (by rw [← rp.length]; exact hl) with z | z
  · rw [z]; exact q
  · rw [z] at q; exact q.elim
end
section
variable {ι : Type} {X : ι → Cx} {k : Nat} {P : Program} {w : World} {K : PySem.W.Frag} {mg : Str → Option Value} {base : Heap} {W : WX} {e a b c : Expr} {es : List Expr} {pos p : Pos} {j n : Nat} {f : Addr} {fd : FuncData} {ps ks : List Str} {x : Str}
theorem RS.behind {ω : Om} {ss : SS} {σ : St} {H H' F' : Hp} (rs : RS K ω ss σ H) (kp : Keeps H H' (hid ω H) F') : RS K ω ss σ H' ∧ Frm ω H ω H' ∧ Same F' (hid ω H') := by
  refine ⟨rs.grow kp.1, .grow kp.1 rs.own, fun a o h => ?_⟩
  have z : ω a = none := by
    rcases kp.2.2.2 a o h with h1 | h1
    · obtain ⟨o', h2⟩ := Option.isSome_iff_exists.mp h1
      exact (hid_some h2).1
    · exact rs.free h1
  rw [hid_of z]
  exact kp.2.2.1 a o h
def mRes (g : List Dt → Res Dt) (m : SS → EO (List Dt)) : SS → EO Dt := fun ss => (m ss).bind fun ds ss => match g ds with
  | .ok d => .ok d ss
  | .exc c fs => .exc c fs ss
  | .no => .no
theorem res_go {g : List Dt → Res Dt} {ω : Om} {ss : SS} {σ : St} {H : Hp} {vs : List V} {ds : List Dt} {Q : VK} (rs : RS K ω ss σ H) (hl : vs.length = n) (rp : RpA K (hid ω H) vs ds)
    (q : EQg (RpE K) K mg W ω σ H (match g ds with
      | .ok d => .ok d ss
      | .exc c fs => .exc c fs ss
      | .no => .no) Q) : spF K mg n g vs H Q (WE W σ) := by
  refine ⟨hl, _, ds, hid_le, rp, ?_⟩
  cases hg : g ds with
  | ok d =>
    rw [hg] at q
    intro F' H' v kp rv
    obtain ⟨r1, r2, r3⟩ := rs.behind kp
    exact q ω H' v r1 r2 (Rp.mono r3 _ _ rv)
  | exc c fs =>
    rw [hg] at q
    intro F' H' cls dd kp xr
    obtain ⟨r1, r2, r3⟩ := rs.behind kp
    exact q ω H' cls dd r1 r2 (xr.mono r3)
  | no => rw [hg] at q; exact q.elim
theorem v_call {g : List Dt → Res Dt} {m : SS → EO (List Dt)} (C : VC X k P w K mg base W) (F : FnG P w K mg base j f fd ps (spF K mg n g)) (hj : j ≤ k) (hn : (e :: es).length = n) (hg : ∀ i, Gl (X i) x) (hm : mg x = some (.ref f)) (hk : PySem.W.keepIn K (.ref f) = true) (hb : Binds K fd ps []) (ha : VA X K mg W (e :: es) m)
    (hdb : (x == ("__debug__" : Str)) = false := by decide) (he : ∀ i, starEach (e :: es) (X i).env = (false, eval e (X i).env) :: starEach es (X i).env := by intro _; rfl) (hpl : ∀ i, (backTo pos (starEach es (X i).env)).any (·.1) = false := by intro _; rfl)
    (hlen : ∀ ss ds ss', m ss = .ok ds ss' → ds.length = n) : VE X K mg W (.Call (.Name x p) (e :: es) [] pos) (mRes g m) := by
  obtain ⟨t, a1, a2⟩ := ha.ex
  refine ⟨tCallS (spF K mg n g) (WE W) t, fun i => ?_, fun ω ss σ H Q rs q => a2 ω ss σ H _ rs ?_⟩
  · refine pe_g (k := j) (fd := fd) (ps := ps) (f := f) (by rw [C.eP i, C.ew i, C.eK i, C.em i, C.eb i]; exact F) ((C.rm i).mono hj) (C.gd i) (hg i) (by rw [C.em i]; exact hm) (by rw [C.eK i]; exact hk) (by rw [C.eK i]; exact hb) (fun σ => passAt (C.tk i) σ) (a1 i) hdb (he i) (hpl i)
  · exact seqE q fun ds ss1 ω1 H1 vs em rs1 fr1 rp1 q1 => res_go rs1 (by rw [rp1.length]; exact hlen _ _ _ em) rp1 q1
theorem mCons_len {m : SS → EO Dt} {n : SS → EO (List Dt)} {l : Nat} (h : ∀ ss ds ss', n ss = .ok ds ss' → ds.length = l) : ∀ ss ds ss', mCons m n ss = .ok ds ss' → ds.length = l + 1 := fun ss ds ss' e => by
  unfold mCons at e
  cases hm : m ss with
  | no => rw [hm] at e; cases e
  | exc c fs s' => rw [hm] at e; cases e
  | ok d s1 =>
    rw [hm] at e
    have e : ((n s1).bind fun ds ss => EO.ok (d :: ds) ss) = .ok ds ss' := e
    cases hn : n s1 with
    | no => rw [hn] at e; cases e
    | exc c fs s' => rw [hn] at e; cases e
    | ok ds' s2 =>
      rw [hn] at e
      cases e
      rw [List.length_cons, h _ _ _ hn]
theorem mNil_len : ∀ ss ds ss', mNil ss = .ok ds ss' → ds.length = 0 := fun ss ds ss' e => by cases e; rfl
/-- .. by keywords alone: the values come in the order that g gives them -/
def mResK (pm : List Dt → List Dt) (g : List Dt → Res Dt) (m : SS → EO (List Dt)) : SS → EO Dt := mRes (fun ds => g (pm ds)) m
structure VK' {ι : Type} (X : ι → Cx) (K : PySem.W.Frag) (mg : Str → Option Value) (W : WX) (kws : List Keyword) (m : SS → EO (List Dt)) : Prop where
  ex : ∃ t : TA, (∀ i, PK (X i) kws t) ∧ ∀ ω ss σ H Q, RS K ω ss σ H → EQg (RpL K) K mg W ω σ H (m ss) Q → t σ H Q
theorem k_nil : VK' X K mg W [] mNil := ⟨_, fun _ => pk_nil, fun ω ss σ H Q rs h => h ω H [] rs (.refl _ _) .nil⟩
theorem k_cons {kws : List Keyword} {nm : Option Str} {kpos : Pos} {m : SS → EO Dt} {n : SS → EO (List Dt)} (he : VE X K mg W e m) (hs : VK' X K mg W kws n) : VK' X K mg W (⟨nm, e, kpos⟩ :: kws) (mCons m n) := by
  obtain ⟨t, h1, h2⟩ := he.ex
  obtain ⟨u, g1, g2⟩ := hs.ex
  refine ⟨tCons t u, fun i => pk_cons (h1 i) (g1 i), fun ω ss σ H Q rs q => h2 ω ss σ H _ rs ?_⟩
  refine seqE q fun d ss1 ω1 H1 x _ rs1 fr1 rp1 q1 => g2 ω1 ss1 σ H1 _ rs1 ?_
  refine seqE q1 fun ds ss2 ω2 H2 xs _ rs2 fr2 rp2 q2 => ?_
  exact q2 ω2 H2 _ rs2 (.refl _ _) (.cons (Rp.mono fr2.fz _ _ rp1) rp2)
theorem v_callK {kws : List Keyword} {g : List Dt → Res Dt} {m : SS → EO (List Dt)} {gg : List Value → List Value → List Value} {gV : List V → List V → List V} {pm : List Dt → List Dt} (C : VC X k P w K mg base W) (F : FnG P w K mg base j f fd ps (spF K mg n g)) (hj : j ≤ k) (hg : ∀ i, Gl (X i) x) (hm : mg x = some (.ref f)) (hk : PySem.W.keepIn K (.ref f) = true)
    (hb : KBinds K fd ps ks gg gV) (ha : VK' X K mg W kws m) (hall : ∀ i, (backToKw pos (keywordEach kws (X i).env)).all (·.1.isSome) = true := by intro _; rfl) (hks : ∀ i, (backToKw pos (keywordEach kws (X i).env)).filterMap (·.1) = ks := by intro _; rfl)
    (hpm : ∀ F vs ds, RpA K F vs ds → ds.length = ks.length → (gV [] vs).length = n ∧ RpA K F (gV [] vs) (pm ds)) (hlen : ∀ ss ds ss', m ss = .ok ds ss' → ds.length = ks.length)
    (hdb : (x == ("__debug__" : Str)) = false := by decide) (hpl : ∀ i, ((backTo pos (starEach [] (X i).env)).any (·.1) || (backToKw pos (keywordEach kws (X i).env)).any (·.1.isNone)) = false := by intro _; rfl) :
    VE X K mg W (.Call (.Name x p) [] kws pos) (mResK pm g m) := by
  obtain ⟨t, a1, a2⟩ := ha.ex
  refine ⟨fun σ H Q => t σ H fun zs H1 => spF K mg n g (gV [] zs) H1 Q (WE W σ), fun i => ?_, fun ω ss σ H Q rs q => a2 ω ss σ H _ rs ?_⟩
  · exact pe_gk (k := j) (fd := fd) (ps := ps) (f := f) (by rw [C.eP i, C.ew i, C.eK i, C.em i, C.eb i]; exact F) ((C.rm i).mono hj) (C.gd i) (hg i) (by rw [C.em i]; exact hm) (by rw [C.eK i]; exact hk) (by rw [C.eK i]; exact hb) (fun σ => passAt (C.tk i) σ) (a1 i) (hall i) (hks i) hdb (hpl i)
  · exact seqE q fun ds ss1 ω1 H1 vs em rs1 fr1 rp1 q1 => by
      obtain ⟨l1, r1⟩ := hpm _ _ _ rp1 (hlen _ _ _ em)
      exact res_go rs1 l1 r1 q1
end

abbrev Dk : Type := List Int × Int × Int
def spD (K : PySem.W.Frag) (n : Nat) (f : Dk → List Dt → Res (Dt × Dk)) : Sp := fun vs H Q _ => ∃ (F : Hp) (a a2 : Addr) (q : List Int) (b c : Int) (vr : List V) (ds : List Dt), vs = .ref a :: vr ∧ vr.length + 1 = n ∧ Same F H ∧ F a = none ∧ F a2 = none ∧
  H a = some (.lst [.ref a2, .int b, .int c]) ∧ H a2 = some (.lst (q.map V.int)) ∧ RpA K F vr ds ∧ match f (q, b, c) ds with
  | .ok (d, (q', b', c')) => ∀ (F' H' : Hp) (x : V) (a3 : Addr), Same F F' → Same F' H' → F' a = none → F' a3 = none → (∀ y o, H y = some o → y ≠ a → y ≠ a2 → H' y = some o ∧ (F y = none → F' y = none ∧ y ≠ a3)) → (∀ y, H' y = none → H y = none) →
      H' a = some (.lst [.ref a3, .int b', .int c']) → H' a3 = some (.lst (q'.map V.int)) → Rp K F' x d → Q x H'
  | _ => False
def startD (a : Addr) (N : List Str) (dk : Dk) (ds : List Dt) : SS := some (SV.dk a dk.1 dk.2.1 dk.2.2) :: (ds.map (fun d => some (SV.v d)) ++ List.replicate (N.length - (ds.length + 1)) none)
def dkAt (a : Addr) (ss : SS) : Option Dk := match ss[0]? with
  | some (some (SV.dk a' q b c)) => if a' = a then some (q, b, c) else none
  | _ => none
def outD (a : Addr) : SO → Res (Dt × Dk)
  | .rt d ss => match dkAt a ss with
    | some dk => .ok (d, dk)
    | none => .no
  | .nx ss => match dkAt a ss with
    | some dk => .ok (.none, dk)
    | none => .no
  | _ => .no
section
variable {P : Program} {w : World} {K : PySem.W.Frag} {mg : Str → Option Value} {base : Heap} {k : Nat} {f : Addr} {fd : FuncData} {N ps : List Str} {x qual : Str} {st : Stmt}
theorem dkAt_at {a : Addr} {ss : SS} {dk : Dk} (h : dkAt a ss = some dk) : ss[0]? = some (some (.dk a dk.1 dk.2.1 dk.2.2)) := by
  unfold dkAt at h
  split at h
  · split at h
    · rename_i e
      cases h
      subst e
      assumption
    · cases h
  · cases h
def om0 (F H : Hp) (a a2 : Addr) : Om := fun y => if y = a ∨ y = a2 then some 0 else if F y = none ∧ H y ≠ none then some 1000000 else none
theorem hid_om0 {F H : Hp} {a a2 : Addr} (h : Same F H) (ha : F a = none) (ha2 : F a2 = none) : hid (om0 F H a a2) H = F := by
  funext y
  unfold hid om0
  by_cases hy : y = a ∨ y = a2
  · rw [if_pos hy]
    rcases hy with rfl | rfl
    · exact ha.symm
    · exact ha2.symm
  · rw [if_neg hy]
    cases hF : F y with
    | some o => simp [h y o hF]
    | none =>
      cases hH : H y with
      | none => simp [hF, hH]
      | some o => simp [hF, hH]
/-- THE RULE for a def that draws -/
theorem fn_deck {m : SS → SO} {g : Dk → List Dt → Res (Dt × Dk)} (F : Fun K x qual st f fd) (S : FnScope N ps (defScope st)) (hN : N.length ≤ 1000)
    (body : ∀ (cdv : Value) (A : Around) (outer : List Env) (s : Shared) (H : Hp) (E : XK), VC (fX P w K mg base N qual (defScope st) f cdv A outer s H E) k P w K mg base (WX0 E) → VSs (fX P w K mg base N qual (defScope st) f cdv A outer s H E) K mg (WX0 E) (defBody st) m)
    (hg : ∀ a dk ds, ds.length + 1 = ps.length → outD a (m (startD a N dk ds)) = g dk ds ∨ g dk ds = .no) :
    FnG P w K mg base (k + 1) f fd ps (spD K ps.length g) := by
  refine FnG.of F S (fun vs H Q E z => ?_) fun cdv A outer s H vs Q E hr hgd hsp => ?_
  · obtain ⟨_, _, _, _, _, _, _, _, rfl, h, _⟩ := z
    exact h
  · obtain ⟨F0, a, a2, q, b, c, vr, ds, rfl, hl, hF, ha, ha2, hHa, hHa2, rp, hq⟩ := hsp
    obtain ⟨t, t1, t2⟩ := (body cdv A outer s H E (VC.fn S.nd hr hgd)).ex
    have lds : ds.length + 1 = ps.length := by rw [← rp.length]; exact hl
    have hpl : ps.length ≤ N.length := by
      have := congrArg List.length S.pre
      rw [List.length_take] at this
      omega
    have hid0 := hid_om0 hF ha ha2
    have la : om0 F0 H a a2 a = some 0 := if_pos (.inl rfl)
    have la2 : om0 F0 H a a2 a2 = some 0 := if_pos (.inr rfl)
    refine ⟨t, t1 (), t2 (om0 F0 H a a2) (startD a N (q, b, c) ds) (L2.start N (.ref a :: vr)) H _ ⟨?_, ?_, fun y j hy => ?_, fun i sv hi => ?_⟩ ?_⟩
    · unfold startD L2.start
      simp only [List.length_append, List.length_map, List.length_replicate, List.length_cons, rp.length]
      omega
    · unfold L2.start
      simp only [List.length_append, List.length_map, List.length_replicate, List.length_cons]
      omega
    · unfold om0 at hy
      split at hy
      · rename_i hc
        rcases hc with rfl | rfl
        · rw [hHa]; rfl
        · rw [hHa2]; rfl
      · split at hy
        · rename_i hc
          exact Option.isSome_iff_ne_none.mpr hc.2
        · cases hy
    · cases i with
      | zero =>
        have e : SV.dk a q b c = sv := by
          have z : some (some (SV.dk a q b c)) = some (some sv) := hi
          cases z
          rfl
        subst e
        exact ⟨.ref a, rfl, rfl, la, a2, la2, hHa, hHa2⟩
      | succ i =>
        have hi : (ds.map (fun d => some (SV.v d)) ++ List.replicate (N.length - (ds.length + 1)) none)[i]? = some (some sv) := hi
        by_cases hlt : i < ds.length
        · rw [List.getElem?_append_left (by simpa using hlt), List.getElem?_map, List.getElem?_eq_getElem hlt] at hi
          cases hi
          obtain ⟨v, h2, h3⟩ := rp.get (List.getElem?_eq_getElem hlt)
          refine ⟨v, start_get (show (V.ref a :: vr)[i + 1]? = some v from h2), ?_⟩
          show Rp K (hid (om0 F0 H a a2) H) v _
          rw [hid0]
          exact h3
        · rw [List.getElem?_append_right (by simpa using hlt), List.getElem?_replicate] at hi
          split at hi <;> cases hi
    · have fin : ∀ {d : Dt} {ss' : SS} {q' : List Int} {b' c' : Int} {ω' : Om} {σ' : St} {H' : Hp} {v : V}, dkAt a ss' = some (q', b', c') → g (q, b, c) ds = .ok (d, (q', b', c')) → RS K ω' ss' σ' H' → Frm (om0 F0 H a a2) H ω' H' → Rp K (hid ω' H') v d → Q v H' := by
        intro d ss' q' b' c' ω' σ' H' v h1 h2 rs fr rv
        rw [h2] at hq
        obtain ⟨x0, _, rfl, e1, a3, e2, e3, e4⟩ := rs.sl 0 _ (dkAt_at h1)
        have fz := fr.fz
        rw [hid0] at fz
        refine hq (hid ω' H') H' v a3 fz hid_le (by unfold hid; rw [e1]) (by unfold hid; rw [e2]) (fun y o hy n1 n2 => ?_) fr.tr e3 e4 rv
        cases hFy : F0 y with
        | some o' =>
          have := hF y o' hFy
          rw [hy] at this
          cases this
          exact ⟨hid_le _ _ (fz y o hFy), fun z => nomatch z⟩
        | none =>
          have lab : om0 F0 H a a2 y = some 1000000 := by
            unfold om0
            rw [if_neg (fun z => z.elim n1 n2), if_pos ⟨hFy, by rw [hy]; exact fun z => nomatch z⟩]
          obtain ⟨g1, g2⟩ := fr.tp y 1000000 (by decide) lab
          refine ⟨g2.trans hy, fun _ => ⟨by unfold hid; rw [g1], fun z => ?_⟩⟩
          rw [z, e2] at g1
          cases g1
      have hg := hg a (q, b, c) ds lds
      cases hm : m (startD a N (q, b, c) ds) with
      | rt d ss' =>
        rw [hm] at hg
        intro ω' σ' H' v rs fr rv
        simp only [outD] at hg
        split at hg
        · rename_i dk h1
          rcases hg with hg | hg
          · exact fin h1 hg.symm rs fr rv
          · rw [hg] at hq; exact hq.elim
        · have hg : g (q, b, c) ds = .no := hg.elim (fun z => z.symm) id
          rw [hg] at hq
          exact hq.elim
      | nx ss' =>
        rw [hm] at hg
        intro ω' σ' H' rs fr
        simp only [outD] at hg
        split at hg
        · rename_i dk h1
          rcases hg with hg | hg
          · exact fin h1 hg.symm rs fr .non
          · rw [hg] at hq; exact hq.elim
        · have hg : g (q, b, c) ds = .no := hg.elim (fun z => z.symm) id
          rw [hg] at hq
          exact hq.elim
      | exc cc fs ss' =>
        rw [hm] at hg
        have hg : g (q, b, c) ds = .no := hg.elim (fun z => z.symm) id
        rw [hg] at hq
        exact hq.elim
      | bk ss' =>
        rw [hm] at hg
        have hg : g (q, b, c) ds = .no := hg.elim (fun z => z.symm) id
        rw [hg] at hq
        exact hq.elim
      | ct ss' =>
        rw [hm] at hg
        have hg : g (q, b, c) ds = .no := hg.elim (fun z => z.symm) id
        rw [hg] at hq
        exact hq.elim
      | no =>
        rw [hm] at hg
        have hg : g (q, b, c) ds = .no := hg.elim (fun z => z.symm) id
        rw [hg] at hq
        exact hq.elim
end
section
variable {ι : Type} {X : ι → Cx} {k : Nat} {P : Program} {w : World} {K : PySem.W.Frag} {mg : Str → Option Value} {base : Heap} {W : WX} {e a b c : Expr} {es : List Expr} {pos p : Pos} {j n : Nat} {f : Addr} {fd : FuncData} {ps ks : List Str} {x : Str}
def mDraw (i : Nat) (g : Dk → List Dt → Res (Dt × Dk)) (m : SS → EO (List Dt)) : SS → EO Dt := fun ss => match ss[i]? with
  | some (some (.dk _ _ _ _)) => (m ss).bind fun ds ss1 => match ss1[i]? with
    | some (some (.dk a q b c)) => match g (q, b, c) ds with
      | .ok (d, (q', b', c')) => .ok d (ss1.set i (some (.dk a q' b' c')))
      | _ => .no
    | _ => .no
  | _ => .no
theorem deck_go {i : Nat} {g : Dk → List Dt → Res (Dt × Dk)} {ω : Om} {ss : SS} {σ : St} {H : Hp} {da : Addr} {q : List Int} {b c : Int} {vs : List V} {ds : List Dt} {d : Dt} {q' : List Int} {b' c' : Int} {Q : VK} {E : XK} (rs : RS K ω ss σ H) (hi : ss[i]? = some (some (.dk da q b c))) (hl : vs.length + 1 = n) (rp : RpA K (hid ω H) vs ds)
    (hg : g (q, b, c) ds = .ok (d, (q', b', c'))) (hq : EQg (RpE K) K mg W ω σ H (.ok d (ss.set i (some (.dk da q' b' c')))) Q) : spD K n g (.ref da :: vs) H Q E := by
  obtain ⟨x0, hx, rfl, e1, a2, e2, e3, e4⟩ := rs.sl i _ hi
  refine ⟨hid ω H, da, a2, q, b, c, vs, ds, rfl, hl, hid_le, by unfold hid; rw [e1], by unfold hid; rw [e2], e3, e4, rp, ?_⟩
  rw [hg]
  intro F' H' v a3 sF sH z1 z3 kp tr w1 w2 rv
  have hil : i < σ.length := (List.getElem?_eq_some_iff.mp hx).1
  have hfew := rs.few
  obtain ⟨ω', ew⟩ : ∃ ω' : Om, ω' = fun y => if y = da ∨ y = a3 then some i else if y = a2 then none else ω y := ⟨_, rfl⟩
  have f1 : ω' da = some i := by rw [ew]; exact if_pos (.inl rfl)
  have f3 : ω' a3 = some i := by rw [ew]; exact if_pos (.inr rfl)
  have fo : ∀ y, y ≠ da → y ≠ a3 → y ≠ a2 → ω' y = ω y := fun y n1 n3 n2 => by
    rw [ew]
    show (if y = da ∨ y = a3 then some i else if y = a2 then none else ω y) = ω y
    rw [if_neg (fun z => z.elim n1 n3), if_neg n2]
  have f2 : ∀ y, y ≠ da → y ≠ a3 → y = a2 → ω' y = none := fun y n1 n3 n2 => by
    rw [ew]
    show (if y = da ∨ y = a3 then some i else if y = a2 then none else ω y) = none
    rw [if_neg (fun z => z.elim n1 n3), if_pos n2]
  have lab : ∀ y k', k' ≠ i → ω y = some k' → y ≠ da ∧ y ≠ a2 ∧ y ≠ a3 ∧ H' y = H y := fun y k' hk hy => by
    have n1 : y ≠ da := fun z => by rw [z, e1] at hy; exact hk (Option.some.inj hy).symm
    have n2 : y ≠ a2 := fun z => by rw [z, e2] at hy; exact hk (Option.some.inj hy).symm
    obtain ⟨o, ho⟩ := Option.isSome_iff_exists.mp (rs.own y k' hy)
    obtain ⟨g1, g2⟩ := kp y o ho n1 n2
    have hF : hid ω H y = none := by unfold hid; rw [hy]
    exact ⟨n1, n2, (g2 hF).2, g1.trans ho.symm⟩
  have fz : Same (hid ω H) (hid ω' H') := fun y o hy => by
    obtain ⟨g1, g2⟩ := hid_some hy
    have n1 : y ≠ da := fun z => by rw [z, e1] at g1; cases g1
    have n2 : y ≠ a2 := fun z => by rw [z, e2] at g1; cases g1
    have n3 : y ≠ a3 := fun z => by
      have := sF y o hy
      rw [z, z3] at this
      cases this
    rw [hid_of ((fo y n1 n3 n2).trans g1)]
    exact sH y o (sF y o hy)
  have fz' : Same F' (hid ω' H') := fun y o hy => by
    have n1 : y ≠ da := fun z => by rw [z, z1] at hy; cases hy
    have n3 : y ≠ a3 := fun z => by rw [z, z3] at hy; cases hy
    by_cases n2 : y = a2
    · rw [hid_of (f2 y n1 n3 n2)]
      exact sH y o hy
    · have zω : ω y = none := by
        cases hω : ω y with
        | none => rfl
        | some k' =>
          obtain ⟨o', ho'⟩ := Option.isSome_iff_exists.mp (rs.own y k' hω)
          have hF : hid ω H y = none := by unfold hid; rw [hω]
          have := ((kp y o' ho' n1 n2).2 hF).1
          rw [this] at hy
          cases hy
      rw [hid_of ((fo y n1 n3 n2).trans zω)]
      exact sH y o hy
  refine hq ω' H' v ⟨by rw [List.length_set]; exact rs.len, rs.few, fun y k' hy => ?_, fun l s hs => ?_⟩ ⟨fz, fun y k' hk hy => ?_, tr⟩ (Rp.mono fz' _ _ rv)
  · by_cases n1 : y = da
    · rw [n1, w1]; rfl
    · by_cases n3 : y = a3
      · rw [n3, w2]; rfl
      · by_cases n2 : y = a2
        · rw [f2 y n1 n3 n2] at hy; cases hy
        · rw [fo y n1 n3 n2] at hy
          cases hH : H' y with
          | some o => rfl
          | none =>
            have := rs.own y k' hy
            rw [tr y hH] at this
            cases this
  · by_cases hli : l = i
    · subst hli
      rw [List.getElem?_set_self (by rw [rs.len]; exact hil)] at hs
      cases hs
      exact ⟨_, hx, rfl, f1, a3, f3, w1, w2⟩
    · rw [List.getElem?_set_ne (Ne.symm hli)] at hs
      obtain ⟨y, q1, q2⟩ := rs.sl l s hs
      refine ⟨y, q1, q2.keep fz fun z hz => ?_⟩
      obtain ⟨n1, n2, n3, n4⟩ := lab z l hli hz
      exact ⟨(fo z n1 n3 n2).trans hz, n4⟩
  · obtain ⟨n1, n2, n3, n4⟩ := lab y k' (by omega) hy
    exact ⟨(fo y n1 n3 n2).trans hy, n4⟩
/-- f(deck, ..) -/
theorem v_draw (i : Nat) {y : Str} {py : Pos} {g : Dk → List Dt → Res (Dt × Dk)} {m : SS → EO (List Dt)} (C : VC X k P w K mg base W) (F : FnG P w K mg base j f fd ps (spD K n g)) (hj : j ≤ k) (hg : ∀ i, Gl (X i) x) (hm : mg x = some (.ref f)) (hk : PySem.W.keepIn K (.ref f) = true) (hb : Binds K fd ps [])
    (hN : ∀ l, (X l).N[i]? = some y) (hv : ∀ l, Vis (X l).env.scope y) (ha : VA X K mg W es m) (hlen : ∀ ss ds ss', m ss = .ok ds ss' → ds.length + 1 = n)
    (hd : (y == ("__debug__" : Str)) = false := by decide) (hcd : (y == ("__classdict__" : Str)) = false := by decide) (hdb : (x == ("__debug__" : Str)) = false := by decide) (he : ∀ l, starEach (.Name y py :: es) (X l).env = (false, eval (.Name y py) (X l).env) :: starEach es (X l).env := by intro _; rfl)
    (hpl : ∀ l, (backTo pos (starEach es (X l).env)).any (·.1) = false := by intro _; rfl) : VE X K mg W (.Call (.Name x p) (.Name y py :: es) [] pos) (mDraw i g m) := by
  obtain ⟨t, a1, a2⟩ := ha.ex
  refine ⟨tCallS (spD K n g) (WE W) (tCons (tVar i) t), fun l => ?_, fun ω ss σ H Q rs q => ?_⟩
  · exact pe_g (k := j) (fd := fd) (ps := ps) (f := f) (by rw [C.eP l, C.ew l, C.eK l, C.em l, C.eb l]; exact F) ((C.rm l).mono hj) (C.gd l) (hg l) (by rw [C.em l]; exact hm) (by rw [C.eK l]; exact hk) (by rw [C.eK l]; exact hb) (fun σ => passAt (C.tk l) σ) (pa_cons (pe_var (hN l) (hv l) hd hcd) (a1 l) (he l)) hdb (he l) (hpl l)
  · unfold mDraw at q
    split at q
    · rename_i da q0 b0 c0 hs0
      obtain ⟨x0, hx0, rfl, _⟩ := rs.sl i _ hs0
      refine ⟨_, hx0, a2 ω ss σ H _ rs (seqE q fun ds ss1 ω1 H1 vs em rs1 fr1 rp1 q1 => ?_)⟩
      split at q1
      · rename_i da1 q2 b2 c2 hs1
        obtain ⟨x1, hx1, rfl, _⟩ := rs1.sl i _ hs1
        rw [hx0] at hx1
        cases hx1
        split at q1
        · rename_i d q' b' c' hgg
          exact deck_go (mg := mg) (W := W) rs1 hs1 (by rw [rp1.length]; exact hlen _ _ _ em) rp1 hgg q1
        · exact q1.elim
      · exact q1.elim
    · exact q.elim
end
end VL

namespace VL
open PySem PySem.Spec L2
open PyProof.Rows hiding St

inductive BorA (K : PySem.W.Frag) (ω : Om) (H : Hp) : List V → List Dt → Prop
  | nil : BorA K ω H [] []
  | cons {x : V} {xs : List V} {d : Dt} {ds : List Dt} : Bor K ω H x d → BorA K ω H xs ds → BorA K ω H (x :: xs) (d :: ds)
def opsGet (ss : SS) : List Opd → Option (List Dt)
  | [] => some []
  | o :: os => match o.get ss, opsGet ss os with
    | some d, some ds => some (d :: ds)
    | _, _ => none
theorem OpdA.bor {K : PySem.W.Frag} {ω : Om} {ss : SS} {σ : St} {H : Hp} (rs : RS K ω ss σ H) : ∀ {os : List Opd} {xs : List V} {ds : List Dt}, OpdA K σ ω H xs os → opsGet ss os = some ds → BorA K ω H xs ds
  | [], _, _, h, e => by
    cases h
    cases e
    exact .nil
  | o :: os, _, _, h, e => by
    cases h with
    | cons h1 h2 =>
      unfold opsGet at e
      split at e
      · rename_i d ds e1 e2
        cases e
        exact .cons (Opd.bor rs h1 e1) (OpdA.bor rs h2 e2)
      · cases e
/-- what a built-in function gives: data -/
structure BuS {ι : Type} (X : ι → Cx) (K : PySem.W.Frag) (u : Value) (f : List Dt → Option Dt) : Prop where
  ex : ∃ r : List V → Hp → VK → Prop, (∀ i, CallR (X i) u r) ∧ ∀ ω ss σ H xs ds z (Q : VK), RS K ω ss σ H → BorA K ω H xs ds → f ds = some z → (∀ H' v, Same H H' → Rp K (hid ω H') v z → Q v H') → r xs H Q
/-- .. a new list -/
structure OuS {ι : Type} (X : ι → Cx) (K : PySem.W.Frag) (u : Value) (f : List Dt → Option (List Dt)) : Prop where
  ex : ∃ r : List V → Hp → VK → Prop, (∀ i, CallR (X i) u r) ∧ ∀ ω H xs ds zs (Q : VK), BorA K ω H xs ds → f ds = some zs → (∀ p ys, H p = none → RpA K (hid ω H) ys zs → Q (.ref p) (upd H p (.lst ys))) → r xs H Q
def alt1 {α β : Type} (f g : α → Option β) : α → Option β := fun x => match f x with
  | some z => some z
  | none => g x
section
variable {ι : Type} {X : ι → Cx} {k : Nat} {P : Program} {w : World} {K : PySem.W.Frag} {mg : Str → Option Value} {base : Heap} {W : WX} {e a b c : Expr} {es : List Expr} {pos p : Pos} {x : Str}
theorem BuS.or {u : Value} {f g : List Dt → Option Dt} (h1 : BuS X K u f) (h2 : BuS X K u g) : BuS X K u (alt1 f g) := by
  obtain ⟨r, a1, a2⟩ := h1.ex
  obtain ⟨v, b1, b2⟩ := h2.ex
  refine ⟨_, fun i => (a1 i).or (b1 i), fun ω ss σ H xs ds z Q rs bx hf q => ?_⟩
  unfold alt1 at hf
  cases hz : f ds with
  | some z' =>
    rw [hz] at hf
    cases hf
    exact .inl (a2 ω ss σ H xs ds _ Q rs bx hz q)
  | none =>
    rw [hz] at hf
    exact .inr (b2 ω ss σ H xs ds z Q rs bx hf q)
def mBu (f : List Dt → Option Dt) (m : SS → EO (List Opd)) : SS → EO Dt := fun ss => (m ss).bind fun os ss => .lift ((opsGet ss os).bind f) ss
theorem bu_go {u : Value} {f : List Dt → Option Dt} {m : SS → EO (List Opd)} (h : BuS X K u f) (ha : VBs X K mg W (e :: es) m) : ∃ (r : List V → Hp → VK → Prop) (t : TA), (∀ i, CallR (X i) u r) ∧ (∀ i, PA (X i) (e :: es) t) ∧ ∀ ω ss σ H Q, RS K ω ss σ H → EQg (RpE K) K mg W ω σ H (mBu f m ss) Q → tCB r t σ H Q := by
  obtain ⟨r, a1, a2⟩ := h.ex
  obtain ⟨t, b1, b2⟩ := ha.ex
  refine ⟨r, t, a1, b1, fun ω ss σ H Q rs q => b2 ω ss σ H _ rs ?_⟩
  refine seqE q fun os ss1 ω1 H1 xs _ rs1 fr1 rp1 q1 => ?_
  obtain ⟨z, hz, q1⟩ := lift_get q1
  obtain ⟨ds, h1, h2⟩ := Option.bind_eq_some_iff.mp hz
  exact a2 ω1 ss1 σ H1 xs ds z _ rs1 (OpdA.bor rs1 rp1 h1) h2 fun H' v hs hv => q1 ω1 H' v (rs1.grow hs) (.grow hs rs1.own) hv
theorem v_bu {id : String} {f : List Dt → Option Dt} {m : SS → EO (List Opd)} (C : VC X k P w K mg base W) (h : BuS X K (.builtin id) f) (ha : VBs X K mg W (e :: es) m) (hg : ∀ i, Gl (X i) x) (hm : mg x = none) (hv : bootBuiltins x = some (.builtin id)) (hn : x ≠ "__name__" := by decide) (hdb : (x == ("__debug__" : Str)) = false := by decide)
    (he : ∀ i, starEach (e :: es) (X i).env = (false, eval e (X i).env) :: starEach es (X i).env := by intro _; rfl) (hpl : ∀ i, (backTo pos (starEach es (X i).env)).any (·.1) = false := by intro _; rfl) : VE X K mg W (.Call (.Name x p) (e :: es) [] pos) (mBu f m) := by
  obtain ⟨r, t, a1, b1, g⟩ := bu_go h ha
  exact ⟨_, fun i => pe_callB (a1 i) (hg i) (by rw [C.em i]; exact hm) hv (b1 i) hn hdb (he i) (hpl i), g⟩
theorem v_buT {T : String} {f : List Dt → Option Dt} {m : SS → EO (List Opd)} (C : VC X k P w K mg base W) (h : BuS X K (.type T) f) (ha : VBs X K mg W (e :: es) m) (hg : ∀ i, Gl (X i) x) (hm : mg x = none) (hv : bootBuiltins x = some (.type T)) (hn : x ≠ "__name__" := by decide) (hdb : (x == ("__debug__" : Str)) = false := by decide)
    (he : ∀ i, starEach (e :: es) (X i).env = (false, eval e (X i).env) :: starEach es (X i).env := by intro _; rfl) (hpl : ∀ i, (backTo pos (starEach es (X i).env)).any (·.1) = false := by intro _; rfl) : VE X K mg W (.Call (.Name x p) (e :: es) [] pos) (mBu f m) := by
  obtain ⟨r, t, a1, b1, g⟩ := bu_go h ha
  exact ⟨_, fun i => pe_callTy (a1 i) (hg i) (by rw [C.em i]; exact hm) hv (b1 i) hn hdb (he i) (hpl i), g⟩
def mOu (f : List Dt → Option (List Dt)) (m : SS → EO (List Opd)) : SS → EO Dt := fun ss => (m ss).bind fun os ss => .lift (((opsGet ss os).bind f).map .list) ss
theorem ou_go {u : Value} {f : List Dt → Option (List Dt)} {m : SS → EO (List Opd)} (h : OuS X K u f) (ha : VBs X K mg W (e :: es) m) : ∃ (r : List V → Hp → VK → Prop) (t : TA), (∀ i, CallR (X i) u r) ∧ (∀ i, PA (X i) (e :: es) t) ∧
    ∀ k ω ss σ H Q, 1000 ≤ k → RS K ω ss σ H → EQg (NewR K H k) K mg W ω σ H (mOu f m ss) Q → tCB r t σ H Q := by
  obtain ⟨r, a1, a2⟩ := h.ex
  obtain ⟨t, b1, b2⟩ := ha.ex
  refine ⟨r, t, a1, b1, fun k ω ss σ H Q hk rs q => b2 ω ss σ H _ rs ?_⟩
  refine seqE (R2 := NewR K H k) q fun os ss1 ω1 H1 xs _ rs1 fr1 rp1 q1 => ?_
  obtain ⟨z, hz, q1⟩ := lift_get q1
  obtain ⟨zs, hz2, rfl⟩ := Option.map_eq_some_iff.mp hz
  obtain ⟨ds, h1, h2⟩ := Option.bind_eq_some_iff.mp hz2
  refine a2 ω1 H1 xs ds zs _ (OpdA.bor rs1 rp1 h1) h2 fun p ys hp hy => ?_
  obtain ⟨ω2, w1, rs2, fr2, hs2⟩ := rs1.new (o := .lst ys) hk hp
  exact q1 ω2 _ _ rs2 fr2 ⟨p, rfl, fr1.tr p hp, w1, .inl ⟨_, _, rfl, upd_same, RpA.mono hs2 _ _ hy⟩⟩
theorem o_bu {id : String} {f : List Dt → Option (List Dt)} {m : SS → EO (List Opd)} (C : VC X k P w K mg base W) (h : OuS X K (.builtin id) f) (ha : VBs X K mg W (e :: es) m) (hg : ∀ i, Gl (X i) x) (hm : mg x = none) (hv : bootBuiltins x = some (.builtin id)) (hn : x ≠ "__name__" := by decide) (hdb : (x == ("__debug__" : Str)) = false := by decide)
    (he : ∀ i, starEach (e :: es) (X i).env = (false, eval e (X i).env) :: starEach es (X i).env := by intro _; rfl) (hpl : ∀ i, (backTo pos (starEach es (X i).env)).any (·.1) = false := by intro _; rfl) : VO X K mg W (.Call (.Name x p) (e :: es) [] pos) (mOu f m) := by
  obtain ⟨r, t, a1, b1, g⟩ := ou_go h ha
  exact ⟨_, fun i => pe_callB (a1 i) (hg i) (by rw [C.em i]; exact hm) hv (b1 i) hn hdb (he i) (hpl i), g⟩
theorem o_buT {T : String} {f : List Dt → Option (List Dt)} {m : SS → EO (List Opd)} (C : VC X k P w K mg base W) (h : OuS X K (.type T) f) (ha : VBs X K mg W (e :: es) m) (hg : ∀ i, Gl (X i) x) (hm : mg x = none) (hv : bootBuiltins x = some (.type T)) (hn : x ≠ "__name__" := by decide) (hdb : (x == ("__debug__" : Str)) = false := by decide)
    (he : ∀ i, starEach (e :: es) (X i).env = (false, eval e (X i).env) :: starEach es (X i).env := by intro _; rfl) (hpl : ∀ i, (backTo pos (starEach es (X i).env)).any (·.1) = false := by intro _; rfl) : VO X K mg W (.Call (.Name x p) (e :: es) [] pos) (mOu f m) := by
  obtain ⟨r, t, a1, b1, g⟩ := ou_go h ha
  exact ⟨_, fun i => pe_callTy (a1 i) (hg i) (by rw [C.em i]; exact hm) hv (b1 i) hn hdb (he i) (hpl i), g⟩

theorem bor1 {ω : Om} {H : Hp} {xs : List V} {d : Dt} (h : BorA K ω H xs [d]) : ∃ x, xs = [x] ∧ Bor K ω H x d := by
  cases h with
  | cons h1 h2 => cases h2; exact ⟨_, rfl, h1⟩
theorem bor2 {ω : Om} {H : Hp} {xs : List V} {d d' : Dt} (h : BorA K ω H xs [d, d']) : ∃ x y, xs = [x, y] ∧ Bor K ω H x d ∧ Bor K ω H y d' := by
  cases h with
  | cons h1 h2 =>
    obtain ⟨y, rfl, h3⟩ := bor1 h2
    exact ⟨_, _, rfl, h1, h3⟩
def fLen : List Dt → Option Dt
  | [.str z] => if z.length ≤ sizeLine then some (.int z.length) else none
  | [.list ds] => some (.int ds.length)
  | [.tuple ds] => some (.int ds.length)
  | _ => none
theorem u_len (C : VC X k P w K mg base W) : BuS X K (.builtin "len") fLen := by
  refine ⟨fun xs H Q => ∃ x n, xs = [x] ∧ LenV K x H n ∧ Q (.int n) H, fun i => by rw [← C.eK i]; exact call_len, fun ω ss σ H xs ds z Q rs bx hf q => ?_⟩
  unfold fLen at hf
  split at hf
  · split at hf
    · rename_i hz
      cases hf
      obtain ⟨x, rfl, b1⟩ := bor1 bx
      have h1 := b1.rp
      cases h1
      exact ⟨_, _, rfl, ⟨hz, rfl⟩, q H _ (Same.refl _) (.int _)⟩
    · cases hf
  · cases hf
    obtain ⟨x, rfl, b1⟩ := bor1 bx
    obtain ⟨a, ys, rfl, h1, h2⟩ := bor_lst b1
    exact ⟨_, _, rfl, .inl ⟨_, .of h1, rfl⟩, q H _ (Same.refl _) (by rw [h2.length]; exact .int _)⟩
  · cases hf
    obtain ⟨x, rfl, b1⟩ := bor1 bx
    obtain ⟨a, ys, rfl, h1, h2⟩ := bor_tup b1
    exact ⟨_, _, rfl, .inr ⟨_, sqT_mono hid_le h1, rfl⟩, q H _ (Same.refl _) (by rw [h2.length]; exact .int _)⟩
  · cases hf
def fLenD : List Dt → Option Dt
  | [.dict ds] => some (.int ds.length)
  | _ => none
theorem RpK.length {H : Hp} : ∀ {ds : List (Dt × Dt)} {xs : List (Key × V)}, RpK K H xs ds → xs.length = ds.length
  | [], _, h => by cases h; rfl
  | (_, d) :: ds, _, h => by
    cases h with
    | cons h1 h2 => simp [RpK.length h2]
theorem bor_dct {ω : Om} {H : Hp} {x : V} {ds : List (Dt × Dt)} (h : Bor K ω H x (.dict ds)) : ∃ a xs, x = .ref a ∧ H a = some (.dK xs) ∧ RpK K (hid ω H) xs ds := by
  rcases h with h | ⟨a, rfl, h⟩
  · cases h with
    | dK h1 h2 => exact ⟨_, _, rfl, hid_le _ _ h1, h2⟩
  · rcases h with ⟨ds, xs, e, h2, h3⟩ | ⟨ds, xs, e, h2, h3⟩
    · cases e
    · cases e
      exact ⟨_, _, rfl, h2, h3⟩
theorem u_lenD : BuS X K (.builtin "len") fLenD := by
  refine ⟨_, fun i => call_lenD, fun ω ss σ H xs ds z Q rs bx hf q => ?_⟩
  unfold fLenD at hf
  split at hf
  · cases hf
    obtain ⟨x, rfl, b1⟩ := bor1 bx
    obtain ⟨a, ys, rfl, h1, h2⟩ := bor_dct b1
    exact ⟨_, _, rfl, h1, q H _ (Same.refl _) (by rw [h2.length]; exact .int _)⟩
  · cases hf
def fInt1 : List Dt → Option Dt
  | [.int i] => some (.int i)
  | [.bool b] => some (.int (if b then 1 else 0))
  | _ => none
theorem u_int1 : BuS X K (.type "int") fInt1 := by
  refine ⟨_, fun i => call_int1, fun ω ss σ H xs ds z Q rs bx hf q => ?_⟩
  unfold fInt1 at hf
  split at hf
  · cases hf
    obtain ⟨x, rfl, b1⟩ := bor1 bx
    have h1 := b1.rp
    cases h1
    exact .inl ⟨_, rfl, q H _ (Same.refl _) (.int _)⟩
  · cases hf
    obtain ⟨x, rfl, b1⟩ := bor1 bx
    have h1 := b1.rp
    cases h1
    exact .inr ⟨_, rfl, q H _ (Same.refl _) (.int _)⟩
  · cases hf
def fMax2 : List Dt → Option Dt
  | [.int i, .int j] => some (.int (if j > i then j else i))
  | _ => none
def fMin2 : List Dt → Option Dt
  | [.int i, .int j] => some (.int (if j < i then j else i))
  | _ => none
theorem u_max2 (C : VC X k P w K mg base W) : BuS X K (.builtin "max") fMax2 := by
  refine ⟨_, fun i => call_max2 (C.ca i), fun ω ss σ H xs ds z Q rs bx hf q => ?_⟩
  unfold fMax2 at hf
  split at hf
  · cases hf
    obtain ⟨x, y, rfl, b1, b2⟩ := bor2 bx
    have h1 := b1.rp
    have h2 := b2.rp
    cases h1
    cases h2
    exact ⟨_, _, rfl, q H _ (Same.refl _) (.int _)⟩
  · cases hf
theorem u_min2 (C : VC X k P w K mg base W) : BuS X K (.builtin "min") fMin2 := by
  refine ⟨_, fun i => call_min2 (C.ca i), fun ω ss σ H xs ds z Q rs bx hf q => ?_⟩
  unfold fMin2 at hf
  split at hf
  · cases hf
    obtain ⟨x, y, rfl, b1, b2⟩ := bor2 bx
    have h1 := b1.rp
    have h2 := b2.rp
    cases h1
    cases h2
    exact ⟨_, _, rfl, q H _ (Same.refl _) (.int _)⟩
  · cases hf
def boolsD : List Dt → Option (List Bool)
  | [] => some []
  | .bool z :: ds => (boolsD ds).map (z :: ·)
  | _ :: _ => none
theorem rpa_bools {H : Hp} : ∀ {ds : List Dt} {xs : List V} {bs : List Bool}, RpA K H xs ds → boolsD ds = some bs → xs = bs.map V.bl
  | [], _, _, h, e => by cases h; cases e; rfl
  | d :: ds, _, _, h, e => by
    cases h with
    | cons h1 h2 =>
      cases d with
      | bool z =>
        obtain ⟨bs', e1, rfl⟩ := Option.map_eq_some_iff.mp (show (boolsD ds).map (z :: ·) = some _ from e)
        cases h1
        rw [rpa_bools h2 e1]
        rfl
      | _ => cases e
def fAll : List Dt → Option Dt
  | [.list ds] => (boolsD ds).map fun bs => .bool (bs.all id)
  | _ => none
def fAny : List Dt → Option Dt
  | [.list ds] => (boolsD ds).map fun bs => .bool (bs.any id)
  | _ => none
theorem u_all (C : VC X k P w K mg base W) : BuS X K (.builtin "all") fAll := by
  refine ⟨rAll K, fun i => by rw [← C.eK i]; exact cr_all (C.ca i), fun ω ss σ H xs ds z Q rs bx hf q => ?_⟩
  unfold fAll at hf
  split at hf
  · obtain ⟨bs, e1, rfl⟩ := Option.map_eq_some_iff.mp hf
    obtain ⟨x, rfl, b1⟩ := bor1 bx
    obtain ⟨a, ys, rfl, h1, h2⟩ := bor_lst b1
    have e2 := rpa_bools h2 e1
    subst e2
    exact ⟨_, _, rfl, .of h1, q H _ (Same.refl _) (.bl _)⟩
  · cases hf
theorem u_any (C : VC X k P w K mg base W) : BuS X K (.builtin "any") fAny := by
  refine ⟨rAny K, fun i => by rw [← C.eK i]; exact cr_any (C.ca i), fun ω ss σ H xs ds z Q rs bx hf q => ?_⟩
  unfold fAny at hf
  split at hf
  · obtain ⟨bs, e1, rfl⟩ := Option.map_eq_some_iff.mp hf
    obtain ⟨x, rfl, b1⟩ := bor1 bx
    obtain ⟨a, ys, rfl, h1, h2⟩ := bor_lst b1
    have e2 := rpa_bools h2 e1
    subst e2
    exact ⟨_, _, rfl, .of h1, q H _ (Same.refl _) (.bl _)⟩
  · cases hf
/-- tuple(list), tuple(tuple) -/
def fTup : List Dt → Option Dt
  | [.list ds] => some (.tuple ds)
  | [.tuple ds] => some (.tuple ds)
  | _ => none
theorem u_tuple (C : VC X k P w K mg base W) : BuS X K (.type "tuple") fTup := by
  refine ⟨fun xs H Q => ∃ p ys, xs = [V.ref p] ∧ ((SqL K H p ys ∧ ∀ l, H l = none → Q (.ref l) (upd H l (.tup ys))) ∨ (SqT K H p ys ∧ Q (.ref p) H)), fun i => by rw [← C.eK i]; exact call_tuple_of, fun ω ss σ H xs ds z Q rs bx hf q => ?_⟩
  unfold fTup at hf
  split at hf
  · cases hf
    obtain ⟨x, rfl, b1⟩ := bor1 bx
    obtain ⟨a, ys, rfl, h1, h2⟩ := bor_lst b1
    refine ⟨_, _, rfl, .inl ⟨.of h1, fun l hl => ?_⟩⟩
    obtain ⟨n1, n2⟩ := new_tup rs hl h2
    exact q _ _ n1 n2
  · cases hf
    obtain ⟨x, rfl, b1⟩ := bor1 bx
    obtain ⟨a, ys, rfl, h1, h2⟩ := bor_tup b1
    exact ⟨_, _, rfl, .inr ⟨sqT_mono hid_le h1, q H _ (Same.refl _) (.tup h1 h2)⟩⟩
  · cases hf
def fList : List Dt → Option (List Dt)
  | [.list ds] => some ds
  | [.tuple ds] => some ds
  | _ => none
theorem u_list (C : VC X k P w K mg base W) : OuS X K (.type "list") fList := by
  refine ⟨fun xs H Q => ∃ p ys, xs = [V.ref p] ∧ (SqL K H p ys ∨ SqT K H p ys) ∧ ∀ l, H l = none → Q (.ref l) (upd H l (.lst ys)), fun i => by rw [← C.eK i]; exact call_list_of, fun ω H xs ds z Q bx hf q => ?_⟩
  unfold fList at hf
  split at hf
  · cases hf
    obtain ⟨x, rfl, b1⟩ := bor1 bx
    obtain ⟨a, ys, rfl, h1, h2⟩ := bor_lst b1
    exact ⟨_, _, rfl, .inl (.of h1), fun l hl => q l ys hl h2⟩
  · cases hf
    obtain ⟨x, rfl, b1⟩ := bor1 bx
    obtain ⟨a, ys, rfl, h1, h2⟩ := bor_tup b1
    exact ⟨_, _, rfl, .inr (sqT_mono hid_le h1), fun l hl => q l ys hl h2⟩
  · cases hf

def tyName : Dt → String
  | .none => "NoneType" | .bool _ => "bool" | .int _ => "int" | .str _ => "str" | .list _ => "list" | .tuple _ => "tuple" | .dict _ => "dict"
def fIsi (T : String) (d : Dt) : Option Bool := kitB (tyName d) T
theorem tyx_of {H : Hp} {x : V} {d : Dt} (h : Rp K H x d) : TyX K H x (.type (tyName d)) := by
  cases h with
  | non => exact .base .non
  | bl z => exact .base (.bl z)
  | int i => exact .base (.int i)
  | str z => exact .base (.str z)
  | lst h1 h2 => exact .base (.lst h1)
  | tup h1 h2 =>
    rcases h1 with (h1 | ⟨o, h1⟩) | ⟨o, its, n, h1, h3, _⟩
    · exact .base (.tup h1)
    · exact .fTuple h1
    · exact .kTuple h1 h3
  | dK h1 h2 => exact .base (.dK h1)
def mIsi (T : String) (m : SS → EO Opd) : SS → EO Dt := fun ss => (m ss).bind fun o ss => .lift (((o.get ss).bind (fIsi T)).map .bool) ss
theorem v_isi (C : VC X k P w K mg base W) {T : String} {Tn : Str} {p1 p2 : Pos} {m : SS → EO Opd} (h : VB X K mg W a m) (hg : ∀ i, Gl (X i) "isinstance") (hm : mg "isinstance" = none) (hgT : ∀ i, Gl (X i) Tn) (hmT : mg Tn = none) (hvT : bootBuiltins Tn = some (.type T)) (hn : Tn ≠ "__name__" := by decide) (hdb : (Tn == ("__debug__" : Str)) = false := by decide)
    (he : ∀ i, starEach [a, .Name Tn p2] (X i).env = (false, eval a (X i).env) :: starEach [.Name Tn p2] (X i).env := by intro _; rfl) (he2 : ∀ i, starEach [.Name Tn p2] (X i).env = (false, eval (.Name Tn p2) (X i).env) :: starEach [] (X i).env := by intro _; rfl) (hpl : ∀ i, (backTo pos (starEach [.Name Tn p2] (X i).env)).any (·.1) = false := by intro _; rfl) :
    VE X K mg W (.Call (.Name "isinstance" p1) [a, .Name Tn p2] [] pos) (mIsi T m) := by
  obtain ⟨t, a1, a2⟩ := h.ex
  refine ⟨tCB (rIsi K) (tCons t (tCons (tC (.ty T)) tNil)), fun i => ?_, fun ω ss σ H Q rs q => a2 ω ss σ H _ rs ?_⟩
  · rw [← C.eK i]
    exact pe_callB call_isi (hg i) (by rw [C.em i]; exact hm) PyProof.Rows.boot_isinstance (pa_cons (a1 i) (pa_cons (pe_bltn (hgT i) (by rw [C.em i]; exact hmT) hvT rfl hn hdb) pa_nil (he2 i)) (he i)) (by decide) (by decide) (he i) (hpl i)
  · refine seqE q fun o ss1 ω1 H1 y _ rs1 fr1 rp1 q1 => ?_
    obtain ⟨z, hz, q1⟩ := lift_get q1
    obtain ⟨z', hz2, rfl⟩ := Option.map_eq_some_iff.mp hz
    obtain ⟨d, h1, h2⟩ := Option.bind_eq_some_iff.mp hz2
    exact ⟨_, _, _, _, _, rfl, .ty T, tyx_of (Opd.bor rs1 rp1 h1).rp, kit_ty h2, q1 ω1 H1 _ rs1 (.refl _ _) (.bl _)⟩
end
end VL

namespace VL
open PySem PySem.Spec L2
open PyProof.Rows hiding St

section
variable {ι : Type} {X : ι → Cx} {k : Nat} {P : Program} {w : World} {K : PySem.W.Frag} {mg : Str → Option Value} {base : Heap} {W : WX} {e a b c : Expr} {es : List Expr} {pos p : Pos} {x : Str}

def signD (c : Nat) : Dt := .str ⟨#[c]⟩
def fIx : Dt → Dt → Option Dt := fun d i => match d, i with
  | .list ds, .int i => atI ds i
  | .tuple ds, .int i => atI ds i
  | .str z, .int i => if z.length ≤ sizeLine then (atI z.cps.toList i).map signD else none
  | _, _ => none
theorem rpa_at {H : Hp} {ds : List Dt} {xs : List V} {i : Int} {d : Dt} (h : RpA K H xs ds) (e : atI ds i = some d) : ∃ y, atI xs i = some y ∧ Rp K H y d := by
  unfold atI at e ⊢
  rw [h.length]
  obtain ⟨j, e1, e2⟩ := Option.bind_eq_some_iff.mp e
  obtain ⟨y, h1, h2⟩ := h.get e2
  exact ⟨y, Option.bind_eq_some_iff.mpr ⟨j, e1, h1⟩, h2⟩
theorem v_ix (C : VC X k P w K mg base W) {m n : SS → EO Opd} (hm : VB X K mg W a m) (hn : VB X K mg W b n) (hs : PlainIx b := by exact fun _ _ => rfl) : VE X K mg W (.Subscript a b pos) (mBin fIx m n) := by
  obtain ⟨t, h1, h2⟩ := hm.ex
  obtain ⟨u, g1, g2⟩ := hn.ex
  refine ⟨tOp (rIx K) t u, fun i => by rw [← C.eK i]; exact pe_ix ix_seq (h1 i) (g1 i) hs, fun ω ss σ H Q rs q => h2 ω ss σ H _ rs ?_⟩
  refine seqE q fun o ss1 ω1 H1 x _ rs1 fr1 rp1 q1 => g2 ω1 ss1 σ H1 _ rs1 ?_
  refine seqE q1 fun p ss2 ω2 H2 y _ rs2 fr2 rp2 q2 => ?_
  obtain ⟨z, hz, q2⟩ := lift_get q2
  obtain ⟨d, e, e1, e2, e3⟩ := two_some hz
  have bx := Opd.bor rs2 (rp1.go fr2) e1
  have by' := (Opd.bor rs2 rp2 e2).rp
  unfold fIx at e3
  split at e3
  · cases by'
    obtain ⟨p, xs, rfl, w1, w2⟩ := bor_lst bx
    obtain ⟨v, v1, v2⟩ := rpa_at w2 e3
    exact .inl ⟨p, xs, _, v, rfl, rfl, .of w1, v1, q2 ω2 H2 v rs2 (.refl _ _) v2⟩
  · cases by'
    obtain ⟨p, xs, rfl, w1, w2⟩ := bor_tup bx
    obtain ⟨v, v1, v2⟩ := rpa_at w2 e3
    exact .inr (.inl ⟨p, xs, _, v, rfl, rfl, sqT_mono hid_le w1, v1, q2 ω2 H2 v rs2 (.refl _ _) v2⟩)
  · split at e3
    · rename_i hl
      obtain ⟨cc, c1, rfl⟩ := Option.map_eq_some_iff.mp e3
      have bx := bx.rp
      cases bx
      cases by'
      exact .inr (.inr ⟨_, _, cc, rfl, rfl, hl, c1, q2 ω2 H2 _ rs2 (.refl _ _) (.str _)⟩)
    · cases e3
  · cases e3

structure VP {ι : Type} (X : ι → Cx) (K : PySem.W.Frag) (mg : Str → Option Value) (W : WX) (e : Option Expr) (m : SS → EO (Option Int)) : Prop where
  ex : ∃ t : TO, (∀ i, PO (X i) e t) ∧ ∀ ω ss σ H Q, RS K ω ss σ H → EQg (fun _ _ (o : Option Int) d => o = d) K mg W ω σ H (m ss) Q → t σ H Q
def mPart0 : SS → EO (Option Int) := fun ss => .ok none ss
def mPart (m : SS → EO Dt) : SS → EO (Option Int) := fun ss => (m ss).bind fun d ss => match d with
  | .int i => .ok (some i) ss
  | _ => .no
theorem p_none : VP X K mg W none mPart0 := ⟨_, fun _ => po_none, fun ω ss σ H Q rs q => q ω H none rs (.refl _ _) rfl⟩
theorem p_some {m : SS → EO Dt} (h : VE X K mg W e m) : VP X K mg W (some e) (mPart m) := by
  obtain ⟨t, h1, h2⟩ := h.ex
  refine ⟨_, fun i => po_some (h1 i), fun ω ss σ H Q rs q => h2 ω ss σ H _ rs ?_⟩
  refine seqE (R2 := fun _ _ (o : Option Int) d => o = d) q fun d ss1 ω1 H1 x _ rs1 fr1 rp1 q1 => ?_
  cases rp1 with
  | int i => exact ⟨i, rfl, q1 ω1 H1 _ rs1 (.refl _ _) rfl⟩
  | _ => exact q1.elim
def cutG {α : Type} (xs : List α) (lo hi : Option Int) : List α := (xs.drop (HT.sIx xs.length 0 lo)).take (HT.sIx xs.length xs.length hi - HT.sIx xs.length 0 lo)
theorem rpa_cut {H : Hp} {ds : List Dt} {xs : List V} {lo hi : Option Int} (h : RpA K H xs ds) : RpA K H (cutV xs lo hi) (cutG ds lo hi) := by
  unfold cutV cutG
  rw [h.length]
  exact (h.drop _).take _
def fSl : Dt → Option Int → Option Int → Option Dt := fun d lo hi => match d with
  | .list ds => some (.list (cutG ds lo hi))
  | .tuple ds => some (.tuple (cutG ds lo hi))
  | .str z => if z.length ≤ sizeLine then some (.str (cutS z lo hi)) else none
  | _ => none
def mSl (m : SS → EO Opd) (l h : SS → EO (Option Int)) : SS → EO Dt := fun ss => (m ss).bind fun o ss => (l ss).bind fun lo ss => (h ss).bind fun hi ss => .lift ((o.get ss).bind fun d => fSl d lo hi) ss
def rSlQ (K : PySem.W.Frag) : V → Option Int → Option Int → Hp → VK → Prop := fun x lo hi H Q => rSlL K x lo hi H Q ∨ rSlA K x lo hi H Q ∨ rSlS x lo hi H Q
theorem sl_q {Y : Cx} : L2.SlR Y (rSlQ Y.K) := sl_list.or (sl_tupA.or sl_str)
theorem cut_whole {α : Type} {xs : List α} {lo hi : Option Int} (h : HT.sIx xs.length 0 lo = 0 ∧ HT.sIx xs.length xs.length hi = xs.length) : cutG xs lo hi = xs := by
  unfold cutG
  rw [h.1, h.2]
  simp
theorem v_slice (C : VC X k P w K mg base W) {lo hi : Option Expr} {p2 : Pos} {m : SS → EO Opd} {l h : SS → EO (Option Int)} (hm : VB X K mg W a m) (hl : VP X K mg W lo l) (hh : VP X K mg W hi h) : VE X K mg W (.Subscript a (.Slice lo hi none p2) pos) (mSl m l h) := by
  obtain ⟨t, a1, a2⟩ := hm.ex
  obtain ⟨tl, b1, b2⟩ := hl.ex
  obtain ⟨th, c1, c2⟩ := hh.ex
  refine ⟨tSl (rSlQ K) t tl th, fun i => by rw [← C.eK i]; exact pe_slice sl_q (a1 i) (b1 i) (c1 i), fun ω ss σ H Q rs q => a2 ω ss σ H _ rs ?_⟩
  refine seqE q fun o ss1 ω1 H1 x _ rs1 fr1 rp1 q1 => b2 ω1 ss1 σ H1 _ rs1 ?_
  refine seqE q1 fun lo' ss2 ω2 H2 y _ rs2 fr2 ey q2 => c2 ω2 ss2 σ H2 _ rs2 ?_
  refine seqE q2 fun hi' ss3 ω3 H3 y3 _ rs3 fr3 ey3 q3 => ?_
  subst ey ey3
  obtain ⟨z, hz, q3⟩ := lift_get q3
  obtain ⟨d, e1, e3⟩ := Option.bind_eq_some_iff.mp hz
  have bx := Opd.bor rs3 ((rp1.go fr2).go fr3) e1
  unfold fSl at e3
  split at e3
  · cases e3
    obtain ⟨p, xs, rfl, w1, w2⟩ := bor_lst bx
    refine .inl ⟨p, xs, rfl, .of w1, fun r hr => ?_⟩
    obtain ⟨n1, n2⟩ := new_lst rs3 hr (rpa_cut w2)
    exact q3 ω3 _ _ (rs3.grow n1) (.grow n1 rs3.own) n2
  · cases e3
    obtain ⟨p, xs, rfl, w1, w2⟩ := bor_tup bx
    refine .inr (.inl ⟨p, xs, rfl, sqT_mono hid_le w1, fun hw => ?_, fun _ r hr => ?_⟩)
    · rw [w2.length] at hw
      rw [cut_whole hw] at q3
      exact q3 ω3 H3 _ rs3 (.refl _ _) (.tup w1 w2)
    · obtain ⟨n1, n2⟩ := new_tup rs3 hr (rpa_cut w2)
      exact q3 ω3 _ _ (rs3.grow n1) (.grow n1 rs3.own) n2
  · split at e3
    · rename_i hz3
      cases e3
      have bx := bx.rp
      cases bx
      exact .inr (.inr ⟨_, rfl, hz3, q3 ω3 H3 _ rs3 (.refl _ _) (.str _)⟩)
    · cases e3
  · cases e3
/-- .. a new list -/
def fSlL : Dt → Option Int → Option Int → Option Dt := fun d lo hi => match d with
  | .list ds => some (.list (cutG ds lo hi))
  | _ => none
def mSlL (m : SS → EO Opd) (l h : SS → EO (Option Int)) : SS → EO Dt := fun ss => (m ss).bind fun o ss => (l ss).bind fun lo ss => (h ss).bind fun hi ss => .lift ((o.get ss).bind fun d => fSlL d lo hi) ss
theorem o_slice (C : VC X k P w K mg base W) {lo hi : Option Expr} {p2 : Pos} {m : SS → EO Opd} {l h : SS → EO (Option Int)} (hm : VB X K mg W a m) (hl : VP X K mg W lo l) (hh : VP X K mg W hi h) : VO X K mg W (.Subscript a (.Slice lo hi none p2) pos) (mSlL m l h) := by
  obtain ⟨t, a1, a2⟩ := hm.ex
  obtain ⟨tl, b1, b2⟩ := hl.ex
  obtain ⟨th, c1, c2⟩ := hh.ex
  refine ⟨tSl (rSlL K) t tl th, fun i => by rw [← C.eK i]; exact pe_slice sl_list (a1 i) (b1 i) (c1 i), fun k ω ss σ H Q hk rs q => a2 ω ss σ H _ rs ?_⟩
  refine seqE (R2 := NewR K H k) q fun o ss1 ω1 H1 x _ rs1 fr1 rp1 q1 => b2 ω1 ss1 σ H1 _ rs1 ?_
  refine seqE (R2 := NewR K H k) q1 fun lo' ss2 ω2 H2 y _ rs2 fr2 ey q2 => c2 ω2 ss2 σ H2 _ rs2 ?_
  refine seqE (R2 := NewR K H k) q2 fun hi' ss3 ω3 H3 y3 _ rs3 fr3 ey3 q3 => ?_
  subst ey ey3
  obtain ⟨z, hz, q3⟩ := lift_get q3
  obtain ⟨d, e1, e3⟩ := Option.bind_eq_some_iff.mp hz
  have bx := Opd.bor rs3 ((rp1.go fr2).go fr3) e1
  unfold fSlL at e3
  split at e3
  · cases e3
    obtain ⟨p, xs, rfl, w1, w2⟩ := bor_lst bx
    refine ⟨p, xs, rfl, .of w1, fun r hr => ?_⟩
    obtain ⟨ω4, g1, rs4, fr4, hs4⟩ := rs3.new (o := .lst _) hk hr
    exact q3 ω4 _ _ rs4 fr4 ⟨r, rfl, ((fr1.trans fr2).trans fr3).tr r hr, g1, .inl ⟨_, _, rfl, upd_same, RpA.mono hs4 _ _ (rpa_cut w2)⟩⟩
  · cases e3
/-- xs[::-1], a new list -/
def mRevL (m : SS → EO Opd) : SS → EO Dt := fun ss => (m ss).bind fun o ss => match o.get ss with
  | some (.list ds) => .ok (.list ds.reverse) ss
  | _ => .no
theorem o_rev (C : VC X k P w K mg base W) {j : Nat} {p1 p2 p3 : Pos} {m : SS → EO Opd} (hm : VB X K mg W a m) : VO X K mg W (.Subscript a (.Slice none none (some (.UnaryOp .USub (.Constant (.int 1) j p1) p2)) p3) pos) (mRevL m) := by
  obtain ⟨t, a1, a2⟩ := hm.ex
  refine ⟨tRevL K t, fun i => by rw [← C.eK i]; exact pe_revL (a1 i), fun k ω ss σ H Q hk rs q => a2 ω ss σ H _ rs ?_⟩
  refine seqE (R2 := NewR K H k) q fun o ss1 ω1 H1 x _ rs1 fr1 rp1 q1 => ?_
  split at q1
  · rename_i ds e1
    obtain ⟨p, xs, rfl, w1, w2⟩ := bor_lst (Opd.bor rs1 rp1 e1)
    refine ⟨p, xs, rfl, .of w1, fun r hr => ?_⟩
    obtain ⟨ω4, g1, rs4, fr4, hs4⟩ := rs1.new (o := .lst xs.reverse) hk hr
    exact q1 ω4 _ _ rs4 fr4 ⟨r, rfl, fr1.tr r hr, g1, .inl ⟨_, _, rfl, upd_same, RpA.mono hs4 _ _ w2.rev⟩⟩
  · exact q1.elim

def mDict0 : SS → EO Dt := fun ss => .ok (.dict []) ss
theorem o_dict0 : VO X K mg W (.Dict [] [] pos) mDict0 := by
  refine ⟨tDNewK, fun _ => pe_dnewK, fun k ω ss σ H Q hk rs q p hp => ?_⟩
  obtain ⟨ω2, e2, rs2, fr2, hs2⟩ := rs.new (o := .dK []) hk hp
  exact q ω2 _ _ rs2 fr2 ⟨p, rfl, hp, e2, .inr ⟨[], [], rfl, upd_same, .nil⟩⟩

structure MuS {ι : Type} (X : ι → Cx) (K : PySem.W.Frag) (id : String) (f : List Dt → Option Dt) : Prop where
  ex : ∃ r : V → List V → Hp → VK → Prop, (∀ i, MtR (X i) id r) ∧ ∀ ω ss σ H x xs d ds z (Q : VK), RS K ω ss σ H → Bor K ω H x d → BorA K ω H xs ds → f (d :: ds) = some z → (∀ H' v, Same H H' → Rp K (hid ω H') v z → Q v H') → r x xs H Q
/-- o.name(e), a text's -/
def mM1 (f : List Dt → Option Dt) (m n : SS → EO Opd) : SS → EO Dt := fun ss => (m ss).bind fun o ss => match o with
  | .da (.str z) => (n ss).bind fun p ss => .lift ((p.get ss).bind fun d => f [.str z, d]) ss
  | _ => .no
theorem v_m1 {id : String} {name : Str} {ap : Pos} {f : List Dt → Option Dt} {m n : SS → EO Opd} (slot : Slot "str" name id) (ty : typeOf (.builtin id) = pure (.type "method_descriptor")) (h : MuS X K id f) (hm : VB X K mg W a m) (hn : VB X K mg W b n)
    (hs : ∀ i, starEach [b] (X i).env = [(false, eval b (X i).env)] := by intro _; rfl) (hb : ∀ i, attributeBase a name (X i).env (eval a (X i).env) = eval a (X i).env := by intro _; rfl) (hl : (ap.endLine == pos.line) = true := by rfl) :
    VE X K mg W (.Call (.Attribute a name ap) [b] [] pos) (mM1 f m n) := by
  obtain ⟨r, r1, r2⟩ := h.ex
  obtain ⟨t, a1, a2⟩ := hm.ex
  obtain ⟨u, b1, b2⟩ := hn.ex
  refine ⟨_, fun i => pe_m1 slot ty (r1 i) (a1 i) (b1 i) (hs i) (hb i) hl, fun ω ss σ H Q rs q => a2 ω ss σ H _ rs ?_⟩
  refine seqE q fun o ss1 ω1 H1 x _ rs1 fr1 rp1 q1 => ?_
  split at q1
  · rename_i z em
    have rz : Rp K (hid ω1 H1) x (.str z) := rp1
    cases rz
    refine ⟨⟨z, rfl⟩, b2 ω1 ss1 σ H1 _ rs1 (seqE q1 fun p ss2 ω2 H2 y _ rs2 fr2 rp2 q2 => ?_)⟩
    obtain ⟨v, hv, q2⟩ := lift_get q2
    obtain ⟨d, e1, e2⟩ := Option.bind_eq_some_iff.mp hv
    exact r2 ω2 ss2 σ H2 _ _ _ [d] v _ rs2 (.inl (.str z)) (.cons (Opd.bor rs2 rp2 e1) .nil) e2 fun H' v hs hv => q2 ω2 H' v (rs2.grow hs) (.grow hs rs2.own) hv
  · exact q1.elim
/-- o.name(), a text's -/
def mM0 (f : List Dt → Option Dt) (m : SS → EO Opd) : SS → EO Dt := fun ss => (m ss).bind fun o ss => match o with
  | .da (.str z) => .lift (f [.str z]) ss
  | _ => .no
theorem v_m0 {id : String} {name : Str} {ap : Pos} {f : List Dt → Option Dt} {m : SS → EO Opd} (slot : Slot "str" name id) (ty : typeOf (.builtin id) = pure (.type "method_descriptor")) (h : MuS X K id f) (hm : VB X K mg W a m)
    (hb : ∀ i, attributeBase a name (X i).env (eval a (X i).env) = eval a (X i).env := by intro _; rfl) (hl : (ap.endLine == pos.line) = true := by rfl) :
    VE X K mg W (.Call (.Attribute a name ap) [] [] pos) (mM0 f m) := by
  obtain ⟨r, r1, r2⟩ := h.ex
  obtain ⟨t, a1, a2⟩ := hm.ex
  refine ⟨_, fun i => pe_m0 slot ty (r1 i) (a1 i) (hb i) hl, fun ω ss σ H Q rs q => a2 ω ss σ H _ rs ?_⟩
  refine seqE q fun o ss1 ω1 H1 x _ rs1 fr1 rp1 q1 => ?_
  split at q1
  · rename_i z em
    have rz : Rp K (hid ω1 H1) x (.str z) := rp1
    cases rz
    obtain ⟨v, hv, q1⟩ := lift_get q1
    exact ⟨⟨z, rfl⟩, r2 ω1 ss1 σ H1 _ _ _ [] v _ rs1 (.inl (.str z)) .nil hv fun H' v hs hv => q1 ω1 H' v (rs1.grow hs) (.grow hs rs1.own) hv⟩
  · exact q1.elim
/-- o.name(e, ..), a text's -/
def mMn (f : List Dt → Option Dt) (m : SS → EO Opd) (n : SS → EO (List Opd)) : SS → EO Dt := fun ss => (m ss).bind fun o ss => match o with
  | .da (.str z) => (n ss).bind fun ps ss => .lift ((opsGet ss ps).bind fun ds => f (.str z :: ds)) ss
  | _ => .no
theorem v_mn (C : VC X k P w K mg base W) {id : String} {name : Str} {ap : Pos} {f : List Dt → Option Dt} {m : SS → EO Opd} {n : SS → EO (List Opd)} (slot : Slot "str" name id) (ty : typeOf (.builtin id) = pure (.type "method_descriptor")) (h : MuS X K id f) (hm : VB X K mg W a m) (hn : VBs X K mg W (e :: es) n)
    (hb : ∀ i, attributeBase a name (X i).env (eval a (X i).env) = eval a (X i).env := by intro _; rfl)
    (hf : ∀ i, ((backTo pos (starEach (e :: es) (X i).env)).all (fun x => !x.1) && (backToKw pos (keywordEach [] (X i).env)).all (fun x => x.1.isSome) && decide ((e :: es).length + ([] : List Keyword).length + (if ([] : List Keyword).isEmpty then 0 else 1) < 30)) = true := by intro _; rfl)
    (hl : (ap.endLine == pos.line) = true := by rfl) (hs : ∀ i, starEach (e :: es) (X i).env = (false, eval e (X i).env) :: starEach es (X i).env := by intro _; rfl) (hpl : ∀ i, (backTo pos (starEach es (X i).env)).any (·.1) = false := by intro _; rfl) :
    VE X K mg W (.Call (.Attribute a name ap) (e :: es) [] pos) (mMn f m n) := by
  obtain ⟨r, r1, r2⟩ := h.ex
  obtain ⟨t, a1, a2⟩ := hm.ex
  obtain ⟨u, b1, b2⟩ := hn.ex
  refine ⟨tBM K "str" r t u, fun i => by rw [← C.eK i]; exact pe_bm F.plainAttrs_str slot ty (r1 i) (a1 i) (b1 i) (hb i) (hf i) hl (hs i) (hpl i), fun ω ss σ H Q rs q => a2 ω ss σ H _ rs ?_⟩
  refine seqE q fun o ss1 ω1 H1 x _ rs1 fr1 rp1 q1 => ?_
  split at q1
  · rename_i z em
    have rz : Rp K (hid ω1 H1) x (.str z) := rp1
    cases rz
    refine ⟨rfl, b2 ω1 ss1 σ H1 _ rs1 (seqE q1 fun ps ss2 ω2 H2 y _ rs2 fr2 rp2 q2 => ?_)⟩
    obtain ⟨v, hv, q2⟩ := lift_get q2
    obtain ⟨ds, e1, e2⟩ := Option.bind_eq_some_iff.mp hv
    exact r2 ω2 ss2 σ H2 _ _ _ ds v _ rs2 (.inl (.str z)) (OpdA.bor rs2 rp2 e1) e2 fun H' v hs hv => q2 ω2 H' v (rs2.grow hs) (.grow hs rs2.own) hv
  · exact q1.elim
def textsD : List Dt → Option (List Str)
  | [] => some []
  | .str z :: ds => (textsD ds).map (z :: ·)
  | _ :: _ => none
theorem rpa_texts {H : Hp} : ∀ {ds : List Dt} {xs : List V} {bs : List Str}, RpA K H xs ds → textsD ds = some bs → xs = bs.map V.str
  | [], _, _, h, e => by cases h; cases e; rfl
  | d :: ds, _, _, h, e => by
    cases h with
    | cons h1 h2 =>
      cases d with
      | str z =>
        obtain ⟨bs', e1, rfl⟩ := Option.map_eq_some_iff.mp (show (textsD ds).map (z :: ·) = some _ from e)
        cases h1
        rw [rpa_texts h2 e1]
        rfl
      | _ => cases e
def joinD (z : Str) (bs : List Str) : Option Dt := if (bs.map (·.length)).sum + bs.length * z.length ≤ 16777216 then some (.str (Txt.join z bs)) else none
def fJoin : List Dt → Option Dt
  | [.str z, .list ds] => (textsD ds).bind (joinD z)
  | [.str z, .tuple ds] => (textsD ds).bind (joinD z)
  | _ => none
theorem u_join (C : VC X k P w K mg base W) : MuS X K "str.join" fJoin := by
  refine ⟨fun x xs H Q => ∃ a p, ∃ ys : List Str, x = .str a ∧ xs = [.ref p] ∧ (SqL K H p (ys.map V.str) ∨ SqT K H p (ys.map V.str)) ∧ (ys.map (·.length)).sum + ys.length * a.length ≤ 16777216 ∧ Q (.str (Txt.join a ys)) H, fun i => by rw [← C.eK i]; exact mt_join, fun ω ss σ H x xs d ds z Q rs bx bs hf q => ?_⟩
  have bxr := bx.rp
  unfold fJoin at hf
  split at hf
  · rename_i e0
    cases e0
    obtain ⟨ys, e1, e2⟩ := Option.bind_eq_some_iff.mp hf
    unfold joinD at e2
    split at e2
    · rename_i hz
      cases e2
      cases bxr
      obtain ⟨y, rfl, b1⟩ := bor1 bs
      obtain ⟨p, us, rfl, w1, w2⟩ := bor_lst b1
      have e3 := rpa_texts w2 e1
      subst e3
      exact ⟨_, p, ys, rfl, rfl, .inl (.of w1), hz, q H _ (Same.refl _) (.str _)⟩
    · cases e2
  · rename_i e0
    cases e0
    obtain ⟨ys, e1, e2⟩ := Option.bind_eq_some_iff.mp hf
    unfold joinD at e2
    split at e2
    · rename_i hz
      cases e2
      cases bxr
      obtain ⟨y, rfl, b1⟩ := bor1 bs
      obtain ⟨p, us, rfl, w1, w2⟩ := bor_tup b1
      have e3 := rpa_texts w2 e1
      subst e3
      exact ⟨_, p, ys, rfl, rfl, .inr (sqT_mono hid_le w1), hz, q H _ (Same.refl _) (.str _)⟩
    · cases e2
  · cases hf
def fUpper : List Dt → Option Dt
  | [.str z] => if z.length ≤ 5592405 then some (.str (Txt.upper z)) else none
  | _ => none
theorem u_upper : MuS X K "str.upper" fUpper := by
  refine ⟨_, fun i => mt_upper, fun ω ss σ H x xs d ds z Q rs bx bs hf q => ?_⟩
  have bxr := bx.rp
  unfold fUpper at hf
  split at hf
  · rename_i e0
    cases e0
    split at hf
    · rename_i hz
      cases hf
      cases bxr
      cases bs
      exact ⟨_, rfl, rfl, hz, q H _ (Same.refl _) (.str _)⟩
    · cases hf
  · cases hf
def fRstrip : List Dt → Option Dt
  | [.str z, .str y] => if z.length ≤ sizeLine then some (.str (Txt.rstripChars z y)) else none
  | _ => none
theorem u_rstrip : MuS X K "str.rstrip" fRstrip := by
  refine ⟨_, fun i => mt_rstripChars, fun ω ss σ H x xs d ds z Q rs bx bs hf q => ?_⟩
  have bxr := bx.rp
  unfold fRstrip at hf
  split at hf
  · rename_i e0
    cases e0
    split at hf
    · rename_i hz
      cases hf
      cases bxr
      obtain ⟨y, rfl, b1⟩ := bor1 bs
      have b1 := b1.rp
      cases b1
      exact ⟨_, _, rfl, rfl, hz, q H _ (Same.refl _) (.str _)⟩
    · cases hf
  · cases hf
end
end VL

namespace VZ
open PySem
open Sem (wp)
theorem nolen : typeLookup (.type "zip") "__len__" = pure none := by
  rw [typeLookup_type, builtinLookup_eq_fast]
  kernel_rfl
theorem nohint : typeLookup (.type "zip") "__length_hint__" = pure none := by
  rw [typeLookup_type, builtinLookup_eq_fast]
  kernel_rfl
section
variable {prog : Program} {w : World} {A : Around} {E : Value → Shared → Prop} {s : Shared} {L z TI TO T i1 i2 : Addr} {fp1 fp2 : List Addr} {n1 n2 i : Nat} {P1 P2 : Nat → Value → Prop} {St1 St2 : Nat → Heap → Prop} {f : Bool} {oT : Obj}
/-- a turn while the tuple of the turn before is out -/
theorem turn {Q : Value → Shared → Prop} (S : ZipSep2 z TI TO i1 i2 fp1 fp2) (D1 : Draws prog w A i1 fp1 n1 P1 St1) (D2 : Draws prog w A i2 fp2 n2 P2 St2) (hz : IsZipHeld s.heap z TI TO T f) (hT : s.heap.get? T = some oT) (hI : IsTupOf2 s.heap TI (.ref i1) (.ref i2)) (a1 : St1 i s.heap) (a2 : St2 i s.heap) (l1 : i < n1) (l2 : i < n2)
    (hQ : ∀ x y h' tk, P1 i x → P2 i y → IsZipHeld h' z TI TO T true → St1 (i + 1) h' → St2 (i + 1) h' → IsTupOf2 h' s.heap.objs.size x y → (∀ c o, c ≠ z → c ≠ i1 → c ≠ i2 → s.heap.get? c = some o → h'.get? c = some o) → Q (.ref s.heap.objs.size) { s with heap := h', toks := tk }) :
    wpAny (model prog w) A (Builtin.«zip.__next__» ⟨[.ref z], []⟩) (fun r s' => ∃ v, r = .done (.ret v) ∧ Q v s') E s := by
  obtain ⟨hp, g, d, tk0, os⟩ := s
  show wpAny _ _ (field (.ref z) 2 >>= _) _ _ _
  refine wpAny_bind (wpAny_field hz rfl (x := Value.bool false) rfl ?_)
  show wpAny _ _ (field (.ref z) 3 >>= _) _ _ _
  refine wpAny_bind (wpAny_field hz rfl (x := Value.ref TI) rfl (wpAny_bind (wpAny_seqItems hI rfl ?_)))
  show wpAny _ _ (Builtin.SmallTypes.ownedTupleIsFree (.ref z) >>= _) _ _ _
  refine wpAny_bind (wpAny_tupleHeld_zip hz hT fun k1 kz ks => ?_)
  replace kz : IsZipHeld k1 z TI TO T true := kz
  replace ks : Heap.SameBut z hp k1 := ks
  simp only [Bool.false_eq_true, if_false]
  refine wpAny_bind ?_
  rw [← Array.forIn_toList]
  simp only [List.forIn_cons, List.forIn_nil]
  refine wpAny_bind (wpAny_bind (wpAny_holding ?_))
  show wpAny _ _ (Builtin.SmallTypes.nextOf (.ref i1) >>= _) _ _ ⟨k1, g, d, tk0, os⟩
  refine wpAny_bind (D1.item i ⟨k1, g, d, tk0, os⟩ _ _ l1 (D1.over a1 ks S.zf1) fun x k2 t2 px b1 s2 => wpAny_pure (wpAny_pure ?_))
  replace s2 : Heap.SameBut i1 k1 k2 := s2
  refine wpAny_bind (wpAny_bind (wpAny_holding ?_))
  show wpAny _ _ (Builtin.SmallTypes.nextOf (.ref i2) >>= _) _ _ ⟨k2, g, d, t2, os⟩
  refine wpAny_bind (D2.item i ⟨k2, g, d, t2, os⟩ _ _ l2 (D2.over (D2.over a2 ks S.zf2) s2 S.sep1_2) fun y k3 t3 py b2 s3 => wpAny_pure (wpAny_pure (wpAny_pure ?_)))
  replace s3 : Heap.SameBut i2 k2 k3 := s3
  show wpAny _ _ (newTuple [x, y] >>= _) _ _ _
  refine wpAny_bind (wpAny_newTuple ?_)
  have ez : k3.objs.size = hp.objs.size := by rw [s3.1, s2.1, ks.1]
  have z3 : IsZipHeld k3 z TI TO T true := s3.extBut _ _ S.zi2 (s2.extBut _ _ S.zi1 kz)
  have kk : ∀ c o, c ≠ z → c ≠ i1 → c ≠ i2 → hp.get? c = some o → k3.get? c = some o := fun c o n0 n1 n2 e => s3.extBut _ _ n2 (s2.extBut _ _ n1 (ks.extBut _ _ n0 e))
  refine wpAny_pure ⟨_, rfl, ?_⟩
  show Q (.ref k3.objs.size) ⟨k3.push { cls := .type "tuple", data := .seq #[x, y] }, g, d, t3, os⟩
  have hp2 : IsTupOf2 (k3.push { cls := .type "tuple", data := .seq #[x, y] }) k3.objs.size x y := Heap.get?_push_size _ rfl
  rw [ez] at hp2 ⊢
  exact hQ x y _ t3 px py (Heap.get?_push_of_some _ z3) (D1.frame _ _ _ (D1.over b1 s3 S.sep2_1) fun b _ o e => Heap.get?_push_of_some _ e) (D2.frame _ _ _ b2 fun b _ o e => Heap.get?_push_of_some _ e) hp2 fun c o n0 n1 n2 e => Heap.get?_push_of_some _ (kk c o n0 n1 n2 e)
/-- the end, likewise: both are as long -/
theorem stop {Q : Fin → Shared → Prop} (S : ZipSep2 z TI TO i1 i2 fp1 fp2) (D1 : Draws prog w A i1 fp1 n1 P1 St1) (hz : IsZipHeld s.heap z TI TO T f) (hT : s.heap.get? T = some oT) (hI : IsTupOf2 s.heap TI (.ref i1) (.ref i2)) (a1 : St1 n1 s.heap)
    (hE : ∀ h' tk e, (∀ c o, c ≠ z → c ≠ i1 → c ≠ i2 → s.heap.get? c = some o → h'.get? c = some o) → (∃ o, h'.get? e = some o ∧ o.cls = .type "StopIteration") → E (.ref e) { s with heap := h', toks := tk }) :
    wpAny (model prog w) A (Builtin.«zip.__next__» ⟨[.ref z], []⟩) Q E s := by
  obtain ⟨hp, g, d, tk0, os⟩ := s
  show wpAny _ _ (field (.ref z) 2 >>= _) _ _ _
  refine wpAny_bind (wpAny_field hz rfl (x := Value.bool false) rfl ?_)
  show wpAny _ _ (field (.ref z) 3 >>= _) _ _ _
  refine wpAny_bind (wpAny_field hz rfl (x := Value.ref TI) rfl (wpAny_bind (wpAny_seqItems hI rfl ?_)))
  show wpAny _ _ (Builtin.SmallTypes.ownedTupleIsFree (.ref z) >>= _) _ _ _
  refine wpAny_bind (wpAny_tupleHeld_zip hz hT fun k1 kz ks => ?_)
  replace ks : Heap.SameBut z hp k1 := ks
  simp only [Bool.false_eq_true, if_false]
  refine wpAny_bind ?_
  rw [← Array.forIn_toList]
  simp only [List.forIn_cons, List.forIn_nil]
  refine wpAny_bind (wpAny_bind (wpAny_holding ?_))
  show wpAny _ _ (Builtin.SmallTypes.nextOf (.ref i1) >>= _) _ _ ⟨k1, g, d, tk0, os⟩
  refine wpAny_bind (D1.done ⟨k1, g, d, tk0, os⟩ _ _ (D1.over a1 ks S.zf1) fun q e hq he => ?_)
  exact hE q tk0 e (fun c o n0 n1 _ x => hq _ _ n1 (ks.extBut _ _ n0 x)) he
def At (L z TI TO i1 i2 : Addr) (St1 St2 : Nat → Heap → Prop) (i : Nat) (h : Heap) : Prop := IsTupOf2 h TI (.ref i1) (.ref i2) ∧ St1 i h ∧ St2 i h ∧
  ((IsZip h z TI TO .none ∧ ∃ a b, IsTupOf2 h TO a b) ∨ ∃ T f oT, IsZipHeld h z TI TO T f ∧ h.get? T = some oT ∧ T ≠ z ∧ T ≠ i1 ∧ T ≠ i2 ∧ T ≠ L)
theorem next {Q : Option Value → Shared → Prop} (S : ZipSep2 z TI TO i1 i2 fp1 fp2) (D1 : Draws prog w A.in1 i1 fp1 n1 P1 St1) (D2 : Draws prog w A.in1 i2 fp2 n2 P2 St2) (h : At L z TI TO i1 i2 St1 St2 i s.heap) (hL : ∃ o, s.heap.get? L = some o) (l1 : i < n1) (l2 : i < n2)
    (hQ : ∀ x y h' tk, P1 i x → P2 i y → At L z TI TO i1 i2 St1 St2 (i + 1) h' → IsTupOf2 h' s.heap.objs.size x y → (∀ c o, c ≠ z → c ≠ TO → c ≠ i1 → c ≠ i2 → s.heap.get? c = some o → h'.get? c = some o) → Q (some (.ref s.heap.objs.size)) { s with heap := h', toks := tk }) :
    wpAny (model prog w) A (pyNext (.ref z)) Q E s := by
  obtain ⟨hI, a1, a2, h | ⟨T, f, oT, hz, hT, m0, m1, m2, m3⟩⟩ := h
  · obtain ⟨hz, a, b, hO⟩ := h
    refine wpAny_pyNext_zipD2_item S D1 D2 hz hI hO a1 a2 l1 l2 fun x y h' tk px py q1 q2 q3 q4 q5 q6 q7 => hQ x y h' tk px py ?_ q5 q7
    have lt : ∀ {c o}, s.heap.get? c = some o → s.heap.objs.size ≠ c := fun e => Nat.ne_of_gt (Heap.lt_size e)
    obtain ⟨_, e1⟩ := D1.live _ _ a1
    obtain ⟨_, e2⟩ := D2.live _ _ a2
    obtain ⟨_, eL⟩ := hL
    exact ⟨q7 _ _ S.TIz S.TITO S.TIi1 S.TIi2 hI, q3, q4, .inr ⟨s.heap.objs.size, false, _, q1, q5, lt hz, lt e1, lt e2, lt eL⟩⟩
  · have hTy : s.TypeIs (.ref z) "zip" := ⟨_, hz, rfl⟩
    unfold pyNext
    refine wpAny_bind (wpAny_attempt (wpAny_callSpecial?_slot (name := Str.ofString "__next__") hTy F.slot_zip_next (wpAny_call_entry F.slot_zip_next hTy F.entry_zip_next ?_ (F.args_zip_next_1 _))))
    refine turn S D1 D2 hz hT hI a1 a2 l1 l2 fun x y h' tk px py q1 q3 q4 q5 q7 => wpAny_pure (hQ x y h' tk px py ?_ q5 fun c o n0 _ n1 n2 e => q7 c o n0 n1 n2 e)
    exact ⟨q7 _ _ S.TIz S.TIi1 S.TIi2 hI, q3, q4, .inr ⟨T, true, oT, q1, q7 _ _ m0 m1 m2 hT, m0, m1, m2, m3⟩⟩
theorem last {Q : Option Value → Shared → Prop} (S : ZipSep2 z TI TO i1 i2 fp1 fp2) (D1 : Draws prog w A.in1 i1 fp1 n1 P1 St1) (D2 : Draws prog w A.in1 i2 fp2 n2 P2 St2) (e12 : n1 = n2) (h : At L z TI TO i1 i2 St1 St2 n1 s.heap)
    (hQ : ∀ h' tk, (∀ c o, c ≠ z → c ≠ TO → c ≠ i1 → c ≠ i2 → s.heap.get? c = some o → h'.get? c = some o) → Q none { s with heap := h', toks := tk }) : wpAny (model prog w) A (pyNext (.ref z)) Q E s := by
  obtain ⟨hI, a1, a2, h | ⟨T, f, oT, hz, hT, m0, m1, m2, m3⟩⟩ := h
  · obtain ⟨hz, a, b, hO⟩ := h
    exact wpAny_pyNext_zipD2_end S D1 D2 hz hI hO a1 a2 (Nat.le_refl _) (Nat.le_of_eq e12) (.inl rfl) hQ
  · have hTy : s.TypeIs (.ref z) "zip" := ⟨_, hz, rfl⟩
    unfold pyNext
    refine wpAny_bind (wpAny_attempt (wpAny_callSpecial?_slot (name := Str.ofString "__next__") hTy F.slot_zip_next (wpAny_call_entry F.slot_zip_next hTy F.entry_zip_next ?_ (F.args_zip_next_1 _))))
    refine stop S D1 hz hT hI a1 fun h' tk e hk he => ?_
    obtain ⟨o, ho, hc⟩ := he
    exact wpAny_bind (wpAny_isInstance (T := "StopIteration") (b := true) ⟨o, ho, hc⟩ isSubtype_stop (wpAny_pure (hQ _ _ fun c o n0 _ n1 n2 e => hk c o n0 n1 n2 e)))
end
end VZ

namespace VZ
open PySem
open Sem (wp)
open AutoSeq1 (wpAny_loadPart')
section
variable {prog : Program} {w : World} {A : Around} {E : Value → Shared → Prop} {s : Shared} {z TI TO L i1 i2 N : Addr} {fp1 fp2 : List Addr} {n i : Nat} {P1 P2 : Nat → Value → Prop} {St1 St2 : Nat → Heap → Prop}
/-- what was gathered in i turns -/
def Got (P1 P2 : Nat → Value → Prop) (N : Addr) (h : Heap) (acc : Array Value) (i : Nat) : Prop := acc.size = i ∧ ∀ j v, acc[j]? = some v → ∃ T x y, v = .ref T ∧ N ≤ T ∧ P1 j x ∧ P2 j y ∧ IsTupOf2 h T x y
theorem Got.next {h h' : Heap} {acc : Array Value} {x y : Value} {T : Addr} (g : Got P1 P2 N h acc i) (k : ∀ c o, N ≤ c → h.get? c = some o → h'.get? c = some o) (hT : N ≤ T) (p1 : P1 i x) (p2 : P2 i y) (t : IsTupOf2 h' T x y) : Got P1 P2 N h' (acc.push (.ref T)) (i + 1) := by
  refine ⟨by rw [Array.size_push, g.1], fun j v hj => ?_⟩
  rw [Array.getElem?_push] at hj
  split at hj
  · rename_i e
    rw [g.1] at e
    cases hj
    subst e
    exact ⟨T, x, y, rfl, hT, p1, p2, t⟩
  · obtain ⟨T', x', y', q1, q2, q3, q4, q5⟩ := g.2 j v hj
    exact ⟨T', x', y', q1, q2, q3, q4, k _ _ q2 q5⟩
theorem Got.keep {h h' : Heap} {acc : Array Value} (g : Got P1 P2 N h acc i) (k : ∀ c o, N ≤ c → h.get? c = some o → h'.get? c = some o) : Got P1 P2 N h' acc i := ⟨g.1, fun j v hj => by
  obtain ⟨T', x', y', q1, q2, q3, q4, q5⟩ := g.2 j v hj
  exact ⟨T', x', y', q1, q2, q3, q4, k _ _ q2 q5⟩⟩
/-- z and its parts lie below N, L too -/
structure Low (N z TI TO L i1 i2 : Addr) (fp1 fp2 : List Addr) : Prop where
  zN : z < N
  ON : TO < N
  LN : L < N
  iN : i1 < N
  jN : i2 < N
  Lz : L ≠ z
  LI : L ≠ TI
  LO : L ≠ TO
  Li : L ≠ i1
  Lj : L ≠ i2
  f1 : L ∉ fp1
  f2 : L ∉ fp2
abbrev Lst (h : Heap) (L : Addr) (acc : Array Value) (c : Nat) : Prop := h.get? L = some { cls := .type "list", dict := none, data := .seq acc c, slots := #[] }
theorem At.over {h h' : Heap} (a : At L z TI TO i1 i2 St1 St2 i h) (lo : Low N z TI TO L i1 i2 fp1 fp2) (sb : Heap.SameBut L h h') (D1 : Draws prog w A.in1 i1 fp1 n P1 St1) (D2 : Draws prog w A.in1 i2 fp2 n P2 St2) : At L z TI TO i1 i2 St1 St2 i h' := by
  obtain ⟨hI, a1, a2, hh⟩ := a
  refine ⟨sb.extBut _ _ (Ne.symm lo.LI) hI, D1.over a1 sb lo.f1, D2.over a2 sb lo.f2, ?_⟩
  rcases hh with ⟨hz, b, c, hO⟩ | ⟨T, f, o, hz, hT, m0, m1, m2, m3⟩
  · exact .inl ⟨sb.extBut _ _ (Ne.symm lo.Lz) hz, b, c, sb.extBut _ _ (Ne.symm lo.LO) hO⟩
  · exact .inr ⟨T, f, o, sb.extBut _ _ (Ne.symm lo.Lz) hz, sb.extBut _ _ m3 hT, m0, m1, m2, m3⟩
def Kp (z TO L i1 i2 : Addr) (h h' : Heap) : Prop := ∀ c o, c ≠ z → c ≠ TO → c ≠ L → c ≠ i1 → c ≠ i2 → h.get? c = some o → h'.get? c = some o
theorem loop {R : Result → Shared → Prop} (S : ZipSep2 z TI TO i1 i2 fp1 fp2) (D1 : Draws prog w A.in1.in1 i1 fp1 n P1 St1) (D2 : Draws prog w A.in1.in1 i2 fp2 n P2 St2) (lo : Low N z TI TO L i1 i2 fp1 fp2) (hn : n ≤ sizeLine) (res : Value) :
    ∀ (k i : Nat) (s : Shared) (acc : Array Value) (c : Nat), n - i = k → i ≤ n → N ≤ s.heap.objs.size → At L z TI TO i1 i2 St1 St2 i s.heap → Lst s.heap L acc c → Got P1 P2 N s.heap acc i →
    (∀ h' tk acc' c', Kp z TO L i1 i2 s.heap h' → Lst h' L acc' c' → Got P1 P2 N h' acc' n → R (.ok (.ret res)) { s with heap := h', toks := tk }) →
    codeAny (model prog w) A (.builtin "list.extend.loop" ⟨[.ref L, .ref z, res], []⟩) R s := by
  intro k
  induction k with
  | zero =>
    intro i s acc c hk hi hN hst hL hg hR
    have e : i = n := by omega
    subst e
    refine codeAny_builtin F.entry_extend_loop ?_
    rw [Around.under_plainId F.plain_extend_loop _]
    show wpAny _ A.in1 (pyNext (.ref z) >>= _) _ _ s
    refine wpAny_bind (last S D1 D2 rfl hst fun h' tk hk => wpAny_pure (hR h' tk acc c (fun c o n0 n1 _ n3 n4 e => hk c o n0 n1 n3 n4 e) (hk _ _ lo.Lz lo.LO lo.Li lo.Lj hL) (hg.keep fun c o hc e => ?_)))
    have q1 := lo.zN
    have q2 := lo.ON
    have q3 := lo.iN
    have q4 := lo.jN
    exact hk c o (Nat.ne_of_gt (Nat.lt_of_lt_of_le q1 hc)) (Nat.ne_of_gt (Nat.lt_of_lt_of_le q2 hc)) (Nat.ne_of_gt (Nat.lt_of_lt_of_le q3 hc)) (Nat.ne_of_gt (Nat.lt_of_lt_of_le q4 hc)) e
  | succ k ih =>
    intro i s acc c hk hi hN hst hL hg hR
    have hlt : i < n := by omega
    refine codeAny_builtin F.entry_extend_loop ?_
    rw [Around.under_plainId F.plain_extend_loop _]
    show wpAny _ A.in1 (pyNext (.ref z) >>= _) _ _ s
    refine wpAny_bind (next S D1 D2 hst ⟨_, hL⟩ hlt hlt fun x y h1 tk px py hst1 hT hk1 => ?_)
    have q1 := lo.zN
    have q2 := lo.ON
    have q3 := lo.iN
    have q4 := lo.jN
    have q5 := lo.LN
    have hi1 : ∀ c o, N ≤ c → s.heap.get? c = some o → h1.get? c = some o := fun c o hc e => hk1 c o (Nat.ne_of_gt (Nat.lt_of_lt_of_le q1 hc)) (Nat.ne_of_gt (Nat.lt_of_lt_of_le q2 hc)) (Nat.ne_of_gt (Nat.lt_of_lt_of_le q3 hc)) (Nat.ne_of_gt (Nat.lt_of_lt_of_le q4 hc)) e
    have hL1 : Lst h1 L acc c := hk1 _ _ lo.Lz lo.LO lo.Li lo.Lj hL
    show wpAny _ A.in1 (updateSeq L (·.push (.ref s.heap.objs.size)) >>= _) _ _ _
    refine wpAny_bind (wpAny_updateSeq (s := { s with heap := h1, toks := tk }) hL1 rfl (wpAny_pure ⟨plainId_quiet F.plain_extend_loop _, ?_⟩) (by rw [hg.1]; omega) (by show (acc.push (Value.ref s.heap.objs.size)).size ≤ sizeLine + 1; rw [Array.size_push, hg.1]; omega))
    have sb : Heap.SameBut L h1 (h1.update L (Obj.mapSeq (·.push (.ref s.heap.objs.size)))) := Heap.SameBut.update ..
    have hN1 : N ≤ h1.objs.size := Nat.le_of_lt (Nat.lt_of_le_of_lt hN (Heap.lt_size hT))
    refine ih (i + 1) _ (acc.push (.ref s.heap.objs.size)) _ (by omega) hlt (by show N ≤ (h1.update L _).objs.size; rw [sb.1]; exact hN1) (hst1.over lo sb D1 D2) (Heap.get?_update_self _ hL1 rfl) ((hg.next hi1 hN px py hT).keep fun c o hc e => sb.extBut _ _ (Nat.ne_of_gt (Nat.lt_of_lt_of_le q5 hc)) e) fun h2 tk2 acc2 c2 hk2 hL2 hg2 => ?_
    exact hR h2 tk2 acc2 c2 (fun c o n0 n1 n2 n3 n4 e => hk2 c o n0 n1 n2 n3 n4 (sb.extBut _ _ n2 (hk1 c o n0 n1 n3 n4 e))) hL2 hg2
/-- all turns of z, gathered: z's parts are as they were made -/
theorem gather {Q : List Value → Shared → Prop} (S : ZipSep2 z TI TO i1 i2 fp1 fp2) (D1 : Draws prog w A.in1.in1 i1 fp1 n P1 St1) (D2 : Draws prog w A.in1.in1 i2 fp2 n P2 St2) (lt : ∀ b ∈ z :: TI :: TO :: i1 :: i2 :: (fp1 ++ fp2), b < s.heap.objs.size) (hn : n ≤ sizeLine)
    (hI : IsTupOf2 s.heap TI (.ref i1) (.ref i2)) (hz : IsZip s.heap z TI TO .none) (hO : ∃ a b, IsTupOf2 s.heap TO a b) (a1 : St1 0 s.heap) (a2 : St2 0 s.heap)
    (hQ : ∀ h' tk acc, (∀ c o, c ≠ z → c ≠ TO → c ≠ i1 → c ≠ i2 → s.heap.get? c = some o → h'.get? c = some o) → Got P1 P2 s.heap.objs.size h' acc n → Q acc.toList { s with heap := h', toks := tk }) :
    wpAny (model prog w) A (collect (.ref z)) Q E s := by
  have hL0 : ∀ b ∈ z :: TI :: TO :: i1 :: i2 :: (fp1 ++ fp2), s.heap.objs.size ≠ b := fun b hb => Nat.ne_of_gt (lt b hb)
  have lo : Low (s.heap.objs.size + 1) z TI TO s.heap.objs.size i1 i2 fp1 fp2 :=
    ⟨Nat.lt_succ_of_lt (lt z (by simp)), Nat.lt_succ_of_lt (lt TO (by simp)), Nat.lt_succ_self _, Nat.lt_succ_of_lt (lt i1 (by simp)), Nat.lt_succ_of_lt (lt i2 (by simp)), hL0 z (by simp), hL0 TI (by simp), hL0 TO (by simp), hL0 i1 (by simp), hL0 i2 (by simp), fun m => hL0 _ (by simp [m]) rfl, fun m => hL0 _ (by simp [m]) rfl⟩
  unfold collect
  refine wpAny_bind (wpAny_runValue (codeAny_builtin F.entry_proto_collect ?_))
  rw [Around.under_plainId F.plain_proto_collect _]
  show wpAny _ A.in1 (newList [] >>= fun l => again (.builtin "list.__iadd__" ⟨[l, .ref z], []⟩)) _ _ s
  refine wpAny_bind (wpAny_newObj_type (wpAny_pure ⟨plainId_quiet F.plain_list_iadd _, codeAny_builtin F.entry_list_iadd ?_⟩))
  rw [Around.under_plainId F.plain_list_iadd _]
  obtain ⟨h0, eh0⟩ : ∃ h0, h0 = s.heap.push { cls := .type "list", data := .seq ([] : List Value).toArray } := ⟨_, rfl⟩
  have hb0 : ∀ c o, s.heap.get? c = some o → h0.get? c = some o := fun c o e => by rw [eh0]; exact Heap.get?_push_of_some _ e
  have hS0 : Lst h0 s.heap.objs.size ([] : List Value).toArray 0 := by rw [eh0]; exact Heap.get?_push_size _ rfl
  have hz0 : IsZip h0 z TI TO .none := hb0 _ _ hz
  have sz0 : h0.objs.size = s.heap.objs.size + 1 := by rw [eh0, Heap.size_push]
  rw [← eh0]
  have hTy : ({ s with heap := h0 } : Shared).TypeIs (.ref z) "zip" := ⟨_, hz0, rfl⟩
  show wpAny _ A.in1 (Builtin.List.listExtendWith (.ref s.heap.objs.size) (.ref z) (.ref s.heap.objs.size)) _ _ _
  unfold Builtin.List.listExtendWith
  refine wpAny_bind (wpAny_typeOf hTy ?_)
  have c1 : Builtin.List.listSameRef (.ref s.heap.objs.size) (.ref z) = false := by simp [Builtin.List.listSameRef, lo.Lz]
  have c2 : (Value.type "zip" == Value.type "list") = false := by decide
  have c3 : (Value.type "zip" == Value.type "tuple") = false := by decide
  simp only [c1, c2, c3, Bool.or_false, Bool.false_eq_true, if_false]
  refine wpAny_bind (wpAny_pyIter_zip (s := { s with heap := h0 }) hz0 ?_)
  refine wpAny_bind (wpAny_holding ?_)
  unfold Builtin.List.listLengthHint
  refine wpAny_bind (wpAny_specialOf hTy nolen ?_)
  show wpAny _ A.in1 (specialOf (Value.ref z) (Str.ofString "__length_hint__") >>= _) _ _ _
  refine wpAny_bind (wpAny_specialOf hTy nohint (wpAny_pure ?_))
  show wpAny _ A.in1 (rule "list.extend.makes-room" >>= fun _ => Builtin.List.listTouch (.ref s.heap.objs.size) >>= fun _ => again (.builtin "list.extend.loop" ⟨[.ref s.heap.objs.size, .ref z, .ref s.heap.objs.size], []⟩)) _ _ _
  refine wpAny_bind (wpAny_rule (wpAny_bind ?_))
  show wpAny _ A.in1 (updateSeq s.heap.objs.size (·.push .none) >>= fun _ => updateSeq s.heap.objs.size (·.pop)) _ _ _
  refine wpAny_bind (wpAny_updateSeq (s := { s with heap := h0 }) hS0 rfl ?_)
  have hS1 := Heap.get?_update_self (Obj.mapSeq (·.push Value.none)) hS0 rfl
  refine wpAny_updateSeq hS1 rfl ?_
  have hS2 := Heap.get?_update_self (Obj.mapSeq (·.pop)) hS1 rfl
  have sb1 : Heap.SameBut s.heap.objs.size h0 (h0.update s.heap.objs.size (Obj.mapSeq (·.push Value.none))) := Heap.SameBut.update ..
  have sb2 : Heap.SameBut s.heap.objs.size (h0.update s.heap.objs.size (Obj.mapSeq (·.push Value.none))) ((h0.update s.heap.objs.size (Obj.mapSeq (·.push Value.none))).update s.heap.objs.size (Obj.mapSeq (·.pop))) := Heap.SameBut.update ..
  have at0 : At s.heap.objs.size z TI TO i1 i2 St1 St2 0 h0 := ⟨hb0 _ _ hI, D1.frame _ _ _ a1 fun b _ o e => hb0 b o e, D2.frame _ _ _ a2 fun b _ o e => hb0 b o e, .inl ⟨hz0, let ⟨a, b, h⟩ := hO; ⟨a, b, hb0 _ _ h⟩⟩⟩
  refine wpAny_pure ⟨plainId_quiet F.plain_extend_loop _, loop (N := s.heap.objs.size + 1) S D1 D2 lo hn _ n 0 _ _ _ rfl (Nat.zero_le _) (Nat.le_of_eq (sz0.symm.trans (sb1.1.symm.trans sb2.1.symm))) ((at0.over lo sb1 D1 D2).over lo sb2 D1 D2) hS2 ⟨rfl, fun j v hj => by simp at hj⟩ fun h' tk acc c hk hL hg => ?_⟩
  show wpAny _ A (load s.heap.objs.size >>= _) _ _ _
  refine wpAny_bind (wpAny_load hL (wpAny_pure ?_))
  refine hQ h' tk acc (fun c o n0 n1 n3 n4 e => ?_) ⟨hg.1, fun j v hj => ?_⟩
  · have nL : c ≠ s.heap.objs.size := fun q => Nat.lt_irrefl _ (q ▸ Heap.lt_size e)
    exact hk c o n0 n1 nL n3 n4 (sb2.extBut _ _ nL (sb1.extBut _ _ nL (hb0 c o e)))
  · obtain ⟨T, x, y, r1, r2, r3⟩ := hg.2 j v hj
    exact ⟨T, x, y, r1, Nat.le_of_succ_le r2, r3⟩
theorem code_new {Q : Value → Shared → Prop} (S : ZipSep2 z TI TO i1 i2 fp1 fp2) (D1 : Draws prog w A.in1.in1.in1 i1 fp1 n P1 St1) (D2 : Draws prog w A.in1.in1.in1 i2 fp2 n P2 St2) (lt : ∀ b ∈ z :: TI :: TO :: i1 :: i2 :: (fp1 ++ fp2), b < s.heap.objs.size) (hn : n ≤ sizeLine)
    (hI : IsTupOf2 s.heap TI (.ref i1) (.ref i2)) (hz : IsZip s.heap z TI TO .none) (hO : ∃ a b, IsTupOf2 s.heap TO a b) (a1 : St1 0 s.heap) (a2 : St2 0 s.heap)
    (hQ : ∀ h' tk acc, (∀ c o, c ≠ z → c ≠ TO → c ≠ i1 → c ≠ i2 → s.heap.get? c = some o → h'.get? c = some o) → Got P1 P2 s.heap.objs.size h' acc n → Q (.ref h'.objs.size) { s with heap := h'.push { cls := .type "tuple", data := .seq acc }, toks := tk }) :
    codeAny (model prog w) A (.call (.builtin "tuple.__new__") ⟨[.type "tuple", .ref z], []⟩) (wants Q E) s := by
  refine codeAny_of_tree ?_
  show wpAny _ A.in1 (do checkBuiltinCall "tuple.__new__" ⟨[.type "tuple", .ref z], []⟩; again (.builtin "tuple.__new__" ⟨[.type "tuple", .ref z], []⟩)) _ _ s
  refine wpAny_bind (wpAny_of_eq (F.newCall_tuple_1 _) (wpAny_pure ⟨plainId_quiet F.plain_tuple_new _, codeAny_builtin F.entry_tuple_new ?_⟩))
  rw [Around.under_plainId F.plain_tuple_new _]
  have f1 := sub_tuple_self
  have f2 := init_tuple_lookup
  have f3 := madeHere_tuple
  have hTI : s.TypeIs (.ref z) "zip" := ⟨_, hz, rfl⟩
  wp_walk using wpAny_typeOf hTI, gather (A := A.in1) S D1 D2 lt hn hI hz hO a1 a2
  intro h' tk acc hk hg
  show wpAny _ _ (Builtin.Tuple.tupleExact acc.toList.toArray >>= fun v => ret v) _ _ _
  unfold Builtin.Tuple.tupleExact
  have e : acc.toList.toArray = acc := by simp
  rw [e]
  exact wpAny_bind (wpAny_newObj_type (wpAny_pure (hQ h' tk acc hk hg)) (by show acc.size ≤ sizeLine; rw [hg.1]; exact hn))
theorem call_tup {Q : Value → Shared → Prop} (S : ZipSep2 z TI TO i1 i2 fp1 fp2) (D1 : Draws prog w A.in1.in1.in1.in1 i1 fp1 n P1 St1) (D2 : Draws prog w A.in1.in1.in1.in1 i2 fp2 n P2 St2) (lt : ∀ b ∈ z :: TI :: TO :: i1 :: i2 :: (fp1 ++ fp2), b < s.heap.objs.size) (hn : n ≤ sizeLine)
    (hI : IsTupOf2 s.heap TI (.ref i1) (.ref i2)) (hz : IsZip s.heap z TI TO .none) (hO : ∃ a b, IsTupOf2 s.heap TO a b) (a1 : St1 0 s.heap) (a2 : St2 0 s.heap)
    (hQ : ∀ h' tk acc, (∀ c o, c ≠ z → c ≠ TO → c ≠ i1 → c ≠ i2 → s.heap.get? c = some o → h'.get? c = some o) → Got P1 P2 s.heap.objs.size h' acc n → Q (.ref h'.objs.size) { s with heap := h'.push { cls := .type "tuple", data := .seq acc }, toks := tk }) :
    wpAny (model prog w) A (call (.type "tuple") [.ref z]) Q E s := by
  refine callType_codes (Q₁ := fun obj s₁ => s₁.TypeIs obj "tuple" ∧ Q obj s₁) F.called_tuple (F.typeCall_tuple_1 _) F.entry_object_init (code_new (A := A.in1) S D1 D2 lt hn hI hz hO a1 a2 fun h' tk acc hk hg => ⟨⟨_, Heap.get?_push_size _ rfl, rfl⟩, hQ h' tk acc hk hg⟩) fun obj s₁ h₁ => ?_
  exact ⟨h₁.1, F.args_object_init_2 obj _, object_init_meets F.called_tuple.init.lookup F.called_tuple.made (by decide) prog w A.in1 _ s₁ ⟨h₁.1, rfl, h₁.2⟩⟩
end
end VZ

namespace VL
open PySem PySem.Spec L2
open PyProof.Rows hiding St

/-- many new objects are tracked at once -/
theorem inv_add {X : Cx} {pins : List (Addr × Obj)} {σ : St} {H H' : Hp} {s : Shared} {h' : Heap} {t' : Nat} (I : Inv X pins σ H s) (k : ∀ b u, s.heap.get? b = some u → h'.get? b = some u) (old : ∀ b, b < s.heap.objs.size → H' b = H b)
    (new : ∀ b o, s.heap.objs.size ≤ b → H' b = some o → ObjOk X.prog X.w H' h' b o) : Inv X pins σ H' { s with heap := h', toks := t' } := by
  have lo : ∀ b o, H b = some o → H' b = some o := fun b o e => by rw [old b (I.hok.lt e)]; exact e
  refine I.un ⟨fun b o e _ _ _ => k b o e, fun b o e _ _ _ => ⟨o.slots, k b o e⟩, fun b o e n _ => by rw [old b (Heap.lt_size e)]; exact n, fun b o e _ => ⟨o, k b o e⟩, fun b xs e => lo _ _ e, fun b o u e => lo _ _ e, fun b ps e => ⟨#[], by rw [lo _ _ e]; simp⟩⟩ fun b o e => ?_
  by_cases hb : b < s.heap.objs.size
  · rw [old b hb] at e
    exact (I.hok b o e).stay (fun c v _ q => k c v q) (fun c q => lo _ _ q) fun c xs q => lo _ _ q
  · exact new b o (Nat.le_of_not_lt hb) e
open Classical in
/-- pairs of texts that are new -/
noncomputable def dec (h : Heap) (b : Addr) : Option HO := if p : ∃ x y t u, IsTupOf2 h b (.str x t) (.str y u) then some (.tup [.str p.choose, .str p.choose_spec.choose]) else none
theorem dec_of {h : Heap} {b : Addr} {o : HO} (e : dec h b = some o) : ∃ x y t u, IsTupOf2 h b (.str x t) (.str y u) ∧ o = .tup [.str x, .str y] := by
  unfold dec at e
  split at e
  · rename_i p
    obtain ⟨t, u, q⟩ := p.choose_spec.choose_spec
    cases e
    exact ⟨_, _, t, u, q, rfl⟩
  · cases e
theorem dec_at {h : Heap} {b : Addr} {x y : Str} {t u : Tok} (e : IsTupOf2 h b (.str x t) (.str y u)) : dec h b = some (.tup [.str x, .str y]) := by
  have p : ∃ x y t u, IsTupOf2 h b (.str x t) (.str y u) := ⟨x, y, t, u, e⟩
  unfold dec
  rw [dif_pos p]
  obtain ⟨t2, u2, q⟩ := p.choose_spec.choose_spec
  have z : some ({ cls := .type "tuple", data := .seq #[.str x t, .str y u] } : Obj) = some { cls := .type "tuple", data := .seq #[.str p.choose t2, .str p.choose_spec.choose u2] } := e.symm.trans q
  have z2 := Option.some.inj z
  simp only [Obj.mk.injEq, Data.seq.injEq, Array.mk.injEq, List.cons.injEq, Value.str.injEq, true_and, and_true] at z2
  have w1 : p.choose = x := z2.1.1.symm
  have w2 : p.choose_spec.choose = y := z2.2.1.symm
  exact congrArg some (congrArg HO.tup (by rw [show V.str p.choose = V.str x from congrArg V.str w1, show V.str p.choose_spec.choose = V.str y from congrArg V.str w2]))
def pairV (x y : Str) (j : Nat) : List V := [.str ⟨#[x.cps.getD j 0]⟩, .str ⟨#[y.cps.getD j 0]⟩]
/-- tuple(zip(text, text)), both as long -/
def tTupZip (t : TA) : TE := fun σ H Q => t σ H fun vs H1 => ∃ x y : Str, vs = [.str x, .str y] ∧ x.length = y.length ∧ x.length ≤ sizeLine ∧
  ∀ (H2 : Hp) (T : Addr) (Ts : List Addr), Same H1 H2 → H1 T = none → H2 T = some (.tup (Ts.map V.ref)) → Ts.length = x.length → (∀ j A, Ts[j]? = some A → H1 A = none ∧ H2 A = some (.tup (pairV x y j))) → Q (.ref T) H2
section
variable {Y : Cx} {a b : Expr} {t : TA} {p1 p2 p3 p4 : Pos}
def refD : Value → Addr
  | .ref a => a
  | _ => 0
theorem pe_tupZip (ha : PA Y [a, b] t) (hc : Y.calm = true) (g1 : Gl Y "tuple") (g2 : Gl Y "zip") (m1 : Y.mg "tuple" = none) (m2 : Y.mg "zip" = none)
    (e1 : starEach [a, b] Y.env = (false, eval a Y.env) :: starEach [b] Y.env := by rfl) (e2 : (backTo p3 (starEach [b] Y.env)).any (·.1) = false := by rfl) (e3 : starEach [.Call (.Name "zip" p2) [a, b] [] p3] Y.env = [(false, eval (.Call (.Name "zip" p2) [a, b] [] p3) Y.env)] := by rfl) :
    PE Y (.Call (.Name "tuple" p1) [.Call (.Name "zip" p2) [a, b] [] p3] [] p4) (tTupZip t) := by
  refine ⟨fun pins s σ H Q I h => wpAny_Call_Name_kw (ld_blt I g1 m1 PyProof.Rows.boot_tuple ?_)⟩
  refine PyProof.Rows.callWith_type1 ?_ e3 rfl
  rw [e3]
  refine Calls.spliced_cons (wpAny_Call_Name_kw (ld_blt I g2 m2 PyProof.Rows.boot_zip ?_))
  refine PyProof.Rows.callWith_type1 (thn (ha.run p3 pins s σ H _ I h) fun us s1 hv => ?_) e1 e2
  obtain ⟨vs, H1, I1, r1, x, y, rfl, hl, hz, q⟩ := hv
  obtain ⟨u1, u2, rfl, ⟨t1, rfl⟩, ⟨t2, rfl⟩⟩ := vals2 r1
  refine zip_begins2 (begins_text x t1) (begins_text y t2) trivial trivial fun h1 hZ hI hO o1 o2 sz kp => Calls.spliced_nil ?_
  have hh := I1.ok.hd hc
  have S : ZipSep2 (s1.heap.objs.size + 4) (s1.heap.objs.size + 2) (s1.heap.objs.size + 3) s1.heap.objs.size (s1.heap.objs.size + 1) [s1.heap.objs.size] [s1.heap.objs.size + 1] := by
    constructor <;> first | omega | simp
  have ey : y.cps.size = x.cps.size := hl.symm
  have D2 : Draws Y.prog Y.w Y.A.in1.in1.in1.in1 (s1.heap.objs.size + 1) [s1.heap.objs.size + 1] x.cps.size (fun i v => ∃ c u, y.cps[i]? = some c ∧ v = .str ⟨#[c]⟩ u) (fun i h => h.IsStrIter (s1.heap.objs.size + 1) (strIterType y) y t2 i) := by
    have := Draws.text (prog := Y.prog) (w := Y.w) (A := Y.A.in1.in1.in1.in1) hh (s1.heap.objs.size + 1) y t2
    rw [ey] at this
    exact this
  refine VZ.call_tup (s := { s1 with heap := h1 }) S (Draws.text (A := Y.A.in1.in1.in1.in1) hh s1.heap.objs.size x t1) D2 (fun c hc => ?_) hz hI hZ ⟨_, _, hO⟩ ⟨_, o1, rfl, rfl⟩ ⟨_, o2, rfl, rfl⟩ fun h2 tk acc hk hg => ?_
  · show c < h1.objs.size
    rw [sz]
    simp only [List.mem_cons, List.mem_append, List.not_mem_nil, or_false] at hc
    rcases hc with rfl | rfl | rfl | rfl | rfl | rfl | rfl
    · exact Nat.lt_succ_self _
    · exact Nat.add_lt_add_left (by decide) _
    · exact Nat.add_lt_add_left (by decide) _
    · exact Nat.lt_add_of_pos_right (by decide)
    · exact Nat.add_lt_add_left (by decide) _
    · exact Nat.lt_add_of_pos_right (by decide)
    · exact Nat.add_lt_add_left (by decide) _
  obtain ⟨hF, eF⟩ : ∃ hF, hF = h2.push { cls := .type "tuple", data := .seq acc } := ⟨_, rfl⟩
  have k2 : ∀ c o, h2.get? c = some o → hF.get? c = some o := fun c o e => by rw [eF]; exact Heap.get?_push_of_some _ e
  have kF : ∀ c o, s1.heap.get? c = some o → hF.get? c = some o := fun c o e => by
    have lt := Heap.lt_size e
    exact k2 _ _ (hk c o (Nat.ne_of_lt (Nat.lt_add_right 4 lt)) (Nat.ne_of_lt (Nat.lt_add_right 3 lt)) (Nat.ne_of_lt lt) (Nat.ne_of_lt (Nat.lt_add_right 1 lt)) (kp c o e))
  have big : s1.heap.objs.size ≤ h2.objs.size := by
    have add : ∀ i j : Nat, i < j → s1.heap.objs.size + i ≠ s1.heap.objs.size + j := fun i j h => Nat.ne_of_lt (Nat.add_lt_add_left h _)
    have e0 : h2.get? (s1.heap.objs.size + 2) = some _ := hk _ _ (add 2 4 (by decide)) (add 2 3 (by decide)) (add 0 2 (by decide)).symm (add 1 2 (by decide)).symm hI
    exact Nat.le_trans (Nat.le_add_right _ 2) (Nat.le_of_lt (Heap.lt_size e0))
  obtain ⟨Ts, eT⟩ : ∃ Ts, Ts = acc.toList.map refD := ⟨_, rfl⟩
  have hacc : ∀ j v, acc[j]? = some v → ∃ T c d u1 u2, v = Value.ref T ∧ h1.objs.size ≤ T ∧ x.cps[j]? = some c ∧ y.cps[j]? = some d ∧ IsTupOf2 h2 T (.str ⟨#[c]⟩ u1) (.str ⟨#[d]⟩ u2) := fun j v hj => by
    obtain ⟨T, v1, v2, e0, e1, ⟨c, u1, e2, rfl⟩, ⟨d, u2, e3, rfl⟩, e4⟩ := hg.2 j v hj
    exact ⟨T, c, d, u1, u2, e0, e1, e2, e3, e4⟩
  obtain ⟨H2, eH⟩ : ∃ H2 : Hp, H2 = fun b => if b < s1.heap.objs.size then H1 b else if b = h2.objs.size then some (.tup (Ts.map V.ref)) else dec hF b := ⟨_, rfl⟩
  have H2old : ∀ b, b < s1.heap.objs.size → H2 b = H1 b := fun b hb => by rw [eH]; exact if_pos hb
  have H2T : H2 h2.objs.size = some (.tup (Ts.map V.ref)) := by
    rw [eH]
    show (if h2.objs.size < s1.heap.objs.size then H1 h2.objs.size else if h2.objs.size = h2.objs.size then some (.tup (Ts.map V.ref)) else dec hF h2.objs.size) = _
    rw [if_neg (Nat.not_lt.mpr big), if_pos rfl]
  have H2n : ∀ b, s1.heap.objs.size ≤ b → b ≠ h2.objs.size → H2 b = dec hF b := fun b hb hne => by
    rw [eH]
    show (if b < s1.heap.objs.size then H1 b else if b = h2.objs.size then some (.tup (Ts.map V.ref)) else dec hF b) = _
    rw [if_neg (Nat.not_lt.mpr hb), if_neg hne]
  have rel : Vals (Ts.map V.ref) acc.toList := by
    rw [eT]
    have : ∀ l : List Value, (∀ v ∈ l, ∃ T, v = Value.ref T) → Vals ((l.map refD).map V.ref) l := by
      intro l
      induction l with
      | nil => exact fun _ => .nil
      | cons v l ih =>
        intro hv
        obtain ⟨T, rfl⟩ := hv v (by simp)
        exact .cons rfl (ih fun v' h' => hv v' (by simp [h']))
    refine this _ fun v hv => ?_
    obtain ⟨j, hj⟩ := List.getElem?_of_mem hv
    obtain ⟨T, _, _, _, _, e0, _⟩ := hacc j v (by simpa using hj)
    exact ⟨T, e0⟩
  have lenT : Ts.length = x.length := by rw [eT, List.length_map, Array.length_toList, hg.1]; rfl
  have I2 : Inv Y pins σ H2 { s1 with heap := hF, toks := tk } := by
    refine inv_add I1 kF H2old fun b o hb e => ?_
    by_cases hne : b = h2.objs.size
    · rw [hne, H2T] at e
      cases e
      rw [hne]
      exact ⟨by rw [List.length_map, lenT]; exact hz, acc.toList, rel, by rw [eF]; simpa using IsTup.new h2 acc⟩
    · rw [H2n b hb hne] at e
      obtain ⟨x', y', t', u', e1, rfl⟩ := dec_of e
      exact ⟨show 2 ≤ sizeLine by decide, [.str x' t', .str y' u'], .cons ⟨_, rfl⟩ (.cons ⟨_, rfl⟩ .nil), ⟨_, e1, rfl, _, rfl⟩⟩
  have q := q H2 h2.objs.size Ts (fun b o e => by rw [H2old b (I1.hok.lt e)]; exact e) (I1.hok.fresh big) H2T lenT fun j A hj => ?_
  · rw [eF] at I2
    exact ⟨V.ref h2.objs.size, H2, I2, rfl, q⟩
  · rw [eT, List.getElem?_map] at hj
    obtain ⟨v, hv, rfl⟩ := Option.map_eq_some_iff.mp hj
    obtain ⟨T, c, d, w1, w2, rfl, e1, e2, e3, e4⟩ := hacc j v (by simpa using hv)
    show H1 T = none ∧ H2 T = _
    have hT : s1.heap.objs.size ≤ T := by
      rw [sz] at e1
      exact Nat.le_trans (Nat.le_add_right _ 5) e1
    refine ⟨I1.hok.fresh hT, ?_⟩
    have hlt : T < h2.objs.size := Heap.lt_size e4
    rw [H2n T hT (Nat.ne_of_lt hlt), dec_at (k2 _ _ e4)]
    unfold pairV
    have g2 : x.cps.getD j 0 = c := by rw [Array.getD_eq_getD_getElem?, e2]; rfl
    have g3 : y.cps.getD j 0 = d := by rw [Array.getD_eq_getD_getElem?, e3]; rfl
    rw [g2, g3]
end
section
variable {ι : Type} {X : ι → Cx} {k : Nat} {P : Program} {w : World} {K : PySem.W.Frag} {mg : Str → Option Value} {base : Heap} {W : WX} {a b : Expr} {p1 p2 p3 p4 : Pos}
def zipS : List Nat → List Nat → List Dt
  | c :: cs, d :: ds => .tuple [signD c, signD d] :: zipS cs ds
  | _, _ => []
theorem zipS_len : ∀ {cs ds : List Nat}, (zipS cs ds).length = min cs.length ds.length
  | [], _ => by simp [zipS]
  | _ :: _, [] => by simp [zipS]
  | c :: cs, d :: ds => by simp only [zipS, List.length_cons, zipS_len]; omega
theorem zipS_get : ∀ {cs ds : List Nat} {i : Nat} {d : Dt}, (zipS cs ds)[i]? = some d → ∃ c e, cs[i]? = some c ∧ ds[i]? = some e ∧ d = .tuple [signD c, signD e]
  | [], _, _, _, h => by simp [zipS] at h
  | _ :: _, [], _, _, h => by simp [zipS] at h
  | c :: cs, e :: ds, 0, _, h => ⟨c, e, rfl, rfl, by simpa [zipS] using h.symm⟩
  | c :: cs, e :: ds, i + 1, _, h => by
    obtain ⟨c', e', h1, h2, h3⟩ := zipS_get (cs := cs) (ds := ds) (i := i) (by simpa [zipS] using h)
    exact ⟨c', e', by simpa using h1, by simpa using h2, h3⟩
theorem rpa_of {H : Hp} : ∀ {ds : List Dt} {xs : List V}, xs.length = ds.length → (∀ (j : Nat) (x : V) (d : Dt), xs[j]? = some x → ds[j]? = some d → Rp K H x d) → RpA K H xs ds
  | [], [], _, _ => .nil
  | [], _ :: _, e, _ => by simp at e
  | _ :: _, [], e, _ => by simp at e
  | d :: ds, x :: xs, e, h => .cons (h 0 x d rfl rfl) (rpa_of (by simpa using e) fun j y f h1 h2 => h (j + 1) y f (by simpa using h1) (by simpa using h2))
def mTupZip (m : SS → EO (List Dt)) : SS → EO Dt := fun ss => (m ss).bind fun ds ss => match ds with
  | [.str x, .str y] => if x.length = y.length ∧ x.length ≤ sizeLine then .ok (.tuple (zipS x.cps.toList y.cps.toList)) ss else .no
  | _ => .no
theorem v_tupZip (C : VC X k P w K mg base W) {m : SS → EO (List Dt)} (h : VA X K mg W [a, b] m) (g1 : ∀ i, Gl (X i) "tuple") (g2 : ∀ i, Gl (X i) "zip") (m1 : mg "tuple" = none) (m2 : mg "zip" = none)
    (e1 : ∀ i, starEach [a, b] (X i).env = (false, eval a (X i).env) :: starEach [b] (X i).env := by intro _; rfl) (e2 : ∀ i, (backTo p3 (starEach [b] (X i).env)).any (·.1) = false := by intro _; rfl) (e3 : ∀ i, starEach [.Call (.Name "zip" p2) [a, b] [] p3] (X i).env = [(false, eval (.Call (.Name "zip" p2) [a, b] [] p3) (X i).env)] := by intro _; rfl) :
    VE X K mg W (.Call (.Name "tuple" p1) [.Call (.Name "zip" p2) [a, b] [] p3] [] p4) (mTupZip m) := by
  obtain ⟨t, a1, a2⟩ := h.ex
  refine ⟨tTupZip t, fun i => pe_tupZip (a1 i) (C.ca i) (g1 i) (g2 i) (by rw [C.em i]; exact m1) (by rw [C.em i]; exact m2) (e1 i) (e2 i) (e3 i), fun ω ss σ H Q rs q => a2 ω ss σ H _ rs ?_⟩
  refine seqE q fun ds ss1 ω1 H1 vs em rs1 fr1 rp1 q1 => ?_
  split at q1
  · rename_i x y
    split at q1
    · rename_i hc
      cases rp1 with
      | cons r1 r2 =>
        cases r2 with
        | cons r2 r3 =>
          cases r3
          cases r1
          cases r2
          refine ⟨x, y, rfl, hc.1, hc.2, fun H2 T Ts hs hT hT2 hl hp => ?_⟩
          have oT : ∀ A, H1 A = none → hid ω1 H2 A = H2 A := fun A hA => hid_of (rs1.free hA)
          refine q1 ω1 H2 _ (rs1.grow hs) (.grow hs rs1.own) (.tup (.of ((oT T hT).trans hT2)) (rpa_of ?_ fun j v d h1 h2 => ?_))
          · rw [List.length_map, hl, zipS_len]
            have e1 : x.cps.toList.length = x.length := by simp [Str.length]
            have e2 : y.cps.toList.length = y.length := by simp [Str.length]
            rw [e1, e2, ← hc.1, Nat.min_self]
          · rw [List.getElem?_map] at h1
            obtain ⟨A, hA, rfl⟩ := Option.map_eq_some_iff.mp h1
            obtain ⟨n1, n2⟩ := hp j A hA
            obtain ⟨c, e, g1, g2, rfl⟩ := zipS_get h2
            have f1 : x.cps.getD j 0 = c := by rw [Array.getD_eq_getD_getElem?, show x.cps[j]? = some c by simpa using g1]; rfl
            have f2 : y.cps.getD j 0 = e := by rw [Array.getD_eq_getD_getElem?, show y.cps[j]? = some e by simpa using g2]; rfl
            refine .tup (.of ((oT A n1).trans n2)) ?_
            unfold pairV
            rw [f1, f2]
            exact .cons (.str _) (.cons (.str _) .nil)
    · exact q1.elim
  · exact q1.elim
end
end VL

namespace VL
open PySem PySem.Spec L2
open PyProof.Rows hiding St

theorem key_reads {h : Heap} {k : Key} {v : Value} (e : keyIs k v = true) : Reads h v (keyD k) [] := by
  rcases keyIs_shape e with ⟨i, t, rfl, rfl⟩ | ⟨x, t, rfl, rfl⟩
  · exact .int i t
  · exact .str x t
section
variable {X : Cx} {pins : List (Addr × Obj)} {σ : St} {H : Hp} {s : Shared}
/-- what is shown of it is known -/
def Sh (X : Cx) (h : Heap) (u : Value) (d : Dt) (as bs : List Addr) : Prop := Reads h u d as ∧ ReadAtMost h d.depth bs ∧ ReprK X.prog X.w bs h d.depth u d.shown
def ShA (X : Cx) (h : Heap) (us : List Value) (ds : List Dt) (as bs : List Addr) : Prop := ReadsAll h us ds as ∧ ReadAtMost h (PyData.depthAll ds) bs ∧ ReprAllK X.prog X.w bs h (PyData.depthAll ds) us (PyData.shownAll ds)
theorem sh_nil {X : Cx} {h : Heap} : ShA X h [] [] [] [] := ⟨.nil, fun _ z => (nomatch z), .nil⟩
theorem sh_cons {X : Cx} {h : Heap} {u : Value} {d : Dt} {us : List Value} {ds : List Dt} {as bs as' bs' : List Addr} (p : Sh X h u d as bs) (q : ShA X h us ds as' bs') : ShA X h (u :: us) (d :: ds) (as ++ as') (bs ++ bs') := by
  obtain ⟨p1, p2, p3⟩ := p
  obtain ⟨q1, q2, q3⟩ := q
  have m1 : d.depth ≤ PyData.depthAll (d :: ds) := by simp only [PyData.depthAll]; exact Nat.le_max_left _ _
  have m2 : PyData.depthAll ds ≤ PyData.depthAll (d :: ds) := by simp only [PyData.depthAll]; exact Nat.le_max_right _ _
  refine ⟨.cons p1 q1, (p2.mono m1).append (q2.mono m2), ?_⟩
  have e : PyData.shownAll (d :: ds) = d.shown :: PyData.shownAll ds := by simp only [PyData.shownAll]
  rw [e]
  exact .cons ((p3.more fun b z => List.mem_append.mpr (.inl z)).level_le m1) (q3.more_le (fun b z => List.mem_append.mpr (.inr z)) m2)
theorem sh_flat {X : Cx} {h : Heap} {u : Value} {d : Dt} (r : Reads h u d []) (hs : d.showable = true) (hz : d.shown.length ≤ sizeLine) : ∃ as bs, Sh X h u d as bs :=
  let ⟨bs, q1, q2⟩ := ReprK.of_reads r hs (fun _ => by simp) hz
  ⟨[], bs, r, q1, q2⟩
mutual
theorem Rp.sh (I : Inv X pins σ H s) : ∀ (d : Dt) (v : V) (u : Value), Rp X.K H v d → RelV v u → d.showable = true → d.shown.length ≤ sizeLine → ∃ as bs, Sh X s.heap u d as bs
  | .none, _, _, h, r, hs, hz => by cases h; cases r; exact sh_flat .none hs hz
  | .bool b, _, _, h, r, hs, hz => by cases h; cases r; exact sh_flat (.bool b) hs hz
  | .int i, _, _, h, r, hs, hz => by cases h; obtain ⟨t, rfl⟩ := r; exact sh_flat (.int i t) hs hz
  | .str x, _, _, h, r, hs, hz => by cases h; obtain ⟨t, rfl⟩ := r; exact sh_flat (.str x t) hs hz
  | .list ds, _, _, h, r, hs, hz => by
    cases h with
    | lst hl ha =>
      cases r
      obtain ⟨its, rv, ⟨o, n, e1, e2, _, e3⟩, _⟩ := I.list (.of hl)
      have hs : PyData.showableAll ds = true := by simpa [PyData.showable] using hs
      have ex : (PyData.list ds).shown = listText (PyData.shownAll ds) := by simp only [PyData.shown]
      have ed : (PyData.list ds).depth = PyData.depthAll ds + 1 := by simp only [PyData.depth]
      rw [ex] at hz
      obtain ⟨as, bs, q1, q2, q3⟩ := RpA.sh I ds _ its ha rv hs (fun t z => Nat.le_trans (listText_mem_le z) hz)
      have r := Reads.list e1 e2 e3 q1
      have na := not_mem_of_deeper (n := PyData.depthAll ds) r (by omega) q2
      refine ⟨_, _, r, ReadAtMost.cons r (n := PyData.depthAll ds) (by omega) q2, ?_⟩
      rw [ex, ed]
      cases its with
      | nil =>
        cases q1
        have : listText (PyData.shownAll []) = "[]" := rfl
        rw [this]
        exact ReprK.listEmpty e1 e2 e3
      | cons y its => exact ReprK.list e1 e2 e3 na (by simpa using q3.length_eq) (fun i y e => q3.item i y (by simpa using e))
  | .tuple ds, _, _, h, r, hs, hz => by
    cases h with
    | tup hl ha =>
      cases r
      obtain ⟨its, rv, ⟨o, e1, e2, n, e3⟩, _⟩ := I.tuple hl
      have hs : PyData.showableAll ds = true := by simpa [PyData.showable] using hs
      have ex : (PyData.tuple ds).shown = tupleText (PyData.shownAll ds) := by simp only [PyData.shown]
      have ed : (PyData.tuple ds).depth = PyData.depthAll ds + 1 := by simp only [PyData.depth]
      rw [ex] at hz
      obtain ⟨as, bs, q1, q2, q3⟩ := RpA.sh I ds _ its ha rv hs (fun t z => Nat.le_trans (tupleText_mem_le z) hz)
      have r := Reads.tuple e1 e2 e3 q1
      have na := not_mem_of_deeper (n := PyData.depthAll ds) r (by omega) q2
      refine ⟨_, _, r, ReadAtMost.cons r (n := PyData.depthAll ds) (by omega) q2, ?_⟩
      rw [ex, ed]
      exact ReprK.tuple e1 e2 e3 na q3
  | .dict ds, _, _, h, r, hs, hz => by
    cases h with
    | @dK a kvs _ hl ha =>
      cases r
      obtain ⟨_, hsm, vs, rel, o, es, ep, e1, ec, e2, _, pr, _⟩ := (show ObjOk X.prog X.w H s.heap a (.dK kvs) from I.hok a _ hl)
      obtain ⟨hs1, hs2⟩ := PyData.showableKv_split ds (by simpa [PyData.showable] using hs)
      have ex : (PyData.dict ds).shown = dictText (PyData.shownKv ds) := by simp only [PyData.shown]
      have ed : (PyData.dict ds).depth = PyData.depthKv ds + 1 := by simp only [PyData.depth]
      rw [ex] at hz
      obtain ⟨bs, q1, q2⟩ := RpK.sh I ds _ vs es.toList ha rel pr hs1 hs2 (fun p z => Nat.le_trans (dictText_mem_le z) hz)
      obtain ⟨as, l1, l2, l3⟩ := q2
      obtain ⟨b1, k2, k3⟩ := ReprAllK.of_readsAll (prog := X.prog) (w := X.w) q1 hs1 (fun _ => by simp) (fun t z => let ⟨p, hp, hl⟩ := PyData.shownKv_key_le ds t z; Nat.le_trans hl (Nat.le_trans (dictText_mem_le hp) hz))
      have r := Reads.dict e1 ec.1 e2 q1 l1
      have hb : ReadAtMost s.heap (PyData.depthKv ds) (b1 ++ bs) := (k2.mono (PyData.depthAll_keys_le ds)).append (l2.mono (PyData.depthAll_vals_le ds))
      have na := not_mem_of_deeper (n := PyData.depthKv ds) r (by omega) hb
      refine ⟨_, _, r, ReadAtMost.cons r (n := PyData.depthKv ds) (by omega) hb, ?_⟩
      rw [ex, ed, PyData.shownKv_eq]
      have m1 := k3.more_le (as' := b1 ++ bs) (fun b z => List.mem_append.mpr (.inl z)) (PyData.depthAll_keys_le ds)
      have m2 := l3.more_le (as' := b1 ++ bs) (fun b z => List.mem_append.mpr (.inr z)) (PyData.depthAll_vals_le ds)
      exact ReprK.dict e1 ec.1 e2 hsm na (ReprEntriesK.of_two es.toList _ _ m1 m2)
theorem RpA.sh (I : Inv X pins σ H s) : ∀ (ds : List Dt) (vs : List V) (us : List Value), RpA X.K H vs ds → Vals vs us → PyData.showableAll ds = true → (∀ t ∈ PyData.shownAll ds, t.length ≤ sizeLine) → ∃ as bs, ShA X s.heap us ds as bs
  | [], _, _, h, r, _, _ => by cases h; cases r; exact ⟨_, _, sh_nil⟩
  | d :: ds, _, _, h, r, hs, hz => by
    have hs : d.showable = true ∧ PyData.showableAll ds = true := by simpa [PyData.showableAll] using hs
    have e : PyData.shownAll (d :: ds) = d.shown :: PyData.shownAll ds := by simp only [PyData.shownAll]
    rw [e] at hz
    cases h with
    | cons h1 h2 =>
      cases r with
      | cons r1 r2 =>
        obtain ⟨as, bs, q1⟩ := Rp.sh I d _ _ h1 r1 hs.1 (hz _ (by simp))
        obtain ⟨as', bs', q2⟩ := RpA.sh I ds _ _ h2 r2 hs.2 (fun t z => hz t (by simp [z]))
        exact ⟨_, _, sh_cons q1 q2⟩
theorem RpK.sh (I : Inv X pins σ H s) : ∀ (ds : List (Dt × Dt)) (kvs : List (Key × V)) (vs : List (Key × Value)) (es : List DictEntry), RpK X.K H kvs ds → KV kvs vs → Pairs (mixKind X.prog X.w) es vs →
    PyData.showableAll (ds.map (·.1)) = true → PyData.showableAll (ds.map (·.2)) = true → (∀ t ∈ PyData.shownKv ds, t.length ≤ sizeLine) →
    ∃ bs, ReadsAll s.heap (es.map (·.key)) (ds.map (·.1)) [] ∧ ∃ as, ShA X s.heap (es.map (·.val)) (ds.map (·.2)) as bs
  | [], _, _, _, h, r, p, _, _, _ => by cases h; cases r; cases p; exact ⟨_, .nil, _, sh_nil⟩
  | (k0, d) :: ds, _, _, _, h, r, p, hs1, hs2, hz => by
    have g1 : PyData.showable k0 = true ∧ PyData.showableAll (ds.map (·.1)) = true := by simpa [PyData.showableAll] using hs1
    have g2 : d.showable = true ∧ PyData.showableAll (ds.map (·.2)) = true := by simpa [PyData.showableAll] using hs2
    have hl : d.shown.length ≤ sizeLine := by
      obtain ⟨p, hp, hl⟩ := PyData.shownKv_val_le ((k0, d) :: ds) d.shown (by simp [PyData.shownAll])
      exact Nat.le_trans hl (hz p hp)
    have hz' : ∀ t ∈ PyData.shownKv ds, t.length ≤ sizeLine := fun t z => hz t (by simp [PyData.shownKv, z])
    cases h with
    | cons h1 h2 =>
      cases r with
      | @cons _ q _ _ r1 r2 =>
        obtain ⟨k', u'⟩ := q
        obtain ⟨ek, ru⟩ := r1
        have ek := ek
        cases p with
        | cons p1 p2 p3 =>
          obtain ⟨bs, q1, as, q2⟩ := RpK.sh I ds _ _ _ h2 r2 p3 g1.2 g2.2 hz'
          obtain ⟨as', bs', q3⟩ := Rp.sh I d _ _ h1 ru g2.1 hl
          simp only at ek p1 p2
          subst ek
          refine ⟨bs' ++ bs, ?_, as' ++ as, ?_⟩
          · exact ReadsAll.cons (as := []) (bs := []) (key_reads p1) q1
          · rw [← p2] at q3
            exact sh_cons q3 q2
end
end
def canRepr (d : Dt) : Bool := d.showable && decide (d.depth ≤ 100) && decide (d.shown.length ≤ sizeLine)
def rRepr (K : PySem.W.Frag) : List V → Hp → VK → Prop := fun xs H Q => ∃ x d, xs = [x] ∧ Rp K H x d ∧ canRepr d = true ∧ Q (.str d.shown) H
theorem call_repr {X : Cx} (hg : X.A.guards = some []) (hu : X.A.units + 200 < cLine) : CallR X (.builtin "repr") (rRepr X.K) := by
  intro pins s σ H xs us Q I r h
  obtain ⟨x, d, rfl, hd, hc, q⟩ := h
  unfold canRepr at hc
  simp only [Bool.and_eq_true, decide_eq_true_eq] at hc
  obtain ⟨⟨c1, c3⟩, c4⟩ := hc
  obtain ⟨u, rfl, r1⟩ := vals1 r
  have hQ : ∀ (h' : Heap) (t : Tok) (tk : Nat), (∀ b o, s.heap.get? b = some o → h'.get? b = some o) → EP X pins σ Q (.str d.shown t) { s with heap := h', toks := tk } := fun h' t tk kp => ⟨.str d.shown, H, I.kept (t' := tk) kp, ⟨_, rfl⟩, q⟩
  have hu1 : X.A.in1.units + d.depth < cLine := by show X.A.units + 1 + d.depth < cLine; omega
  cases hd with
  | non => cases r1; exact PySem.P.repr_of_none ⟨.str _, H, I.tok _, ⟨_, rfl⟩, by simpa [PyData.shown] using q⟩
  | bl b => cases r1; exact PySem.P.repr_of_bool ⟨.str _, H, I.tok _, ⟨_, rfl⟩, by simpa [PyData.shown] using q⟩
  | int i =>
    obtain ⟨t, rfl⟩ := r1
    exact PySem.P.repr_of_int (by simpa [PyData.showable] using c1) ⟨.str _, H, I.tok _, ⟨_, rfl⟩, by simpa [PyData.shown] using q⟩
  | str z =>
    obtain ⟨t, rfl⟩ := r1
    exact PySem.P.repr_of_str ⟨.str _, H, I.tok _, ⟨_, rfl⟩, by simpa [PyData.shown] using q⟩ (by simpa [PyData.shown] using c4)
  | @lst a xs ds hl ha =>
    cases r1
    obtain ⟨its, rv, ⟨o, n, e1, e2, _, e3⟩, _⟩ := I.list (.of hl)
    have ex : (PyData.list ds).shown = listText (PyData.shownAll ds) := by simp only [PyData.shown]
    have ed : (PyData.list ds).depth = PyData.depthAll ds + 1 := by simp only [PyData.depth]
    rw [ex] at c4 hQ
    rw [ed] at hu1
    obtain ⟨as, bs, q1, q2, q3⟩ := RpA.sh I ds _ its ha rv (by simpa [PyData.showable] using c1) (fun t z => Nat.le_trans (listText_mem_le z) c4)
    have rd := Reads.list e1 e2 e3 q1
    have na := not_mem_of_deeper (n := PyData.depthAll ds) rd (by omega) q2
    refine call_repr_slot (by omega) ⟨o, e1, e2⟩ F.slot_list_repr.toG ?_
    cases its with
    | nil =>
      cases q1
      exact call_list_repr_empty ⟨o, e1, e2⟩ e1 e3 ⟨_, _, rfl, hQ s.heap _ _ fun _ _ e => e⟩
    | cons y its => exact call_list_reprK e1 e2 e3 na (by simpa using q3.length_eq) (fun i y e => q3.item i y (by simpa using e)) hg (fun b _ => Clear.nil b) hu1 (fun _ _ e => e) (fun h' t tk kp => ⟨_, _, rfl, hQ h' t tk kp⟩) c4
  | @tup a xs ds hl ha =>
    cases r1
    obtain ⟨its, rv, ⟨o, e1, e2, n, e3⟩, _⟩ := I.tuple hl
    have ex : (PyData.tuple ds).shown = tupleText (PyData.shownAll ds) := by simp only [PyData.shown]
    have ed : (PyData.tuple ds).depth = PyData.depthAll ds + 1 := by simp only [PyData.depth]
    rw [ex] at c4 hQ
    rw [ed] at hu1
    obtain ⟨as, bs, q1, q2, q3⟩ := RpA.sh I ds _ its ha rv (by simpa [PyData.showable] using c1) (fun t z => Nat.le_trans (tupleText_mem_le z) c4)
    have rd := Reads.tuple e1 e2 e3 q1
    have na := not_mem_of_deeper (n := PyData.depthAll ds) rd (by omega) q2
    refine call_repr_slot (by omega) ⟨o, e1, e2⟩ F.slot_tuple_repr ?_
    exact call_tuple_reprK e1 e2 e3 na q3 hg (fun b _ => Clear.nil b) hu1 (fun _ _ e => e) (fun h' t tk kp => ⟨_, _, rfl, hQ h' t tk kp⟩) c4
  | @dK a kvs ds hl ha =>
    cases r1
    obtain ⟨_, hsm, vs, rel, o, es, ep, e1, ec, e2, _, pr, _⟩ := (show ObjOk X.prog X.w H s.heap a (.dK kvs) from I.hok a _ hl)
    obtain ⟨hs1, hs2⟩ := PyData.showableKv_split ds (by simpa [PyData.showable] using c1)
    have ex : (PyData.dict ds).shown = dictText (PyData.shownKv ds) := by simp only [PyData.shown]
    have ed : (PyData.dict ds).depth = PyData.depthKv ds + 1 := by simp only [PyData.depth]
    rw [ex] at c4 hQ
    rw [ed] at hu1
    obtain ⟨bs, q1, as, l1, l2, l3⟩ := RpK.sh I ds _ vs es.toList ha rel pr hs1 hs2 (fun p z => Nat.le_trans (dictText_mem_le z) c4)
    obtain ⟨b1, k2, k3⟩ := ReprAllK.of_readsAll (prog := X.prog) (w := X.w) q1 hs1 (fun _ => by simp) (fun t z => let ⟨p, hp, hl⟩ := PyData.shownKv_key_le ds t z; Nat.le_trans hl (Nat.le_trans (dictText_mem_le hp) c4))
    have rd := Reads.dict e1 ec.1 e2 q1 l1
    have hb : ReadAtMost s.heap (PyData.depthKv ds) (b1 ++ bs) := (k2.mono (PyData.depthAll_keys_le ds)).append (l2.mono (PyData.depthAll_vals_le ds))
    have na := not_mem_of_deeper (n := PyData.depthKv ds) rd (by omega) hb
    have m1 := k3.more_le (as' := b1 ++ bs) (fun b z => List.mem_append.mpr (.inl z)) (PyData.depthAll_keys_le ds)
    have m2 := l3.more_le (as' := b1 ++ bs) (fun b z => List.mem_append.mpr (.inr z)) (PyData.depthAll_vals_le ds)
    refine call_repr_slot (by omega) ⟨o, e1, ec.1⟩ F.slot_dict_repr ?_
    rw [PyData.shownKv_eq] at c4 hQ
    exact call_dict_reprK e1 ec.1 e2 hsm na (ReprEntriesK.of_two es.toList _ _ m1 m2) hg (fun b _ => Clear.nil b) hu1 (fun _ _ e => e) (fun h' t tk kp => ⟨_, _, rfl, hQ h' t tk kp⟩) c4
section
variable {ι : Type} {X : ι → Cx} {k : Nat} {P : Program} {w : World} {K : PySem.W.Frag} {mg : Str → Option Value} {base : Heap} {W : WX} {a b : Expr} {p1 p2 p3 p4 pos : Pos}
def fRepr : List Dt → Option Dt
  | [d] => if canRepr d = true then some (.str d.shown) else none
  | _ => none
theorem u_repr (C : VC X k P w K mg base W) : BuS X K (.builtin "repr") fRepr := by
  refine ⟨rRepr K, fun i => by rw [← C.eK i]; exact call_repr (C.gd i) (by have := (C.rm i).un; omega), fun ω ss σ H xs ds z Q rs bx hf q => ?_⟩
  unfold fRepr at hf
  split at hf
  · split at hf
    · rename_i hc
      cases hf
      obtain ⟨x, rfl, b1⟩ := bor1 bx
      exact ⟨x, _, rfl, b1.rp, hc, q H _ (Same.refl _) (.str _)⟩
    · cases hf
  · cases hf

def padS (x : Str) (i : Int) (c : Nat) : Str := if i ≤ x.length then x else Builtin.Str.padded x 0 (i.toNat - x.length) c
theorem gives_pad (x : Str) (i : Int) (c : Nat) (t u v : Tok) (hr : (decide (i < -(2 ^ 63 : Int)) || decide (i ≥ 2 ^ 63)) = false) (hl : Builtin.Str.tooLong i.toNat = false) :
    Gives (Builtin.«str.ljust» ⟨[.str x t, .int i u, .str ⟨#[c]⟩ v], []⟩) (if i ≤ x.length then .val (.str x t) else .str (Builtin.Str.padded x 0 (i.toNat - x.length) c)) := by
  show Gives (do
    let width ← Builtin.Str.asSsize s!"str.{"ljust"}" (.int i u)
    if width ≤ x.length then (do rule s!"str.{"ljust"}.long-enough"; ret (.str x t)) else
      if Builtin.Str.tooLong width.toNat = true then unsupported s!"str.{"ljust"}:memory" else PySem.retStr (Builtin.Str.padded x 0 (width.toNat - x.length) c)) _
  rw [asSsize_int _ _ _ hr]
  show Gives (if i ≤ x.length then (do rule s!"str.{"ljust"}.long-enough"; ret (.str x t)) else if Builtin.Str.tooLong i.toNat = true then unsupported s!"str.{"ljust"}:memory" else PySem.retStr (Builtin.Str.padded x 0 (i.toNat - x.length) c)) _
  rw [hl]
  by_cases h : i ≤ (x.length : Int)
  · rw [if_pos h, if_pos h]
    exact .rule (.of_eq rfl)
  · rw [if_neg h, if_neg h]
    exact .of_eq rfl
def fLjust : List Dt → Option Dt
  | [.str x, .int i, .str ⟨⟨[c]⟩⟩] => if PadOk i = true then some (.str (padS x i c)) else none
  | _ => none
theorem u_ljust2 : MuS X K "str.ljust" fLjust := by
  refine ⟨fun x xs H Q => ∃ (a : Str) (i : Int) (c : Nat), x = .str a ∧ xs = [.int i, .str ⟨#[c]⟩] ∧ PadOk i = true ∧ Q (.str (padS a i c)) H, fun j => ?_, fun ω ss σ H x xs d ds z Q rs bx bs hf q => ?_⟩
  · intro pins s σ H x xs v us Q I rx rs h
    obtain ⟨a, i, c, rfl, rfl, hc, h⟩ := h
    obtain ⟨t, rfl⟩ := rx
    obtain ⟨u1, u2, rfl, ⟨t1, rfl⟩, ⟨t2, rfl⟩⟩ := vals2 rs
    exact call_gives F.slot_str_ljust (typeIs_str _ _ _) F.entry_str_ljust (F.args_str_ljust_3 _ _ _) (gives_pad a i c t t1 t2 (PadOk.parts hc).1 (PadOk.parts hc).2) (post_val_or_made (fits_padR c (PadOk.parts hc).2) fun t' k => ⟨.str (padS a i c), H, I.tok _, ⟨t', rfl⟩, h⟩)
  · have bxr := bx.rp
    unfold fLjust at hf
    split at hf
    · rename_i e0
      cases e0
      split at hf
      · rename_i hc
        cases hf
        cases bxr
        obtain ⟨y, y2, rfl, b1, b2⟩ := bor2 bs
        have b1 := b1.rp
        have b2 := b2.rp
        cases b1
        cases b2
        exact ⟨_, _, _, rfl, rfl, hc, q H _ (Same.refl _) (.str _)⟩
      · cases hf
    · cases hf
end
end VL

namespace VL
open PySem PySem.Spec L2
open PyProof.Rows hiding St

theorem adj_rev (n : Nat) : Builtin.Slice.sliceAdjust none none (-1) (n : Int) = ((n : Int) - 1, -1) := by
  unfold Builtin.Slice.sliceAdjust
  simp
theorem plc_rev (n : Nat) : Builtin.Slice.slicePlaces ((n : Int) - 1) (-1) (-1) = n := by
  unfold Builtin.Slice.slicePlaces
  have h1 : ¬ ((-1 : Int) > 0) := by decide
  rw [if_neg h1]
  by_cases h : (n : Int) - 1 > -1
  · rw [if_pos h]
    simp only [Int.neg_neg, Int.ediv_one]
    omega
  · rw [if_neg h]
    omega
theorem fm_congr {α β : Type} {f g : α → Option β} : ∀ {l : List α}, (∀ x ∈ l, f x = g x) → l.filterMap f = l.filterMap g
  | [], _ => rfl
  | x :: l, h => by
    rw [List.filterMap_cons, List.filterMap_cons, h x (by simp), fm_congr fun y hy => h y (by simp [hy])]
theorem pick_rev (xs : Array Value) : ((List.range xs.size).filterMap fun (m : Nat) => xs[((xs.size : Int) - 1 + (m : Int) * (-1)).toNat]?) = xs.toList.reverse := by
  have e : ∀ m ∈ List.range xs.size, xs[((xs.size : Int) - 1 + (m : Int) * (-1)).toNat]? = xs[xs.size - 1 - m]? := fun m hm => by
    have := List.mem_range.mp hm
    congr 1
    omega
  have e2 : ∀ n (f g : Nat → Option Value), (∀ m, m < n → f m = g m) → (List.range n).filterMap f = (List.range n).filterMap g := fun n f g h => by
    exact fm_congr fun m hm => h m (List.mem_range.mp hm)
  rw [e2 _ _ (fun m => xs[xs.size - 1 - m]?) fun m hm => e m (List.mem_range.mpr hm)]
  obtain ⟨l⟩ := xs
  show ((List.range l.length).filterMap fun m => l.toArray[l.length - 1 - m]?) = l.reverse
  have : ∀ k ≤ l.length, ((List.range k).filterMap fun m => l.toArray[l.length - 1 - m]?) = l.reverse.take k := by
    intro k
    induction k with
    | zero => intro _; simp
    | succ k ih =>
      intro hk
      rw [List.range_succ, List.filterMap_append, ih (by omega)]
      have e1 : l.toArray[l.length - 1 - k]? = l.reverse[k]? := by
        rw [List.getElem?_reverse (by omega)]
        simp
      have hlt : k < l.reverse.length := by rw [List.length_reverse]; omega
      rw [List.take_succ]
      congr 1
      simp only [List.filterMap_cons, List.filterMap_nil, e1, List.getElem?_eq_getElem hlt]
      rfl
  rw [this l.length (Nat.le_refl _)]
  rw [List.take_of_length_le (by simp)]
section
variable {prog : Program} {w : World} {A : Around} {E : Value → Shared → Prop} {s : Shared}
theorem applied_rev {sl : Addr} {k : Tok} {n : Nat} {Q : Int × Int × Nat → Shared → Prop} (hs : s.heap.IsSliceOf sl .none .none (.int (-1) k)) (h : Q ((n : Int) - 1, -1, n) s) : wpAny (model prog w) A (Builtin.Slice.sliceApplied (.ref sl) (pure (n : Int))) Q E s := by
  obtain ⟨o, e1, e2, e3⟩ := id hs
  unfold Builtin.Slice.sliceApplied Builtin.Slice.sliceFields
  refine wpAny_bind (wpAny_bind (wpAny_field e1 e3 (x := .none) rfl (wpAny_bind (wpAny_field e1 e3 (x := .none) rfl (wpAny_bind (wpAny_field e1 e3 (x := .int (-1) k) rfl (wpAny_pure ?_)))))))
  refine wpAny_bind (HT.slicePart_ (.int (-1) k) ?_)
  show wpAny _ _ (if ((-1 : Int) == 0) = true then _ else _) _ _ s
  rw [if_neg (by decide)]
  refine wpAny_bind (HT.slicePart_ .none (wpAny_bind (HT.slicePart_ .none (wpAny_bind (wpAny_pure ?_)))))
  show wpAny _ _ (match Builtin.Slice.sliceAdjust none none (-1) (n : Int) with | (lo, hi) => pure (lo, (-1 : Int), Builtin.Slice.slicePlaces lo hi (-1))) _ _ s
  rw [adj_rev]
  show wpAny _ _ (pure ((n : Int) - 1, (-1 : Int), Builtin.Slice.slicePlaces ((n : Int) - 1) (-1) (-1))) _ _ s
  rw [plc_rev]
  exact wpAny_pure h
theorem item_rev {t sl : Addr} {items : Array Value} {k : Tok} {Q : Value → Shared → Prop} (ht : IsTup s.heap t items) (hs : s.heap.IsSliceOf sl .none .none (.int (-1) k)) (hz : items.size ≤ sizeLine)
    (h : Q (.ref s.heap.objs.size) { s with heap := s.heap.push { cls := .type "tuple", data := .seq items.toList.reverse.toArray } }) : wpAny (model prog w) A (getItem (.ref t) (.ref sl)) Q E s := by
  have hzz : sizeOk (.seq items.toList.reverse.toArray) := by
    show items.toList.reverse.toArray.size ≤ sizeLine
    simpa using hz
  obtain ⟨o, e1, e2, e3⟩ := id hs
  have hTs : s.TypeIs (.ref sl) "slice" := ⟨o, e1, e2⟩
  unfold getItem
  refine wpAny_holding ?_
  try refine wpAny_bind (wpAny_pure ?_)
  refine wpAny_bind (wpAny_sequenceKey ht.typeIs (by decide) (wpAny_bind (wpAny_callSpecial?_slot (name := Str.ofString "__getitem__") ht.typeIs PyProof.Rows.slot_tuple_getitem (wpAny_call_entry PyProof.Rows.slot_tuple_getitem ht.typeIs entry_tuple_getitem ?_ (args_tuple_getitem _ _)))))
  show wpAny _ _ (Builtin.Tuple.tupleItemsOf (.ref t) >>= _) _ _ s
  refine wpAny_bind (tupleItemsOf_ ht (wpAny_bind (wpAny_typeOf hTs ?_)))
  rw [if_pos (by decide)]
  refine wpAny_bind (applied_rev hs ?_)
  show wpAny _ _ (if (((items.size : Int) - 1 == 0) && ((-1 : Int) == 1) && (items.size == items.size)) = true then _ else _) _ _ s
  have hno : ¬ ((((items.size : Int) - 1 == 0) && ((-1 : Int) == 1) && (items.size == items.size)) = true) := by
    rw [show ((-1 : Int) == 1) = false from by decide, Bool.and_false, Bool.false_and]
    exact Bool.false_ne_true
  rw [if_neg hno, pick_rev]
  first
    | exact wpAny_bind (m := Builtin.Tuple.tupleExact _) (wpAny_newObj_type (wpAny_pure ⟨_, rfl, wpAny_pure h⟩) hzz)
    | exact wpAny_bind (m := Builtin.Tuple.tupleExact _) (wpAny_newObj_type (wpAny_bind (wpAny_pure (wpAny_pure ⟨_, rfl, wpAny_pure h⟩))) hzz)
end
/-- what z[::-1] is -/
def revS (z : Str) : Str := ⟨((Builtin.Str.strSliceIndices none none (-1) z.length).filterMap (z.cps[·]?)).toArray⟩
def tRevQ (K : PySem.W.Frag) (te : TE) : TE := fun σ H Q => te σ H fun x H1 => (∃ a xs, x = .ref a ∧ SqT K H1 a xs ∧ ∀ p, H1 p = none → Q (.ref p) (upd H1 p (.tup xs.reverse))) ∨ ∃ z, x = .str z ∧ (revS z).length ≤ sizeLine ∧ Q (.str (revS z)) H1
theorem pe_revQ {X : Cx} {e : Expr} {te : TE} {k : Nat} {p1 p2 p3 pos : Pos} (he : PE X e te) : PE X (.Subscript e (.Slice none none (some (.UnaryOp .USub (.Constant (.int 1) k p1) p2)) p3) pos) (tRevQ X.K te) := by
  refine ⟨fun pins s σ H Q I h => Subscript_ (thn (he.run pins s σ H _ I h) fun v s1 hv => ?_)⟩
  obtain ⟨x, H1, I1, r1, q1⟩ := hv
  have step : PO X (some (.UnaryOp .USub (.Constant (.int 1) k p1) p2)) (tPart (tUn (rU fun i => .int (-i)) (tC (.int 1)))) := po_some (pe_un un_neg pe_int)
  refine wpAny_Slice (thn (po_none.run pins s1 σ H1 (fun o G => o = none ∧ G = H1) I1 ⟨rfl, rfl⟩) fun vl s2 hl => ?_)
  obtain ⟨l, H2, I2, pl, rfl, rfl⟩ := hl
  refine thn (po_none.run pins s2 σ H2 (fun o G => o = none ∧ G = H2) I2 ⟨rfl, rfl⟩) fun vu s3 hu => ?_
  obtain ⟨u, H3, I3, pu, rfl, rfl⟩ := hu
  refine thn (step.run pins s3 σ H3 (fun o G => o = some (-1) ∧ G = H3) I3 ⟨1, rfl, -1, rfl, rfl, rfl⟩) fun vs s4 hs => ?_
  obtain ⟨o, H4, I4, ps, rfl, rfl⟩ := hs
  cases pl
  cases pu
  cases ps with
  | int _ t4 =>
    have I5 : Inv X pins σ H4 { s4 with heap := s4.heap.push { cls := .type "slice", data := .fields #[.none, .none, .int (-1) t4] } } := I4.kept (t' := s4.toks) fun b ob z => Heap.get?_push_of_some _ z
    show wpAny (model X.prog X.w) X.A (subscriptTail e (.Slice none none (some (.UnaryOp .USub (.Constant (.int 1) k p1) p2)) p3) v (.ref s4.heap.objs.size)) (EP X pins σ Q) X.xe { s4 with heap := s4.heap.push { cls := .type "slice", data := .fields #[.none, .none, .int (-1) t4] } }
    rcases q1 with ⟨a, xs, rfl, hx, q⟩ | ⟨z, rfl, hz, q⟩
    · cases r1
      obtain ⟨its, r, ht, hz⟩ := I5.tuple hx
      have hlen := r.length
      refine tail_any (ops := [.ref a, .ref s4.heap.objs.size]) ht.typeIs (PyProof.Rows.slot_tuple_getitem.lookup) ?_ (by with_unfolding_all rfl)
      refine item_rev ht (Heap.IsSliceOf.new _ .none .none (.int (-1) t4)) (by rw [List.size_toArray]; omega) ?_
      refine ⟨.ref _, _, I5.laid (t' := s4.toks) (o := .tup xs.reverse) (fun b ob w => Heap.get?_push_of_some _ w) (Nat.le_refl _) ?_, rfl, q _ (I5.hok.fresh (Nat.le_refl _))⟩
      exact ⟨by rw [List.length_reverse]; exact hz, _, r.reverse, IsTup.new _ _⟩
    · obtain ⟨t, rfl⟩ := r1
      refine tail_any (ops := [.str z t, .ref s4.heap.objs.size]) (typeIs_str _ _ _) (F.slot_str_getitem.lookup) ?_ (by with_unfolding_all rfl)
      refine wpAny_getItem_str_slice (l := none) (u := none) (st := some (-1, t4)) ⟨_, Heap.get?_push_size _ rfl, rfl, rfl⟩ rfl ?_
      exact ⟨hz, .str (revS z), H4, I5.tok _, ⟨_, rfl⟩, q⟩
section
variable {ι : Type} {X : ι → Cx} {k : Nat} {P : Program} {w : World} {K : PySem.W.Frag} {mg : Str → Option Value} {base : Heap} {W : WX} {a b e : Expr} {pos : Pos}
def fRev : Dt → Option Dt
  | .tuple ds => some (.tuple ds.reverse)
  | .str z => if (revS z).length ≤ sizeLine then some (.str (revS z)) else none
  | _ => none
def mRev (m : SS → EO Opd) : SS → EO Dt := fun ss => (m ss).bind fun o ss => .lift ((o.get ss).bind fRev) ss
theorem v_rev (C : VC X k P w K mg base W) {j : Nat} {p1 p2 p3 : Pos} {m : SS → EO Opd} (hm : VB X K mg W a m) : VE X K mg W (.Subscript a (.Slice none none (some (.UnaryOp .USub (.Constant (.int 1) j p1) p2)) p3) pos) (mRev m) := by
  obtain ⟨t, a1, a2⟩ := hm.ex
  refine ⟨tRevQ K t, fun i => by rw [← C.eK i]; exact pe_revQ (a1 i), fun ω ss σ H Q rs q => a2 ω ss σ H _ rs ?_⟩
  refine seqE q fun o ss1 ω1 H1 x _ rs1 fr1 rp1 q1 => ?_
  obtain ⟨z, hz, q1⟩ := lift_get q1
  obtain ⟨d, e1, e2⟩ := Option.bind_eq_some_iff.mp hz
  have bx := Opd.bor rs1 rp1 e1
  unfold fRev at e2
  split at e2
  · cases e2
    obtain ⟨p, xs, rfl, w1, w2⟩ := bor_tup bx
    refine .inl ⟨p, xs, rfl, sqT_mono hid_le w1, fun r hr => ?_⟩
    obtain ⟨n1, n2⟩ := new_tup rs1 hr w2.rev
    exact q1 ω1 _ _ (rs1.grow n1) (.grow n1 rs1.own) n2
  · split at e2
    · rename_i hl
      cases e2
      have bx := bx.rp
      cases bx
      exact .inr ⟨_, rfl, hl, q1 ω1 H1 _ rs1 (.refl _ _) (.str _)⟩
    · cases e2
  · cases e2
theorem rpa_rep {H : Hp} {ds : List Dt} {xs : List V} (h : RpA K H xs ds) : ∀ n : Nat, RpA K H (List.replicate n xs).flatten (List.replicate n ds).flatten
  | 0 => .nil
  | n + 1 => by
    rw [List.replicate_succ, List.replicate_succ, List.flatten_cons, List.flatten_cons]
    exact h.app (rpa_rep h n)
def gRepL : Dt → Dt → Option Dt := fun d e => match d, e with
  | .list ds, .int k => if -(2 ^ 63) ≤ k ∧ k < 2 ^ 63 ∧ ds.length * k.toNat ≤ sizeLine then some (.list (List.replicate k.toNat ds).flatten) else none
  | _, _ => none
theorem s_repL : BinS X K .Mult gRepL := by
  refine ⟨_, fun _ => op_rep, fun ω ss σ H x y d e z Q rs bx by' hf q => ?_⟩
  unfold gRepL at hf
  split at hf
  · split at hf
    · rename_i hc
      cases hf
      obtain ⟨a, xs, rfl, h1, h2⟩ := bor_lst bx
      have by' := by'.rp
      cases by'
      refine ⟨a, _, xs, rfl, rfl, h1, hc.1, hc.2.1, by rw [h2.length]; exact hc.2.2, fun p hp => ?_⟩
      obtain ⟨n1, n2⟩ := new_lst rs hp (rpa_rep h2 _)
      exact q _ _ n1 n2
    · cases hf
  · cases hf
def gRepT : Dt → Dt → Option Dt := fun d e => match d, e with
  | .tuple ds, .int k => if ds ≠ [] ∧ 2 ≤ k ∧ k ≤ 1000 ∧ ds.length ≤ 1000 then some (.tuple (List.replicate k.toNat ds).flatten) else none
  | _, _ => none
theorem s_repT (C : VC X k P w K mg base W) : BinS X K .Mult gRepT := by
  refine ⟨rRepT K, fun i => by rw [← C.eK i]; exact op_repT, fun ω ss σ H x y d e z Q rs bx by' hf q => ?_⟩
  unfold gRepT at hf
  split at hf
  · split at hf
    · rename_i hc
      cases hf
      obtain ⟨a, xs, rfl, h1, h2⟩ := bor_tup bx
      have by' := by'.rp
      cases by'
      refine ⟨a, _, xs, rfl, rfl, sqT_mono hid_le h1, fun e0 => ?_, hc.2.1, hc.2.2.1, by rw [h2.length]; exact hc.2.2.2, fun p hp => ?_⟩
      · subst e0
        cases h2
        exact hc.1 rfl
      · obtain ⟨n1, n2⟩ := new_tup rs hp (rpa_rep h2 _)
        exact q _ _ n1 n2
    · cases hf
  · cases hf
def gMulA : Dt → Dt → Option Dt := alt gMul (alt gRepL gRepT)
theorem s_mulA (C : VC X k P w K mg base W) : BinS X K .Mult gMulA := s_mul.or (s_repL.or (s_repT C))
end
end VL

namespace VL
open PySem PySem.Spec L2
open PyProof.Rows hiding St

def dkOf (ss : SS) (i : Nat) : Option (Addr × Dk) := match ss[i]? with
  | some (some (.dk a q b c)) => some (a, q, b, c)
  | _ => none
theorem dkOf_at {ss : SS} {i : Nat} {a : Addr} {q : List Int} {b c : Int} (h : dkOf ss i = some (a, q, b, c)) : ss[i]? = some (some (.dk a q b c)) := by
  unfold dkOf at h
  split at h
  · cases h; assumption
  · cases h
section
variable {ι : Type} {X : ι → Cx} {k : Nat} {P : Program} {w : World} {K : PySem.W.Frag} {mg : Str → Option Value} {base : Heap} {W : WX} {a b e : Expr} {pos : Pos}
theorem RS.deck {ω : Om} {ss : SS} {σ : St} {H : Hp} {i : Nat} {a : Addr} {q : List Int} {b c : Int} (rs : RS K ω ss σ H) (h : dkOf ss i = some (a, q, b, c)) : σ[i]? = some (some (.ref a)) ∧ ω a = some i ∧ ∃ a2, ω a2 = some i ∧ a2 ≠ a ∧ H a = some (.lst [.ref a2, .int b, .int c]) ∧ H a2 = some (.lst (q.map V.int)) := by
  obtain ⟨x, q1, rfl, e1, a2, e2, e3, e4⟩ := rs.sl i _ (dkOf_at h)
  refine ⟨q1, e1, a2, e2, fun z => ?_, e3, e4⟩
  subst z
  rw [e3] at e4
  cases q with
  | nil => cases e4
  | cons z q => cases e4
/-- deck[1], deck[2] -/
def mDkI (i : Nat) (j : Int) : SS → EO Dt := fun ss => match dkOf ss i with
  | some (_, _, b, c) => if j = 1 then .ok (.int b) ss else if j = 2 then .ok (.int c) ss else .no
  | none => .no
theorem v_dkI (C : VC X k P w K mg base W) (i : Nat) {y : Str} {j : Int} {z : Nat} {p1 p2 : Pos} (hN : ∀ l, (X l).N[i]? = some y) (hv : ∀ l, Vis (X l).env.scope y) (hd : (y == ("__debug__" : Str)) = false := by decide) (hcd : (y == ("__classdict__" : Str)) = false := by decide) :
    VE X K mg W (.Subscript (.Name y p1) (.Constant (.int j) z p2) pos) (mDkI i j) := by
  refine ⟨tOp (rIx K) (tVar i) (tC (.int j)), fun l => by rw [← C.eK l]; exact pe_ix ix_seq (pe_var (hN l) (hv l) hd hcd) pe_int (fun _ _ => rfl), fun ω ss σ H Q rs q => ?_⟩
  unfold mDkI at q
  split at q
  · rename_i a qq b c hk
    obtain ⟨w1, w2, a2, w3, w4, w5, w6⟩ := rs.deck hk
    split at q
    · rename_i hj
      subst hj
      exact ⟨_, w1, .inl ⟨a, _, 1, .int b, rfl, rfl, .of w5, rfl, q ω H _ rs (.refl _ _) (.int _)⟩⟩
    · split at q
      · rename_i hj
        subst hj
        exact ⟨_, w1, .inl ⟨a, _, 2, .int c, rfl, rfl, .of w5, rfl, q ω H _ rs (.refl _ _) (.int _)⟩⟩
      · exact q.elim
  · exact q.elim
/-- deck[2] = e -/
def mDkSet (i : Nat) (m : SS → EO Dt) : SS → SO := fun ss => (m ss).st fun d ss => match d, dkOf ss i with
  | .int n, some (a, q, b, _) => .nx (ss.set i (some (.dk a q b n)))
  | _, _ => .no
theorem s_dkSet (C : VC X k P w K mg base W) (i : Nat) {y : Str} {z : Nat} {p1 p2 p3 : Pos} {m : SS → EO Dt} (h : VE X K mg W e m) (hN : ∀ l, (X l).N[i]? = some y) (hv : ∀ l, Vis (X l).env.scope y) (hd : (y == ("__debug__" : Str)) = false := by decide) (hcd : (y == ("__classdict__" : Str)) = false := by decide)
    (hs : ∀ l, swapsWithSole [.Subscript (.Name y p1) (.Constant (.int 2) z p2) p3] e pos.line (X l).env = pure false := by intro _; rfl) (hw : ∀ l, swappedStores [.Subscript (.Name y p1) (.Constant (.int 2) z p2) p3] e (X l).env = pure none := by intro _; rfl)
    (h1 : ∀ l, (assignEach [.Subscript (.Name y p1) (.Constant (.int 2) z p2) p3] (X l).env).map (·.2) = [assign (.Subscript (.Name y p1) (.Constant (.int 2) z p2) p3) (X l).env] := by intro _; rfl) :
    VS X K mg W (.Assign [.Subscript (.Name y p1) (.Constant (.int 2) z p2) p3] e pos) (mDkSet i m) := by
  obtain ⟨t, a1, a2⟩ := h.ex
  refine ⟨_, fun l => ps_asg (a1 l) (pg_sub (pe_var (hN l) (hv l) hd hcd) pe_int set_list) (hs l) (hw l) (h1 l), fun ω ss σ H D rs q => a2 ω ss σ H _ rs ?_⟩
  refine seqS q fun d ss1 ω1 H1 x _ rs1 fr1 rp1 q1 => ?_
  split at q1
  · rename_i n a qq b c hk _
    cases rp1
    obtain ⟨w1, w2, a3, w3, w4, w5, w6⟩ := rs1.deck hk
    refine ⟨.ref a, w1, a, _, 2, 2, rfl, rfl, w5, rfl, ?_⟩
    obtain ⟨m1, m2, m3⟩ := rs1.mut (o := .lst [.ref a3, .int b, .int n]) (s := .dk a qq b n) w2 w1 ⟨rfl, w2, a3, w3, upd_same, by rw [upd_ne w4]; exact w6⟩
    exact q1 ω1 σ _ m1 m2
  · exact q1.elim
/-- deck[0] != [] -/
def mDkNe (i : Nat) : SS → EO Bool := fun ss => match dkOf ss i with
  | some (_, q, _, _) => .ok (!q.isEmpty) ss
  | none => .no
theorem dp_ints {H : Hp} : ∀ q : List Int, DpAll K H (q.map V.int) (q.map PyData.int)
  | [] => .nil
  | z :: q => .cons (.int z) (dp_ints q)
theorem lay_ints : ∀ q : List Int, PyData.canLayAll0 (q.map PyData.int) = true
  | [] => rfl
  | z :: q => by
    show (PyData.canLay0 (.int z) && PyData.canLayAll0 (q.map PyData.int)) = true
    rw [lay_ints q]
    rfl
theorem dep_ints : ∀ q : List Int, PyData.depthAll (q.map PyData.int) ≤ 1
  | [] => by simp [PyData.depthAll]
  | z :: q => by
    have := dep_ints q
    simp only [List.map_cons, PyData.depthAll, PyData.depth]
    omega
theorem shaped_ints (q : List Int) : SeqAt.shaped (.list (q.map PyData.int)) = true := by
  unfold SeqAt.shaped
  have h1 := dep_ints q
  rw [show PyData.canLay0 (.list (q.map PyData.int)) = true from by simpa [PyData.canLay0] using lay_ints q, Bool.true_and, decide_eq_true_eq]
  simp only [PyData.depth]
  omega
theorem t_dkNe (C : VC X k P w K mg base W) (i : Nat) {y : Str} {z : Nat} {p1 p2 p3 p4 : Pos} (hN : ∀ l, (X l).N[i]? = some y) (hv : ∀ l, Vis (X l).env.scope y) (hd : (y == ("__debug__" : Str)) = false := by decide) (hcd : (y == ("__classdict__" : Str)) = false := by decide) (hk : behindInMarks .NotEq (.List [] p4) = false := by rfl) :
    VT X K mg W (.Compare (.Subscript (.Name y p1) (.Constant (.int 0) z p2) p3) [.NotEq] [.List [] p4] pos) (mDkNe i) := by
  refine ⟨tTest (tOp (rNeD K) (tOp (rIx K) (tVar i) (tC (.int 0))) (tLst tNil)), fun l => by rw [← C.eK l]; exact pt_cmpR (op_neD (C.rm l).units) (pe_ix ix_seq (pe_var (hN l) (hv l) hd hcd) pe_int (fun _ _ => rfl)) (pe_lst pa_nil) hk, fun ω ss σ H Q rs q => ?_⟩
  unfold mDkNe at q
  split at q
  · rename_i a qq b c hk
    obtain ⟨w1, w2, a2, w3, w4, w5, w6⟩ := rs.deck hk
    refine ⟨_, w1, .inl ⟨a, _, 0, .ref a2, rfl, rfl, .of w5, rfl, by decide, fun p hp => ?_⟩⟩
    have hs : Same H (upd H p (.lst [])) := same_upd hp
    have sh : SeqAt.shaped (.list []) = true := shaped_ints []
    refine ⟨.list (qq.map PyData.int), .list [], .lst (.of (hs _ _ w6)) (dp_ints qq), .lst (.of upd_same) .nil, shaped_ints qq, sh, ?_⟩
    have e : (!PyData.eqv (.list (qq.map PyData.int)) (.list [])) = !qq.isEmpty := by
      cases qq <;> simp [PyData.eqv, PyData.eqvAll]
    exact ⟨_, congrArg V.bl e, q ω _ _ (rs.grow hs) (.grow hs rs.own) rfl⟩
  · exact q.elim
/-- deck[0].pop() -/
def mDkPop (i : Nat) : SS → EO Dt := fun ss => match dkOf ss i with
  | some (a, q, b, c) => match q.getLast? with
    | some z => .ok (.int z) (ss.set i (some (.dk a q.dropLast b c)))
    | none => .no
  | none => .no
theorem v_dkPop (C : VC X k P w K mg base W) (i : Nat) {y : Str} {z : Nat} {p1 p2 p3 ap : Pos} (hN : ∀ l, (X l).N[i]? = some y) (hv : ∀ l, Vis (X l).env.scope y) (hd : (y == ("__debug__" : Str)) = false := by decide) (hcd : (y == ("__classdict__" : Str)) = false := by decide)
    (hb : ∀ l, attributeBase (.Subscript (.Name y p1) (.Constant (.int 0) z p2) p3) "pop" (X l).env (eval (.Subscript (.Name y p1) (.Constant (.int 0) z p2) p3) (X l).env) = eval (.Subscript (.Name y p1) (.Constant (.int 0) z p2) p3) (X l).env := by intro _; rfl) (hl : (ap.endLine == pos.line) = true := by rfl) :
    VE X K mg W (.Call (.Attribute (.Subscript (.Name y p1) (.Constant (.int 0) z p2) p3) "pop" ap) [] [] pos) (mDkPop i) := by
  refine ⟨tBM0 K "list" rPop (tOp (rIx K) (tVar i) (tC (.int 0))), fun l => by rw [← C.eK l]; exact pe_bm0 PySem.F.plainAttrs_list PySem.F.slot_list_pop PySem.F.type_list_pop (show MtR (X l) "list.pop" rPop from mt_pop) (pe_ix ix_seq (pe_var (hN l) (hv l) hd hcd) pe_int (fun _ _ => rfl)) (hb l) hl, fun ω ss σ H Q rs q => ?_⟩
  unfold mDkPop at q
  split at q
  · rename_i a qq b c hk
    obtain ⟨w1, w2, a2, w3, w4, w5, w6⟩ := rs.deck hk
    split at q
    · rename_i v hv2
      refine ⟨_, w1, .inl ⟨a, _, 0, .ref a2, rfl, rfl, .of w5, rfl, .inl ⟨rfl, _, .of w6⟩, a2, qq.map V.int, .int v, rfl, rfl, w6, ?_, ?_⟩⟩
      · rw [List.length_map, List.getElem?_map]
        rw [List.getLast?_eq_getElem?] at hv2
        rw [hv2]
        rfl
      · have e2 : (qq.map V.int).dropLast = qq.dropLast.map V.int := by rw [List.map_dropLast]
        rw [e2]
        obtain ⟨m1, m2, m3⟩ := rs.mut (o := .lst (qq.dropLast.map V.int)) (s := .dk a qq.dropLast b c) w3 w1 ⟨rfl, w2, a2, w3, by rw [upd_ne w4.symm]; exact w5, upd_same⟩
        exact q ω _ _ m1 m2 (.int _)
    · exact q.elim
  · exact q.elim
/-- deck[0].append(u // v), names -/
def mDkApp (i ju jv : Nat) : SS → SO := fun ss => match dkOf ss i, ss[ju]?, ss[jv]? with
  | some (a, q, b, c), some (some (.v (.int n))), some (some (.v (.int m))) => if 0 < m ∧ m < 1073741824 ∧ q.length < sizeLine then .nx (ss.set i (some (.dk a (q ++ [n / m]) b c))) else .no
  | _, _, _ => .no
theorem s_dkApp (C : VC X k P w K mg base W) (i ju jv : Nat) {y u v : Str} {z : Nat} {p1 p2 p3 ap p4 pu pv po : Pos} (hN : ∀ l, (X l).N[i]? = some y) (hv : ∀ l, Vis (X l).env.scope y) (hNu : ∀ l, (X l).N[ju]? = some u) (hvu : ∀ l, Vis (X l).env.scope u) (hNv : ∀ l, (X l).N[jv]? = some v) (hvv : ∀ l, Vis (X l).env.scope v)
    (hd : (y == ("__debug__" : Str)) = false := by decide) (hcd : (y == ("__classdict__" : Str)) = false := by decide) (hdu : (u == ("__debug__" : Str)) = false := by decide) (hcu : (u == ("__classdict__" : Str)) = false := by decide) (hdv : (v == ("__debug__" : Str)) = false := by decide) (hcv : (v == ("__classdict__" : Str)) = false := by decide)
    (hb : ∀ l, attributeBase (.Subscript (.Name y p1) (.Constant (.int 0) z p2) p3) "append" (X l).env (eval (.Subscript (.Name y p1) (.Constant (.int 0) z p2) p3) (X l).env) = eval (.Subscript (.Name y p1) (.Constant (.int 0) z p2) p3) (X l).env := by intro _; rfl)
    (hf : ∀ l, ((backTo p4 (starEach ((.BinOp (.Name u pu) .FloorDiv (.Name v pv) po) :: []) (X l).env)).all (fun x => !x.1) && (backToKw p4 (keywordEach [] (X l).env)).all (fun x => x.1.isSome) && decide (((.BinOp (.Name u pu) .FloorDiv (.Name v pv) po : Expr) :: []).length + ([] : List Keyword).length + (if ([] : List Keyword).isEmpty then 0 else 1) < 30)) = true := by intro _; rfl)
    (hl : (ap.endLine == p4.line) = true := by rfl) (hst : ∀ l, starEach ((.BinOp (.Name u pu) .FloorDiv (.Name v pv) po) :: []) (X l).env = (false, eval (.BinOp (.Name u pu) .FloorDiv (.Name v pv) po) (X l).env) :: starEach [] (X l).env := by intro _; rfl) (hpl : ∀ l, (backTo p4 (starEach [] (X l).env)).any (·.1) = false := by intro _; rfl)
    (hsw : ∀ l, swapsWith (.Call (.Attribute (.Subscript (.Name y p1) (.Constant (.int 0) z p2) p3) "append" ap) [.BinOp (.Name u pu) .FloorDiv (.Name v pv) po] [] p4) none pos.line (X l).env = pure false := by intro _; rfl) :
    VS X K mg W (.Expr (.Call (.Attribute (.Subscript (.Name y p1) (.Constant (.int 0) z p2) p3) "append" ap) [.BinOp (.Name u pu) .FloorDiv (.Name v pv) po] [] p4) pos) (mDkApp i ju jv) := by
  refine ⟨tDrop (tBM K "list" rAppend (tOp (rIx K) (tVar i) (tC (.int 0))) (tCons (tOp (rI (fun _ j => 0 < j ∧ j < 1073741824) fun i j => .int (i / j)) (tVar ju) (tVar jv)) tNil)), fun l => ps_expr (by
    rw [← C.eK l]
    exact pe_bm PySem.F.plainAttrs_list PySem.F.slot_list_append PySem.F.type_list_append (show MtR (X l) "list.append" rAppend from mt_append) (pe_ix ix_seq (pe_var (hN l) (hv l) hd hcd) pe_int (fun _ _ => rfl)) (pa_cons (pe_op op_fdiv (pe_var (hNu l) (hvu l) hdu hcu) (pe_var (hNv l) (hvv l) hdv hcv)) pa_nil (hst l)) (hb l) (hf l) hl (hst l) (hpl l)) (hsw l), fun ω ss σ H D rs q => ?_⟩
  unfold mDkApp at q
  split at q
  · rename_i a qq b c n m hk hu hv2
    split at q
    · rename_i hc
      obtain ⟨w1, w2, a2, w3, w4, w5, w6⟩ := rs.deck hk
      obtain ⟨x1, g1, g2⟩ := rs.sl ju _ hu
      obtain ⟨x2, g3, g4⟩ := rs.sl jv _ hv2
      cases (show Rp K (hid ω H) x1 (.int n) from g2)
      cases (show Rp K (hid ω H) x2 (.int m) from g4)
      refine ⟨_, w1, .inl ⟨a, _, 0, .ref a2, rfl, rfl, .of w5, rfl, .inl ⟨rfl, _, .of w6⟩, _, g1, _, g3, n, m, rfl, rfl, ⟨hc.1, hc.2.1⟩, a2, qq.map V.int, _, rfl, rfl, w6, by rw [List.length_map]; exact hc.2.2, ?_⟩⟩
      have e2 : qq.map V.int ++ [V.int (n / m)] = (qq ++ [n / m]).map V.int := by simp
      rw [e2]
      obtain ⟨m1, m2, m3⟩ := rs.mut (o := .lst ((qq ++ [n / m]).map V.int)) (s := .dk a (qq ++ [n / m]) b c) w3 w1 ⟨rfl, w2, a2, w3, by rw [upd_ne w4.symm]; exact w5, upd_same⟩
      exact q ω σ _ m1 m2
    · exact q.elim
  · exact q.elim
end
end VL

namespace VL
open PySem PySem.Spec L2
open PyProof.Rows hiding St

/-- a def that makes a deck of the script -/
def spM (K : PySem.W.Frag) (B : List Int → Int) : Sp := fun vs H Q _ => ∃ (a : Addr) (ns : List Int), vs = [.ref a] ∧ SqL K H a (ns.map V.int) ∧ ns.length ≤ 63 ∧
  ∀ (H' : Hp) (d d2 : Addr), Same H H' → H d = none → H d2 = none → d ≠ d2 → H' d = some (.lst [.ref d2, .int (B ns.reverse), .int 0]) → H' d2 = some (.lst (ns.reverse.map V.int)) → Q (.ref d) H'
def spL (K : PySem.W.Frag) : Sp := fun vs H Q _ => ∃ (a : Addr) (ns : List Int), vs = [.ref a] ∧ SqL K H a (ns.map V.int) ∧ ns.length ≤ 63 ∧ ∀ H', Q (.bl true) H'
/-- the slots behind the first statement of a law -/
def startW (a : Addr) (N : List Str) (q : List Int) (b : Int) : SS := none :: some (.dk a q b 0) :: List.replicate (N.length - 2) none
section
variable {P : Program} {w : World} {K : PySem.W.Frag} {mg : Str → Option Value} {base : Heap} {k j : Nat} {f fm : Addr} {fd fdm : FuncData} {N psm : List Str} {x qual dn mk : Str} {st : Stmt} {p1 p2 p3 p4 p5 : Pos}
/-- THE RULE for a law -/
theorem fn_law {rest : List Stmt} {m : SS → SO} {B : List Int → Int} (F : Fun K x qual st f fd) {sx : Str} (S : FnScope N [sx] (defScope st)) (hN : N.length ≤ 1000) (hN2 : 2 ≤ N.length)
    (hb : defBody st = .Assign [.Name dn p1] (.Call (.Name mk p2) [.Name sx p3] [] p4) p5 :: rest) (M : FnG P w K mg base j fm fdm psm (spM K B)) (hj : j ≤ k) (mm : mg mk = some (.ref fm)) (hk : PySem.W.keepIn K (.ref fm) = true) (bm : Binds K fdm psm [])
    (h0 : N[0]? = some sx) (h1 : N[1]? = some dn) (v0 : ∀ (cdv : Value) (A : Around) (outer : List Env) (s : Shared) (H : Hp) (E : XK), Vis (fX P w K mg base N qual (defScope st) f cdv A outer s H E ()).env.scope sx) (l1 : ∀ (cdv : Value) (A : Around) (outer : List Env) (s : Shared) (H : Hp) (E : XK), Loc (fX P w K mg base N qual (defScope st) f cdv A outer s H E ()).env.scope dn)
    (gm : ∀ (cdv : Value) (A : Around) (outer : List Env) (s : Shared) (H : Hp) (E : XK), Gl (fX P w K mg base N qual (defScope st) f cdv A outer s H E ()) mk)
    (body : ∀ (cdv : Value) (A : Around) (outer : List Env) (s : Shared) (H : Hp) (E : XK), VC (fX P w K mg base N qual (defScope st) f cdv A outer s H E) k P w K mg base (WX0 E) → VSs (fX P w K mg base N qual (defScope st) f cdv A outer s H E) K mg (WX0 E) rest m)
    (good : ∀ (a : Addr) (ns : List Int), ns.length ≤ 63 → ∃ ss, m (startW a N ns.reverse (B ns.reverse)) = .rt (.bool true) ss)
    (d0 : (sx == ("__debug__" : Str)) = false := by decide) (c0 : (sx == ("__classdict__" : Str)) = false := by decide) (dm : (mk == ("__debug__" : Str)) = false := by decide) :
    FnG P w K mg base (k + 1) f fd [sx] (spL K) := by
  refine FnG.of F S (fun vs H Q E z => ?_) fun cdv A outer s H vs Q E hr hgd hsp => ?_
  · obtain ⟨a, ns, rfl, _⟩ := z
    rfl
  · obtain ⟨a, ns, rfl, hS, hl, hq⟩ := hsp
    have C := VC.fn (P := P) (w := w) (K := K) (mg := mg) (base := base) (outer := outer) (s := s) (H := H) (E := E) S.nd hr hgd
    obtain ⟨t, t1, t2⟩ := (body cdv A outer s H E C).ex
    have first := ps_set (pos := p5) (pos' := p1) (C.nd ()) h1 (l1 cdv A outer s H E) (pe_g (p := p2) (pos := p4) (E := WE (WX0 E)) (k := j) (fd := fdm) (ps := psm) (f := fm) (Y := fX P w K mg base N qual (defScope st) f cdv A outer s H E ()) (sp := spM K B) M ((C.rm ()).mono hj) hgd (gm cdv A outer s H E) mm hk bm (fun σ => passAt (C.tk ()) σ) (pa_cons (pe_var (pos := p3) h0 (v0 cdv A outer s H E) d0 c0) pa_nil) dm rfl rfl) rfl (.inl rfl)
    refine ⟨_, by rw [hb]; exact pss_cons first (t1 ()), ?_⟩
    have s0 : (L2.start N [V.ref a])[0]? = some (some (.ref a)) := start_get (i := 0) rfl
    refine ⟨.ref a, s0, a, ns, rfl, hS, hl, fun H' d d2 hs n1 n2 n3 e1 e2 => ?_⟩
    obtain ⟨ω, ew⟩ : ∃ ω : Om, ω = fun y => if y = d ∨ y = d2 then some 1 else none := ⟨_, rfl⟩
    have o1 : ω d = some 1 := by rw [ew]; exact if_pos (.inl rfl)
    have o2 : ω d2 = some 1 := by rw [ew]; exact if_pos (.inr rfl)
    obtain ⟨ss', em⟩ := good d ns hl
    have lenN : (L2.start N [V.ref a]).length = N.length := by
      unfold L2.start
      simp only [List.length_append, List.length_map, List.length_replicate, List.length_cons, List.length_nil]
      omega
    refine t2 ω (startW d N ns.reverse (B ns.reverse)) _ H' _ ⟨?_, ?_, fun y i hy => ?_, fun i sv hi => ?_⟩ ?_
    · rw [List.length_set, lenN]
      unfold startW
      simp only [List.length_cons, List.length_replicate]
      omega
    · rw [List.length_set, lenN]
      exact hN
    · rw [ew] at hy
      have hy : (if y = d ∨ y = d2 then some 1 else none) = some i := hy
      split at hy
      · rename_i hc
        rcases hc with rfl | rfl
        · rw [e1]; rfl
        · rw [e2]; rfl
      · cases hy
    · match i, hi with
      | 0, hi => cases hi
      | 1, hi =>
        have hi : some (some (SV.dk d ns.reverse (B ns.reverse) 0)) = some (some sv) := hi
        cases hi
        exact ⟨.ref d, by rw [List.getElem?_set_self (by rw [lenN]; omega)], rfl, o1, d2, o2, e1, e2⟩
      | i + 2, hi =>
        have hi : (List.replicate (N.length - 2) (none : Option SV))[i]? = some (some sv) := hi
        rw [List.getElem?_replicate] at hi
        split at hi <;> cases hi
    · rw [em]
      intro ω' σ' H2 v rs fr rv
      cases rv
      exact hq H2
end

theorem call_g {P : Program} {w : World} {K : PySem.W.Frag} {mg mb : Str → Option Value} {k : Nat} {fa a : Addr} {fd : FuncData} {x : Str} {s1 : Shared} {vs : List Value} {ns : List Int} (KX : K.In s1.heap) (hns : s1.heap.Ns mainGlobals mg) (hb : s1.heap.Ns builtinsNs mb)
    (hbb : ∀ x : Str, x ≠ "__name__" → mb x = bootBuiltins x) (hlim : s1.heap.NoLimit) (hg : s1.gens = #[]) (ha : s1.heap.get? a = some { cls := .type "list", data := .seq vs.toArray }) (hi : IntsAre vs ns) (hl : ns.length ≤ 63) (hr : Room k callerA) (hgd : callerA.guards = some [])
    (F : ∀ base : Heap, K.In base → base.Ns mainGlobals mg → FnG P w K mg base k fa fd [x] (spL K)) (hbind : ∀ (s : Shared) (u : Value), BindsTo s fd ⟨[u], []⟩ [(x, u)]) :
    codeAny (model P w) callerA (.call (.ref fa) ⟨[.ref a], []⟩) (fun r s' => r = .ok (.ret (.bool true)) ∧ OldK s1.heap s'.heap ∧ s'.os = s1.os ∧ AllBare s'.gens) s1 := by
  have lv := hi.length
  have hl2 : ns.length ≤ sizeLine := Nat.le_trans hl (by decide)
  have main : ∀ H : Hp, (∀ b, H b = none ∨ ∃ o xs, H b = some (.frz o (.lst xs))) → SqL K H a (ns.map V.int) → HOk P w H s1.heap → (∀ b, H b ≠ none → b = a) → (H a ≠ none → K.lookup a = none) →
      codeAny (model P w) callerA (.call (.ref fa) ⟨[.ref a], []⟩) (fun r s' => r = .ok (.ret (.bool true)) ∧ OldK s1.heap s'.heap ∧ s'.os = s1.os ∧ AllBare s'.gens) s1 := by
    intro H hO hS ok only offK
    have free : ∀ {b : Addr}, b ≠ a → H b = none := fun {b} hne => by
      cases q : H b with
      | none => rfl
      | some u => exact absurd (only b (by rw [q]; exact fun z => nomatch z)) hne
    have dictNe : ∀ {b : Addr} {o : Obj} {es : Array DictEntry} {ep : Nat}, s1.heap.get? b = some o → o.data = .dict es ep → b ≠ a := fun {b o es ep} e d z => by
      subst z
      rw [ha] at e
      cases e
      exact nomatch d
    have ns' : ∀ {b : Addr} {m : Str → Option Value}, s1.heap.Ns b m → (hidT s1.heap H).Ns b m := fun {b m} h => let ⟨o, es, ep, e, d, r⟩ := h; ⟨o, es, ep, hidT_get e (free (dictNe e d)), d, r⟩
    have kin : K.In (hidT s1.heap H) := fun b o e => by
      refine hidT_get (KX b o e) ?_
      by_cases hne : b = a
      · cases q : H b with
        | none => rfl
        | some u =>
          rw [hne] at q e
          rw [offK (by rw [q]; exact fun z => nomatch z)] at e
          cases e
      · exact free hne
    have e0 : Env0 P w K mg (hidT s1.heap H) callerA [] s1 H := ⟨rfl, ⟨kin, ns' hns, ⟨mb, ns' hb, hbb⟩, let ⟨mc, m1, m2⟩ := hlim; ⟨mc, ns' m1, m2⟩⟩, fun b o e => of_hidT e, Nat.le_of_eq (hidT_size _ _), trivial, fun b z => (nomatch z), ok, .of_eq hg⟩
    refine codeAny_mono ((F _ kin (ns' hns)).go callerA [] s1 H ⟨[.ref a], []⟩ [.ref a] [.ref a] (fun v _ => v = .bl true) (fun _ _ _ => False) hr hgd e0 (hbind s1 (.ref a)) (.cons rfl .nil) ⟨a, ns, rfl, hS, hl, fun _ => rfl⟩) fun r s' h => ?_
    cases r with
    | error e =>
      obtain ⟨_, _, _, _, _, _, _, _, _, _, _, _, _, _, _, _, h⟩ := h
    | ok fl =>
      cases fl with
      | ret u =>
        obtain ⟨v, H', os, bare, un, ok', rv, rfl⟩ := h
        cases rv
        refine ⟨rfl, OldK.of_keep fun b o e => ?_, os, bare⟩
        rcases hO b with q | ⟨ob, xs, q⟩
        · exact un.keep b o e q (fun z => nomatch z) (fun z => nomatch z)
        · have e1 := (ok b _ q).1
          have e2 := (ok' b _ (un.frzs b ob _ q)).1
          rw [e] at e1
          cases e1
          exact e2
      | next => exact h.elim
      | brk => exact h.elim
      | cont => exact h.elim
  have rv : Vals (ns.map V.int) vs := vals_ints hi
  cases hk : K.lookup a with
  | some o =>
    have e := KX a o hk
    rw [ha] at e
    cases e
    exact main (fun _ => none) (fun _ => .inl rfl) (.inr ⟨_, vs.toArray, _, hk, rfl, rfl, rfl, by rw [List.size_toArray, lv]; exact hl2, by simpa using rv⟩) (fun b u z => nomatch z) (fun b z => absurd rfl z) fun z => absurd rfl z
  | none =>
    obtain ⟨H, eH⟩ : ∃ H : Hp, H = fun b => if b = a then some (.frz { cls := .type "list", data := .seq vs.toArray } (.lst (ns.map V.int))) else none := ⟨_, rfl⟩
    have at_a : H a = some (.frz { cls := .type "list", data := .seq vs.toArray } (.lst (ns.map V.int))) := by rw [eH]; exact if_pos rfl
    have off : ∀ b, b ≠ a → H b = none := fun b hb => by rw [eH]; exact if_neg hb
    refine main H (fun b => ?_) (.inl (.inr ⟨_, at_a⟩)) (fun b u z => ?_) (fun b z => ?_) fun _ => hk
    · by_cases hb : b = a
      · exact .inr ⟨_, _, by rw [hb]; exact at_a⟩
      · exact .inl (off b hb)
    · by_cases hb : b = a
      · subst hb
        rw [at_a] at z
        cases z
        exact ⟨ha, by rw [List.length_map]; exact hl2, vs, _, rv, ha⟩
      · rw [off b hb] at z
        cases z
    · by_cases hb : b = a
      · exact hb
      · exact absurd (off b hb) z
theorem walk_g {l : PySem.W.OpenLaw} {k : Nat} {q : Program} {loose : List Str} {XP : (Str → Option Value) → Heap → Prop} {YP : World → Heap → Prop} {d : DefRec} {K : Params → PySem.W.Frag} {x : Str} (hn : l.most = some 63) (hdf : d.params.defaults = []) (hr : Room k callerA) (hgd : callerA.guards = some [])
    (hY : ∀ (w : World) (h : Heap), YP w h → (K w.params).In h)
    (F : ∀ (w : World) (mg : Str → Option Value) (fa : Addr) (h : Heap), (K w.params).In h → h.Ns mainGlobals mg → mg d.name = some (.ref fa) → ∃ fd : FuncData, (∀ (s : Shared) (u : Value), BindsTo s fd ⟨[u], []⟩ [(x, u)]) ∧ ∀ base : Heap, (K w.params).In base → base.Ns mainGlobals mg → FnG l.prog w (K w.params) mg base k fa fd [x] (spL (K w.params))) :
    PySem.W.WalkO q loose XP YP l.row.toRowW d [] (fun f vs => PySem.call f vs) := by
  refine Att.attach_call hn hdf fun w s0 s1 mg mb fa o pm cd doc a vs ns G Y _ _ _ hmg hobj hints hlen hg => ?_
  obtain ⟨fd, hb, hF⟩ := F w mg fa _ (hY w _ Y) G.T.g hmg
  exact call_g (hY w _ Y) G.T.g G.T.b G.T.builtins G.T.nolimit hg hobj hints hlen hr hgd hF hb
end VL

namespace VL
open PySem PySem.Spec L2
open PyProof.Rows hiding St

/-- a def of the module -/
structure Df (K : PySem.W.Frag) (mg : Str → Option Value) (x : Str) (st : Stmt) (ps : List Str) : Prop where
  ex : ∃ f fd, Fun K x x st f fd ∧ mg x = some (.ref f) ∧ Binds K fd ps []
/-- .. with its promise -/
structure Go (P : Program) (w : World) (K : PySem.W.Frag) (mg : Str → Option Value) (base : Heap) (k : Nat) (x : Str) (st : Stmt) (ps : List Str) (sp : Sp) : Prop where
  ex : ∃ f fd, Fun K x x st f fd ∧ mg x = some (.ref f) ∧ Binds K fd ps [] ∧ FnG P w K mg base k f fd ps sp
section
variable {P : Program} {w : World} {K : PySem.W.Frag} {mg : Str → Option Value} {base : Heap} {k : Nat} {x : Str} {st : Stmt} {ps N : List Str} {sp sp' : Sp}
theorem Df.go (D : Df K mg x st ps) (h : ∀ f fd, Fun K x x st f fd → FnG P w K mg base k f fd ps sp) : Go P w K mg base k x st ps sp :=
  let ⟨f, fd, F, hm, hb⟩ := D.ex
  ⟨f, fd, F, hm, hb, h f fd F⟩
theorem Go.mono {j : Nat} (G : Go P w K mg base j x st ps sp) (h : j ≤ k) : Go P w K mg base k x st ps sp :=
  let ⟨f, fd, F, hm, hb, g⟩ := G.ex
  ⟨f, fd, F, hm, hb, g.mono h⟩
theorem Go.imp (G : Go P w K mg base k x st ps sp) (h : ∀ vs H Q E, sp' vs H Q E → sp vs H Q E) : Go P w K mg base k x st ps sp' :=
  let ⟨f, fd, F, hm, hb, g⟩ := G.ex
  ⟨f, fd, F, hm, hb, g.imp h⟩
/-- a def upon data, in better words -/
theorem go_pure {m : SS → SO} {n : Nat} {h : List Dt → Res Dt} (D : Df K mg x st ps) (S : FnScope N ps (defScope st)) (hN : N.length ≤ 1000) (en : ps.length = n) (e : ∀ ds, ds.length = n → outF (m (startS N ds)) = h ds ∨ h ds = .no)
    (body : ∀ (f : Addr) (cdv : Value) (A : Around) (outer : List Env) (s : Shared) (H : Hp) (E : XK), VC (fX P w K mg base N x (defScope st) f cdv A outer s H E) k P w K mg base (WX0 E) → VSs (fX P w K mg base N x (defScope st) f cdv A outer s H E) K mg (WX0 E) (defBody st) m) :
    Go P w K mg base (k + 1) x st ps (spF K mg n h) :=
  D.go fun f fd F => (fn_pure F S hN (body f)).imp (by rw [en]; exact spF_imp e)
theorem go_no {n : Nat} (D : Df K mg x st ps) (en : ps.length = n) : Go P w K mg base k x st ps (spD K n fun _ _ => .no) :=
  D.go fun f fd F => ⟨fun vs H Q E z => by
    obtain ⟨_, _, _, _, _, _, _, _, _, _, _, _, _, _, _, _, z⟩ := z
    exact z.elim, fun A outer s H args us vs Q E _ _ _ _ _ z => by
    obtain ⟨_, _, _, _, _, _, _, _, _, _, _, _, _, _, _, _, z⟩ := z
    exact z.elim⟩
/-- a def that draws -/
theorem go_deck {m : SS → SO} {n : Nat} {g : Dk → List Dt → Res (Dt × Dk)} (D : Df K mg x st ps) (S : FnScope N ps (defScope st)) (hN : N.length ≤ 1000) (en : ps.length = n) (e : ∀ a dk ds, ds.length + 1 = n → outD a (m (startD a N dk ds)) = g dk ds ∨ g dk ds = .no)
    (body : ∀ (f : Addr) (cdv : Value) (A : Around) (outer : List Env) (s : Shared) (H : Hp) (E : XK), VC (fX P w K mg base N x (defScope st) f cdv A outer s H E) k P w K mg base (WX0 E) → VSs (fX P w K mg base N x (defScope st) f cdv A outer s H E) K mg (WX0 E) (defBody st) m) :
    Go P w K mg base (k + 1) x st ps (spD K n g) :=
  D.go fun f fd F => by
    subst en
    exact fn_deck F S hN (body f) e
end
section
variable {ι : Type} {X : ι → Cx} {k : Nat} {P : Program} {w : World} {K : PySem.W.Frag} {mg : Str → Option Value} {base : Heap} {W : WX} {e a b c : Expr} {es : List Expr} {pos p : Pos} {j n : Nat} {ps : List Str} {x : Str} {st : Stmt}
theorem nm (i : Nat) {x : Str} (hN : ∀ j, (X j).N[i]? = some x := by intro _; rfl) (hv : ∀ j, Vis (X j).env.scope x := by intro _; first | exact .inl rfl | exact .inr (.inl rfl) | exact .inr (.inr rfl)) (hd : (x == ("__debug__" : Str)) = false := by decide) (hcd : (x == ("__classdict__" : Str)) = false := by decide) : VE X K mg W (.Name x pos) (mVar i) := v_var i hN hv hd hcd
theorem bn (i : Nat) {x : Str} (hN : ∀ j, (X j).N[i]? = some x := by intro _; rfl) (hv : ∀ j, Vis (X j).env.scope x := by intro _; first | exact .inl rfl | exact .inr (.inl rfl) | exact .inr (.inr rfl)) (hd : (x == ("__debug__" : Str)) = false := by decide) (hcd : (x == ("__classdict__" : Str)) = false := by decide) : VB X K mg W (.Name x pos) (mBor i) := b_var i hN hv hd hcd
theorem gn (C : VC X k P w K mg base W) (i : Nat) {x : Str} (hi : ∀ j, (X j).N[i]? = some x := by intro _; rfl) (hx : ∀ j, Loc (X j).env.scope x := by intro _; first | exact .inl rfl | exact .inr rfl) (hf : ∀ j, (X j).fn x = true ∨ (X j).env.scope.names.lookup x = some .local := by intro _; first | exact .inl rfl | exact .inr rfl) : VG X K (.Name x p) [i] (gNm i) := g_nm i C.nd hi hx hf
theorem gstr (C : VC X k P w K mg base W) {x z : Str} (hm : ∃ t, mg x = some (.str z t)) (hg : ∀ i, Gl (X i) x := by intro _; rfl) (hd : (x == ("__debug__" : Str)) = false := by decide) : VE X K mg W (.Name x pos) (mC (.str z)) :=
  let ⟨t, h⟩ := hm
  v_glob (v := .str z) C hg h ⟨t, rfl⟩ (fun _ => .str z) hd
theorem gint (C : VC X k P w K mg base W) {x : Str} {z : Int} (hm : ∃ t, mg x = some (.int z t)) (hg : ∀ i, Gl (X i) x := by intro _; rfl) (hd : (x == ("__debug__" : Str)) = false := by decide) : VE X K mg W (.Name x pos) (mC (.int z)) :=
  let ⟨t, h⟩ := hm
  v_glob (v := .int z) C hg h ⟨t, rfl⟩ (fun _ => .int z) hd
/-- f(e, ..) -/
theorem call (C : VC X k P w K mg base W) {g : List Dt → Res Dt} {m : SS → EO (List Dt)} (G : Go P w K mg base j x st ps (spF K mg n g)) (hj : j ≤ k) (hn : (e :: es).length = n) (ha : VA X K mg W (e :: es) m) (hlen : ∀ ss ds ss', m ss = .ok ds ss' → ds.length = n) (hg : ∀ i, Gl (X i) x := by intro _; rfl)
    (hdb : (x == ("__debug__" : Str)) = false := by decide) (he : ∀ i, starEach (e :: es) (X i).env = (false, eval e (X i).env) :: starEach es (X i).env := by intro _; rfl) (hpl : ∀ i, (backTo pos (starEach es (X i).env)).any (·.1) = false := by intro _; rfl) : VE X K mg W (.Call (.Name x p) (e :: es) [] pos) (mRes g m) :=
  let ⟨_, _, F, hm, hb, f⟩ := G.ex
  v_call C f hj hn hg hm F.kp hb ha hdb he hpl hlen
/-- f(deck, ..) -/
theorem draw (C : VC X k P w K mg base W) (i : Nat) {y : Str} {py : Pos} {g : Dk → List Dt → Res (Dt × Dk)} {m : SS → EO (List Dt)} (G : Go P w K mg base j x st ps (spD K n g)) (hj : j ≤ k) (ha : VA X K mg W es m) (hlen : ∀ ss ds ss', m ss = .ok ds ss' → ds.length + 1 = n)
    (hN : ∀ l, (X l).N[i]? = some y := by intro _; rfl) (hv : ∀ l, Vis (X l).env.scope y := by intro _; first | exact .inl rfl | exact .inr (.inl rfl) | exact .inr (.inr rfl)) (hg : ∀ i, Gl (X i) x := by intro _; rfl) (hd : (y == ("__debug__" : Str)) = false := by decide) (hcd : (y == ("__classdict__" : Str)) = false := by decide) (hdb : (x == ("__debug__" : Str)) = false := by decide)
    (he : ∀ l, starEach (.Name y py :: es) (X l).env = (false, eval (.Name y py) (X l).env) :: starEach es (X l).env := by intro _; rfl) (hpl : ∀ l, (backTo pos (starEach es (X l).env)).any (·.1) = false := by intro _; rfl) : VE X K mg W (.Call (.Name x p) (.Name y py :: es) [] pos) (mDraw i g m) :=
  let ⟨_, _, F, hm, hb, f⟩ := G.ex
  v_draw i C f hj hg hm F.kp hb hN hv ha hlen hd hcd hdb he hpl
def one1 {α : Type} (us ws : List α) : List α := match us, ws with
  | [], [u] => [u]
  | _, _ => []
def two12 {α : Type} (us ws : List α) : List α := match us, ws with
  | [], [u, v] => [u, v]
  | _, _ => []
def two21 {α : Type} (us ws : List α) : List α := match us, ws with
  | [], [u, v] => [v, u]
  | _, _ => []
theorem kb1 {f : Addr} {fd : FuncData} {q : Str} (F : Fun K x x st f fd) (h : ∀ (kV doc pm : Value) (an : Option Addr) (cdv ct u : Value), bindArgs (PySem.W.fnOf x x (defArgs st) (defBody st) (defScope st) .none kV doc pm an cdv ct) ⟨[], [(q, u)]⟩ = pure [(q, u)]) : KBinds K fd [q] [q] one1 one1 := by
  obtain ⟨oc, od, kV, doc, pm, an, cdv, ct, osl, rfl, lk, hcd⟩ := F.ex
  refine ⟨fun s us ws _ hl => ?_, fun r1 r2 => ?_⟩
  · match us, ws, hl with
    | [], [u], _ => exact .of_eq (h kV doc pm an cdv ct u)
  · cases r1 with
    | nil =>
      cases r2 with
      | nil => exact .nil
      | cons a r2 =>
        cases r2 with
        | nil => exact .cons a .nil
        | cons b r2 => exact .nil
    | cons a r1 => exact .nil
theorem kb2 {f : Addr} {fd : FuncData} {q r : Str} (F : Fun K x x st f fd) (h : ∀ (kV doc pm : Value) (an : Option Addr) (cdv ct u v : Value), bindArgs (PySem.W.fnOf x x (defArgs st) (defBody st) (defScope st) .none kV doc pm an cdv ct) ⟨[], [(q, u), (r, v)]⟩ = pure [(q, u), (r, v)]) : KBinds K fd [q, r] [q, r] two12 two12 := by
  obtain ⟨oc, od, kV, doc, pm, an, cdv, ct, osl, rfl, lk, hcd⟩ := F.ex
  refine ⟨fun s us ws _ hl => ?_, fun r1 r2 => ?_⟩
  · match us, ws, hl with
    | [], [u, v], _ => exact .of_eq (h kV doc pm an cdv ct u v)
  · cases r1 with
    | nil =>
      cases r2 with
      | nil => exact .nil
      | cons a r2 =>
        cases r2 with
        | nil => exact .nil
        | cons b r2 =>
          cases r2 with
          | nil => exact .cons a (.cons b .nil)
          | cons c r2 => exact .nil
    | cons a r1 => exact .nil
theorem kb2r {f : Addr} {fd : FuncData} {q r : Str} (F : Fun K x x st f fd) (h : ∀ (kV doc pm : Value) (an : Option Addr) (cdv ct u v : Value), bindArgs (PySem.W.fnOf x x (defArgs st) (defBody st) (defScope st) .none kV doc pm an cdv ct) ⟨[], [(r, u), (q, v)]⟩ = pure [(q, v), (r, u)]) : KBinds K fd [q, r] [r, q] two21 two21 := by
  obtain ⟨oc, od, kV, doc, pm, an, cdv, ct, osl, rfl, lk, hcd⟩ := F.ex
  refine ⟨fun s us ws _ hl => ?_, fun r1 r2 => ?_⟩
  · match us, ws, hl with
    | [], [u, v], _ => exact .of_eq (h kV doc pm an cdv ct u v)
  · cases r1 with
    | nil =>
      cases r2 with
      | nil => exact .nil
      | cons a r2 =>
        cases r2 with
        | nil => exact .nil
        | cons b r2 =>
          cases r2 with
          | nil => exact .cons b (.cons a .nil)
          | cons c r2 => exact .nil
    | cons a r1 => exact .nil
theorem pm1 : ∀ (F : Hp) (vs : List V) (ds : List Dt), RpA K F vs ds → ds.length = 1 → (one1 [] vs).length = 1 ∧ RpA K F (one1 [] vs) (one1 [] ds) := fun F vs ds h l => by
  cases h with
  | nil => cases l
  | cons h1 h2 =>
    cases h2 with
    | nil => exact ⟨rfl, .one h1⟩
    | cons h2 h3 => simp at l
theorem pm12 : ∀ (F : Hp) (vs : List V) (ds : List Dt), RpA K F vs ds → ds.length = 2 → (two12 [] vs).length = 2 ∧ RpA K F (two12 [] vs) (two12 [] ds) := fun F vs ds h l => by
  cases h with
  | nil => cases l
  | cons h1 h2 =>
    cases h2 with
    | nil => simp at l
    | cons h2 h3 =>
      cases h3 with
      | nil => exact ⟨rfl, .cons h1 (.one h2)⟩
      | cons h3 h4 => simp at l
theorem pm21 : ∀ (F : Hp) (vs : List V) (ds : List Dt), RpA K F vs ds → ds.length = 2 → (two21 [] vs).length = 2 ∧ RpA K F (two21 [] vs) (two21 [] ds) := fun F vs ds h l => by
  cases h with
  | nil => cases l
  | cons h1 h2 =>
    cases h2 with
    | nil => simp at l
    | cons h2 h3 =>
      cases h3 with
      | nil => exact ⟨rfl, .cons h2 (.one h1)⟩
      | cons h3 h4 => simp at l
theorem callK {kws : List Keyword} {ks : List Str} {gg : List Value → List Value → List Value} {gV : List V → List V → List V} {pm : List Dt → List Dt} (C : VC X k P w K mg base W) {g : List Dt → Res Dt} {m : SS → EO (List Dt)} (G : Go P w K mg base j x st ps (spF K mg n g)) (hj : j ≤ k)
    (hb : ∀ f fd, Fun K x x st f fd → KBinds K fd ps ks gg gV) (hpm : ∀ F vs ds, RpA K F vs ds → ds.length = ks.length → (gV [] vs).length = n ∧ RpA K F (gV [] vs) (pm ds)) (ha : VK' X K mg W kws m) (hlen : ∀ ss ds ss', m ss = .ok ds ss' → ds.length = ks.length) (hg : ∀ i, Gl (X i) x := by intro _; rfl)
    (hall : ∀ i, (backToKw pos (keywordEach kws (X i).env)).all (·.1.isSome) = true := by intro _; rfl) (hks : ∀ i, (backToKw pos (keywordEach kws (X i).env)).filterMap (·.1) = ks := by intro _; rfl) (hdb : (x == ("__debug__" : Str)) = false := by decide)
    (hpl : ∀ i, ((backTo pos (starEach [] (X i).env)).any (·.1) || (backToKw pos (keywordEach kws (X i).env)).any (·.1.isNone)) = false := by intro _; rfl) : VE X K mg W (.Call (.Name x p) [] kws pos) (mResK pm g m) :=
  let ⟨f, fd, F, hm, _, fn⟩ := G.ex
  v_callK C fn hj hg hm F.kp (hb f fd F) ha hall hks hpm hlen hdb hpl
theorem set1 (C : VC X k P w K mg base W) (i : Nat) {y : Str} {p' : Pos} {m : SS → EO NV} (h : VN X K mg W e m) (hi : ∀ j, (X j).N[i]? = some y := by intro _; rfl) (hx : ∀ j, Loc (X j).env.scope y := by intro _; first | exact .inl rfl | exact .inr rfl) (hs : ∀ j, swapsWith e (some (.Name y p')) pos.line (X j).env = pure false := by intro _; rfl)
    (hf : ∀ j, (X j).fn y = true ∨ (X j).env.scope.names.lookup y = some .local := by intro _; first | exact .inl rfl | exact .inr rfl) : VS X K mg W (.Assign [.Name y p'] e pos) (mSet i m) := s_set C i h hi hx hs hf
theorem par2 (C : VC X k P w K mg base W) (i j : Nat) {y z : Str} {px py pt : Pos} {kt k2 : Nat} {pt2 : Pos} {m n : SS → EO NV} (h : VN X K mg W a m) (g : VN X K mg W b n) (hij : i ≠ j := by decide) (hi : ∀ l, (X l).N[i]? = some y := by intro _; rfl) (hj : ∀ l, (X l).N[j]? = some z := by intro _; rfl)
    (hx : ∀ l, (X l).env.scope.names.lookup y = some .local := by intro _; rfl) (hy : ∀ l, (X l).env.scope.names.lookup z = some .local := by intro _; rfl) (hw : ∀ l, swappedStores [.Tuple [.Name y px, .Name z py] kt pt] (.Tuple [a, b] k2 pt2) (X l).env = pure (some [y, z]) := by intro _; rfl)
    (hs : ∀ l, swapsWithSole [.Tuple [.Name y px, .Name z py] kt pt] (.Tuple [a, b] k2 pt2) pos.line (X l).env = pure false := by intro _; rfl) (st1 : ∀ l, starEach [a, b] (X l).env = (false, eval a (X l).env) :: starEach [b] (X l).env := by intro _; rfl) (st2 : ∀ l, starEach [b] (X l).env = (false, eval b (X l).env) :: starEach [] (X l).env := by intro _; rfl) :
    VS X K mg W (.Assign [.Tuple [.Name y px, .Name z py] kt pt] (.Tuple [a, b] k2 pt2) pos) (mPar i j m n) := s_par C i j h g hi hj hij hx hy hw hs st1 st2
theorem app1 (C : VC X k P w K mg base W) (i : Nat) {y : Str} {p1 p2 p3 : Pos} {m : SS → EO Dt} (h : VE X K mg W e m) (hN : ∀ j, (X j).N[i]? = some y := by intro _; rfl) (hv : ∀ j, Vis (X j).env.scope y := by intro _; first | exact .inl rfl | exact .inr (.inl rfl) | exact .inr (.inr rfl)) (hd : (y == ("__debug__" : Str)) = false := by decide) (hcd : (y == ("__classdict__" : Str)) = false := by decide)
    (hb : ∀ j, attributeBase (.Name y p1) "append" (X j).env (eval (.Name y p1) (X j).env) = eval (.Name y p1) (X j).env := by intro _; rfl)
    (hf : ∀ j, ((backTo p3 (starEach (e :: []) (X j).env)).all (fun x => !x.1) && (backToKw p3 (keywordEach [] (X j).env)).all (fun x => x.1.isSome) && decide ((e :: []).length + ([] : List Keyword).length + (if ([] : List Keyword).isEmpty then 0 else 1) < 30)) = true := by intro _; rfl)
    (hl : (p2.endLine == p3.line) = true := by rfl) (hst : ∀ j, starEach (e :: []) (X j).env = (false, eval e (X j).env) :: starEach [] (X j).env := by intro _; rfl) (hpl : ∀ j, (backTo p3 (starEach [] (X j).env)).any (·.1) = false := by intro _; rfl)
    (hsw : ∀ j, swapsWith (.Call (.Attribute (.Name y p1) "append" p2) [e] [] p3) none pos.line (X j).env = pure false := by intro _; rfl) :
    VS X K mg W (.Expr (.Call (.Attribute (.Name y p1) "append" p2) [e] [] p3) pos) (mAppend i m) := s_append i h C.eK hN hv hd hcd hb hf hl hst hpl hsw
end
end VL

namespace VL
open PySem PySem.Spec L2
open PyProof.Rows hiding St
/-- a comprehension that only reads -/
theorem lcGo_pure {vs : List Nat} {g : Dt → SS → Option SS} {mt : SS → EO Bool} {me : SS → EO Dt} {s0 : SS} (s1 : Dt → SS) (p : Dt → Bool) (f : Dt → Dt) : ∀ (items : List Dt) (acc : List Dt), (∀ d ∈ items, g d s0 = some (s1 d)) → (∀ d ∈ items, mt (s1 d) = .ok (p d) (s1 d)) → (∀ d ∈ items, p d = true → me (s1 d) = .ok (f d) (s1 d)) →
    (∀ d ∈ items, wipeS (s1 d) vs = s0) → acc.length + items.length ≤ sizeLine → lcGo vs g mt me items s0 acc = .ok (acc ++ (items.filter p).map f) s0
  | [], acc, _, _, _, _, _ => by simp [lcGo]
  | d :: items, acc, hg, ht, he, hw, hl => by
    have m := List.mem_cons_self (a := d) (l := items)
    have r : ∀ e ∈ items, e ∈ d :: items := fun e h => List.mem_cons_of_mem _ h
    rw [List.length_cons] at hl
    rw [lcGo, hg d m]
    simp only [ht d m, EO.calm, EO.bind]
    cases hp : p d with
    | true =>
      rw [if_pos rfl]
      have hlt : acc.length < sizeLine := by omega
      simp only [he d m hp, EO.calm, EO.bind, if_pos hlt, hw d m]
      rw [lcGo_pure s1 p f items (acc ++ [f d]) (fun e h => hg e (r e h)) (fun e h => ht e (r e h)) (fun e h => he e (r e h)) (fun e h => hw e (r e h)) (by rw [List.length_append, List.length_singleton]; omega), List.filter_cons, hp]
      simp
    | false =>
      rw [if_neg Bool.false_ne_true, hw d m, lcGo_pure s1 p f items acc (fun e h => hg e (r e h)) (fun e h => ht e (r e h)) (fun e h => he e (r e h)) (fun e h => hw e (r e h)) (by omega), List.filter_cons, hp]
      simp
theorem boolsD_map {α : Type} (f : α → Bool) : ∀ l : List α, boolsD (l.map fun x => .bool (f x)) = some (l.map f)
  | [] => rfl
  | x :: l => by
    show (boolsD (l.map fun x => .bool (f x))).map (f x :: ·) = _
    rw [boolsD_map f l]
    rfl
theorem textsD_map {α : Type} (f : α → Str) : ∀ l : List α, textsD (l.map fun x => .str (f x)) = some (l.map f)
  | [] => rfl
  | x :: l => by
    show (textsD (l.map fun x => .str (f x))).map (f x :: ·) = _
    rw [textsD_map f l]
    rfl
theorem isi_of {T : String} {d : Dt} {b : Bool} (h : fIsi T d = some b) : fIsi T d = some b := h
def isTy (T : String) (d : Dt) : Bool := (fIsi T d).getD false
def is_str : Dt → Bool
  | .str _ => true
  | _ => false
theorem isi_str : ∀ d : Dt, fIsi "str" d = some (is_str d)
  | .none => (by decide +kernel : kitB "NoneType" "str" = some false)
  | .bool _ => (by decide +kernel : kitB "bool" "str" = some false)
  | .int _ => (by decide +kernel : kitB "int" "str" = some false)
  | .str _ => (by decide +kernel : kitB "str" "str" = some true)
  | .list _ => (by decide +kernel : kitB "list" "str" = some false)
  | .tuple _ => (by decide +kernel : kitB "tuple" "str" = some false)
  | .dict _ => (by decide +kernel : kitB "dict" "str" = some false)
def is_tuple : Dt → Bool
  | .tuple _ => true
  | _ => false
theorem isi_tuple : ∀ d : Dt, fIsi "tuple" d = some (is_tuple d)
  | .none => (by decide +kernel : kitB "NoneType" "tuple" = some false)
  | .bool _ => (by decide +kernel : kitB "bool" "tuple" = some false)
  | .int _ => (by decide +kernel : kitB "int" "tuple" = some false)
  | .str _ => (by decide +kernel : kitB "str" "tuple" = some false)
  | .list _ => (by decide +kernel : kitB "list" "tuple" = some false)
  | .tuple _ => (by decide +kernel : kitB "tuple" "tuple" = some true)
  | .dict _ => (by decide +kernel : kitB "dict" "tuple" = some false)
def is_int : Dt → Bool
  | .int _ => true
  | .bool _ => true
  | _ => false
theorem isi_int : ∀ d : Dt, fIsi "int" d = some (is_int d)
  | .none => (by decide +kernel : kitB "NoneType" "int" = some false)
  | .bool _ => (by decide +kernel : kitB "bool" "int" = some true)
  | .int _ => (by decide +kernel : kitB "int" "int" = some true)
  | .str _ => (by decide +kernel : kitB "str" "int" = some false)
  | .list _ => (by decide +kernel : kitB "list" "int" = some false)
  | .tuple _ => (by decide +kernel : kitB "tuple" "int" = some false)
  | .dict _ => (by decide +kernel : kitB "dict" "int" = some false)
def is_bool : Dt → Bool
  | .bool _ => true
  | _ => false
theorem isi_bool : ∀ d : Dt, fIsi "bool" d = some (is_bool d)
  | .none => (by decide +kernel : kitB "NoneType" "bool" = some false)
  | .bool _ => (by decide +kernel : kitB "bool" "bool" = some true)
  | .int _ => (by decide +kernel : kitB "int" "bool" = some false)
  | .str _ => (by decide +kernel : kitB "str" "bool" = some false)
  | .list _ => (by decide +kernel : kitB "list" "bool" = some false)
  | .tuple _ => (by decide +kernel : kitB "tuple" "bool" = some false)
  | .dict _ => (by decide +kernel : kitB "dict" "bool" = some false)
def is_list : Dt → Bool
  | .list _ => true
  | _ => false
theorem isi_list : ∀ d : Dt, fIsi "list" d = some (is_list d)
  | .none => (by decide +kernel : kitB "NoneType" "list" = some false)
  | .bool _ => (by decide +kernel : kitB "bool" "list" = some false)
  | .int _ => (by decide +kernel : kitB "int" "list" = some false)
  | .str _ => (by decide +kernel : kitB "str" "list" = some false)
  | .list _ => (by decide +kernel : kitB "list" "list" = some true)
  | .tuple _ => (by decide +kernel : kitB "tuple" "list" = some false)
  | .dict _ => (by decide +kernel : kitB "dict" "list" = some false)
def is_dict : Dt → Bool
  | .dict _ => true
  | _ => false
theorem isi_dict : ∀ d : Dt, fIsi "dict" d = some (is_dict d)
  | .none => (by decide +kernel : kitB "NoneType" "dict" = some false)
  | .bool _ => (by decide +kernel : kitB "bool" "dict" = some false)
  | .int _ => (by decide +kernel : kitB "int" "dict" = some false)
  | .str _ => (by decide +kernel : kitB "str" "dict" = some false)
  | .list _ => (by decide +kernel : kitB "list" "dict" = some false)
  | .tuple _ => (by decide +kernel : kitB "tuple" "dict" = some false)
  | .dict _ => (by decide +kernel : kitB "dict" "dict" = some true)
theorem strOk_sign {c : Nat} (h : c < 1114112) : PyData.strOk ⟨#[c]⟩ = true := by
  unfold PyData.strOk
  simp [h]
theorem shaped_str {z : Str} (h : PyData.strOk z = true) : SeqAt.shaped (.str z) = true := by
  unfold SeqAt.shaped
  simp [PyData.canLay0, PyData.depth, h]
theorem shaped_int (i : Int) : SeqAt.shaped (.int i) = true := by
  unfold SeqAt.shaped
  simp [PyData.canLay0, PyData.depth]

theorem beq_dec {α : Type} [DecidableEq α] [BEq α] [LawfulBEq α] (i j : α) : (i == j) = decide (i = j) := by
  rw [Bool.eq_iff_iff]
  simp
theorem fEq_int (i j : Int) : fEq (.int i) (.int j) = some (decide (i = j)) := by
  unfold fEq
  rw [if_pos ⟨shaped_int i, shaped_int j⟩]
  simp only [PyData.eqv, beq_dec]
theorem fNe_int (i j : Int) : fNe (.int i) (.int j) = some (!decide (i = j)) := by
  unfold fNe
  rw [if_pos ⟨shaped_int i, shaped_int j⟩]
  simp only [PyData.eqv, beq_dec]
theorem fEq_str {x y : Str} (hx : PyData.strOk x = true) (hy : PyData.strOk y = true) : fEq (.str x) (.str y) = some (decide (x = y)) := by
  unfold fEq
  rw [if_pos ⟨shaped_str hx, shaped_str hy⟩]
  simp only [PyData.eqv, beq_dec]
theorem fNe_str {x y : Str} (hx : PyData.strOk x = true) (hy : PyData.strOk y = true) : fNe (.str x) (.str y) = some (!decide (x = y)) := by
  unfold fNe
  rw [if_pos ⟨shaped_str hx, shaped_str hy⟩]
  simp only [PyData.eqv, beq_dec]
theorem fIn_sign (c : Nat) (z : Str) : fIn (.str ⟨#[c]⟩) (.str z) = some (decide (c ∈ z.cps.toList)) := rfl
theorem fNotIn_sign (c : Nat) (z : Str) : fNotIn (.str ⟨#[c]⟩) (.str z) = some (!decide (c ∈ z.cps.toList)) := rfl
end VL

namespace VL
open PySem PySem.Spec L2
open PyProof.Rows hiding St
def rNil (K : PySem.W.Frag) (neg : Bool) : R2 := fun x y H Q => ∃ a b xs, x = .ref a ∧ y = .ref b ∧ ((SqL K H a xs ∧ SqL K H b []) ∨ (SqT K H a xs ∧ SqT K H b [])) ∧ Q (.bl (if neg then !xs.isEmpty else xs.isEmpty)) H
theorem vals_nil {us : List Value} (h : Vals [] us) : us = [] := by cases h; rfl
theorem op_eqNil {X : Cx} (hu : X.A.units < cLine) : OpR X (compareOp .Eq) (rNil X.K false) := by
  intro pins s σ H x y v u Q I rx ry h
  obtain ⟨a, b, xs, rfl, rfl, h, q⟩ := h
  cases rx
  cases ry
  rcases h with ⟨h1, h2⟩ | ⟨h1, h2⟩
  · obtain ⟨us, r1, p1, _⟩ := I.list h1
    obtain ⟨ws, r2, p2, _⟩ := I.list h2
    have e := vals_nil r2
    subst e
    cases r1 with
    | nil => exact SeqAt.eq_listAt (e := fun _ => true) p1.isList p2.isList rfl hu (fun j h1 _ => absurd h1 (Nat.not_lt_zero j)) ⟨.bl true, H, I, rfl, q⟩
    | cons r r1 => exact SeqAt.eq_list_lengthsAt p1.isList p2.isList (by simp) hu ⟨.bl false, H, I, rfl, q⟩
  · obtain ⟨us, r1, p1, _⟩ := I.tuple h1
    obtain ⟨ws, r2, p2, _⟩ := I.tuple h2
    have e := vals_nil r2
    subst e
    refine SeqAt.eq_tupleAt (e := fun _ => true) p1 p2 hu (fun j _ h2 => absurd h2 (Nat.not_lt_zero j)) ?_
    cases r1 with
    | nil => exact ⟨.bl true, H, I, rfl, q⟩
    | cons r r1 => exact ⟨.bl false, H, I, rfl, q⟩
theorem op_neNil {X : Cx} (hu : X.A.units < cLine) : OpR X (compareOp .NotEq) (rNil X.K true) := by
  intro pins s σ H x y v u Q I rx ry h
  obtain ⟨a, b, xs, rfl, rfl, h, q⟩ := h
  cases rx
  cases ry
  rcases h with ⟨h1, h2⟩ | ⟨h1, h2⟩
  · obtain ⟨us, r1, p1, _⟩ := I.list h1
    obtain ⟨ws, r2, p2, _⟩ := I.list h2
    have e := vals_nil r2
    subst e
    cases r1 with
    | nil => exact SeqAt.RcNeAt.lists (e := fun _ => true) p1.isList p2.isList rfl hu (fun j h1 _ => absurd h1 (Nat.not_lt_zero j)) _ _ _ _ ⟨.bl false, H, I, rfl, q⟩
    | cons r r1 => exact SeqAt.RcNeAt.lists_lengths p1.isList p2.isList (by simp) hu _ _ _ _ ⟨.bl true, H, I, rfl, q⟩
  · obtain ⟨us, r1, p1, _⟩ := I.tuple h1
    obtain ⟨ws, r2, p2, _⟩ := I.tuple h2
    have e := vals_nil r2
    subst e
    refine SeqAt.RcNeAt.tuples (e := fun _ => true) p1 p2 hu (fun j _ h2 => absurd h2 (Nat.not_lt_zero j)) _ _ _ _ ?_
    cases r1 with
    | nil => exact ⟨.bl false, H, I, rfl, q⟩
    | cons r r1 => exact ⟨.bl true, H, I, rfl, q⟩
section
variable {ι : Type} {X : ι → Cx} {k : Nat} {P : Program} {w : World} {K : PySem.W.Frag} {mg : Str → Option Value} {base : Heap} {W : WX}
def fNil (neg : Bool) : Dt → Dt → Option Bool := fun d e => match d, e with
  | .list ds, .list [] => some (if neg then !ds.isEmpty else ds.isEmpty)
  | .tuple ds, .tuple [] => some (if neg then !ds.isEmpty else ds.isEmpty)
  | _, _ => none
theorem nil_go {neg : Bool} {ω : Om} {H : Hp} {x y : V} {d e : Dt} {z : Bool} {Q : VK} (bx : Bor K ω H x d) (by' : Bor K ω H y e) (hf : fNil neg d e = some z) (q : Q (.bl z) H) : rNil K neg x y H Q := by
  unfold fNil at hf
  split at hf
  · cases hf
    obtain ⟨a, xs, rfl, h1, h2⟩ := bor_lst bx
    obtain ⟨b, ys, rfl, g1, g2⟩ := bor_lst by'
    cases g2
    refine ⟨a, b, xs, rfl, rfl, .inl ⟨.of h1, .of g1⟩, ?_⟩
    cases h2 <;> exact q
  · cases hf
    obtain ⟨a, xs, rfl, h1, h2⟩ := bor_tup bx
    obtain ⟨b, ys, rfl, g1, g2⟩ := bor_tup by'
    cases g2
    refine ⟨a, b, xs, rfl, rfl, .inr ⟨sqT_mono hid_le h1, sqT_mono hid_le g1⟩, ?_⟩
    cases h2 <;> exact q
  · cases hf
/-- two texts, whatever their signs are -/
def fSc (neg : Bool) : Dt → Dt → Option Bool := fun d e => match d, e with
  | .str x, .str y => some (if neg then !decide (x = y) else decide (x = y))
  | _, _ => none
theorem dec_strV (x y : Str) : decide (V.str x = V.str y) = decide (x = y) := by
  rw [decide_eq_decide]
  exact ⟨fun h => by injection h, fun h => by rw [h]⟩
theorem c_eqSc : CmpS X K .Eq (fSc false) := by
  refine ⟨_, fun _ => op_eq, fun ω H x y d e z Q bx by' hf q => ?_⟩
  unfold fSc at hf
  split at hf
  · cases hf
    have h1 := bx.rp
    have h2 := by'.rp
    cases h1
    cases h2
    exact ⟨rfl, by rw [dec_strV]; exact q⟩
  · cases hf
theorem c_neSc : CmpS X K .NotEq (fSc true) := by
  refine ⟨_, fun _ => op_ne, fun ω H x y d e z Q bx by' hf q => ?_⟩
  unfold fSc at hf
  split at hf
  · cases hf
    have h1 := bx.rp
    have h2 := by'.rp
    cases h1
    cases h2
    exact ⟨rfl, by rw [dec_strV]; exact q⟩
  · cases hf
def fEqA : Dt → Dt → Option Bool := alt (fNil false) (alt (fSc false) fEq)
def fNeA : Dt → Dt → Option Bool := alt (fNil true) (alt (fSc true) fNe)
theorem c_eqA (C : VC X k P w K mg base W) : CmpS X K .Eq fEqA :=
  CmpS.or ⟨rNil K false, fun i => by rw [← C.eK i]; exact op_eqNil (C.rm i).units0, fun ω H x y d e z Q bx by' hf q => nil_go bx by' hf q⟩ (c_eqSc.or (c_eq C))
theorem c_neA (C : VC X k P w K mg base W) : CmpS X K .NotEq fNeA :=
  CmpS.or ⟨rNil K true, fun i => by rw [← C.eK i]; exact op_neNil (C.rm i).units0, fun ω H x y d e z Q bx by' hf q => nil_go bx by' hf q⟩ (c_neSc.or (c_ne C))
theorem eqA_int (i j : Int) : fEqA (.int i) (.int j) = some (decide (i = j)) := fEq_int i j
theorem neA_int (i j : Int) : fNeA (.int i) (.int j) = some (!decide (i = j)) := fNe_int i j
theorem eqA_str {x y : Str} (hx : PyData.strOk x = true) (hy : PyData.strOk y = true) : fEqA (.str x) (.str y) = some (decide (x = y)) := rfl
theorem neA_str {x y : Str} (hx : PyData.strOk x = true) (hy : PyData.strOk y = true) : fNeA (.str x) (.str y) = some (!decide (x = y)) := rfl
theorem eqA_txt (x y : Str) : fEqA (.str x) (.str y) = some (decide (x = y)) := rfl
theorem eqA_nil (ds : List Dt) : fEqA (.list ds) (.list []) = some ds.isEmpty := rfl
theorem neA_nil (ds : List Dt) : fNeA (.list ds) (.list []) = some (!ds.isEmpty) := rfl
theorem eqA_nilT (ds : List Dt) : fEqA (.tuple ds) (.tuple []) = some ds.isEmpty := rfl
end
end VL

namespace VL
open PySem PySem.Spec L2
open PyProof.Rows hiding St
def reV (a : Addr) : SV → SV
  | .dk _ q b c => .dk a q b c
  | .v d => .v d
  | .o d => .o d
def reS (a : Addr) (ss : SS) : SS := ss.map (Option.map (reV a))
def EO.re {α : Type} (a : Addr) : EO α → EO α
  | .ok d ss => .ok d (reS a ss)
  | .exc c fs ss => .exc c fs (reS a ss)
  | .no => .no
def SO.re (a : Addr) : SO → SO
  | .nx ss => .nx (reS a ss)
  | .rt d ss => .rt d (reS a ss)
  | .bk ss => .bk (reS a ss)
  | .ct ss => .ct (reS a ss)
  | .exc c fs ss => .exc c fs (reS a ss)
  | .no => .no
def Nt {α : Type} (m : SS → EO α) : Prop := ∀ a ss, m (reS a ss) = (m ss).re a
def NtS (m : SS → SO) : Prop := ∀ a ss, m (reS a ss) = (m ss).re a
def NtG {β : Type} (g : β → SS → Option SS) : Prop := ∀ a d ss, g d (reS a ss) = (g d ss).map (reS a)
section
variable {α β γ : Type} {a : Addr} {ss : SS}
theorem reS_get (i : Nat) : (reS a ss)[i]? = (ss[i]?).map (Option.map (reV a)) := by unfold reS; rw [List.getElem?_map]
theorem reS_len : (reS a ss).length = ss.length := by unfold reS; rw [List.length_map]
theorem reS_set {i : Nat} {s : Option SV} : reS a (ss.set i s) = (reS a ss).set i (s.map (reV a)) := by unfold reS; rw [List.map_set]
theorem get_re (o : Opd) : o.get (reS a ss) = o.get ss := by
  cases o with
  | da d => rfl
  | nm i =>
    simp only [Opd.get, reS_get]
    rcases h : ss[i]? with _ | _ | s
    · rfl
    · rfl
    · cases s <;> rfl
theorem ops_re : ∀ os : List Opd, opsGet (reS a ss) os = opsGet ss os
  | [] => rfl
  | o :: os => by simp only [opsGet, get_re, ops_re os]
theorem two_re {f : Dt → Dt → Option α} {o p : Opd} : two f o p (reS a ss) = two f o p ss := by simp only [two, get_re]
theorem nt_bind {m : SS → EO α} {f : α → SS → EO β} (h : Nt m) (g : ∀ d, Nt (f d)) : Nt fun ss => (m ss).bind f := fun a ss => by
  show (m (reS a ss)).bind f = EO.re a ((m ss).bind f)
  rw [h a ss]
  cases m ss with
  | ok d s' => exact g d a s'
  | exc c fs s' => rfl
  | no => rfl
theorem nt_st {m : SS → EO α} {f : α → SS → SO} (h : Nt m) (g : ∀ d, NtS (f d)) : NtS fun ss => (m ss).st f := fun a ss => by
  show (m (reS a ss)).st f = SO.re a ((m ss).st f)
  rw [h a ss]
  cases m ss with
  | ok d s' => exact g d a s'
  | exc c fs s' => rfl
  | no => rfl
theorem nt_ok (d : α) : Nt fun ss => .ok d ss := fun _ _ => rfl
theorem nt_no : Nt fun _ => (.no : EO α) := fun _ _ => rfl
theorem nt_lift (x : Option α) : Nt fun ss => .lift x ss := fun a ss => by cases x <;> rfl
theorem nt_liftg {f : SS → Option α} (h : ∀ a ss, f (reS a ss) = f ss) : Nt fun ss => .lift (f ss) ss := fun a ss => by
  show EO.lift (f (reS a ss)) (reS a ss) = EO.re a (EO.lift (f ss) ss)
  rw [h a ss]
  cases f ss <;> rfl
theorem nt_fit {n : Nat} {m : SS → EO α} (h : Nt m) : Nt fun ss => fit n (m ss) := fun a ss => by
  unfold fit
  split
  · exact h a ss
  · rfl
theorem nt_calm {m : SS → EO α} (h : Nt m) : Nt fun ss => (m ss).calm := fun a ss => by
  show (m (reS a ss)).calm = EO.re a (m ss).calm
  rw [h a ss]
  cases m ss <;> rfl
theorem nts_nx : NtS SO.nx := fun _ _ => rfl
theorem nts_bk : NtS SO.bk := fun _ _ => rfl
theorem nts_ct : NtS SO.ct := fun _ _ => rfl
theorem nts_no : NtS fun _ => .no := fun _ _ => rfl
theorem nts_rt (d : Dt) : NtS fun ss => .rt d ss := fun _ _ => rfl
theorem nt_C (d : Dt) : Nt (mC d) := fun _ _ => rfl
theorem nt_Var (i : Nat) : Nt (mVar i) := fun a ss => by
  unfold mVar
  rw [reS_get]
  rcases h : ss[i]? with _ | _ | s
  · rfl
  · rfl
  · cases s with
    | o d =>
      show EO.ok d ((reS a ss).set i (some (.v d))) = .ok d (reS a (ss.set i (some (.v d))))
      rw [reS_set]
      rfl
    | _ => rfl
theorem nt_Bor (i : Nat) : Nt (mBor i) := fun a ss => by
  unfold mBor
  rw [reS_get]
  rcases h : ss[i]? with _ | _ | s
  · rfl
  · rfl
  · cases s <;> rfl
theorem nt_B {m : SS → EO Dt} (h : Nt m) : Nt (mB m) := nt_bind h fun d => nt_ok _
theorem nt_Nil : Nt mNil := fun _ _ => rfl
theorem nt_Cons {m : SS → EO Dt} {n : SS → EO (List Dt)} (h : Nt m) (g : Nt n) : Nt (mCons m n) := nt_bind h fun d => nt_bind g fun e => nt_ok _
theorem nt_NilB : Nt mNilB := fun _ _ => rfl
theorem nt_ConsB {m : SS → EO Opd} {n : SS → EO (List Opd)} (h : Nt m) (g : Nt n) : Nt (mConsB m n) := nt_bind h fun d => nt_bind g fun e => nt_ok _
theorem nt_Tup {n : SS → EO (List Dt)} (g : Nt n) : Nt (mTup n) := nt_bind g fun e => nt_fit (nt_ok _)
theorem nt_Lst {n : SS → EO (List Dt)} (g : Nt n) : Nt (mLst n) := nt_bind g fun e => nt_fit (nt_ok _)
theorem nt_Cmp {f : Dt → Dt → Option Bool} {m n : SS → EO Opd} (h : Nt m) (g : Nt n) : Nt (mCmp f m n) := nt_bind h fun o => nt_bind g fun p => nt_liftg fun _ _ => two_re
theorem nt_Bl {m : SS → EO Bool} (h : Nt m) : Nt (mBl m) := nt_bind h fun d => nt_ok _
theorem nt_if {c : Prop} [Decidable c] {m n : SS → EO α} (h : Nt m) (g : Nt n) : Nt fun ss => if c then m ss else n ss := fun a ss => by
  split
  · exact h a ss
  · exact g a ss
theorem nts_if {c : Prop} [Decidable c] {m n : SS → SO} (h : NtS m) (g : NtS n) : NtS fun ss => if c then m ss else n ss := fun a ss => by
  split
  · exact h a ss
  · exact g a ss
theorem nt_Chain {f g : Dt → Dt → Option Bool} {m n l : SS → EO Opd} (h1 : Nt m) (h2 : Nt n) (h3 : Nt l) : Nt (mChain f g m n l) :=
  nt_bind h1 fun o => nt_bind h2 fun p => nt_bind (nt_liftg fun _ _ => two_re) fun z => nt_if (nt_bind h3 fun q => nt_liftg fun _ _ => two_re) (nt_ok _)
theorem nt_toB {m : SS → EO Dt} (h : Nt m) : Nt (toB m) := nt_bind h fun d => by cases d <;> first | exact nt_ok _ | exact nt_no
theorem nt_Not {m : SS → EO Bool} (h : Nt m) : Nt (mNot m) := nt_bind h fun d => nt_ok _
theorem nt_And {m n : SS → EO Bool} (h : Nt m) (g : Nt n) : Nt (mAnd m n) := nt_bind h fun d => nt_if g (nt_ok _)
theorem nt_Or {m n : SS → EO Bool} (h : Nt m) (g : Nt n) : Nt (mOr m n) := nt_bind h fun d => nt_if (nt_ok _) g
theorem nt_vAnd {m n : SS → EO Dt} (h : Nt m) (g : Nt n) : Nt (vAnd m n) := nt_bind h fun d => by
  cases d with
  | bool z => cases z; exact nt_ok _; exact g
  | _ => exact nt_no
theorem nt_vOr {m n : SS → EO Dt} (h : Nt m) (g : Nt n) : Nt (vOr m n) := nt_bind h fun d => by
  cases d with
  | bool z => cases z; exact g; exact nt_ok _
  | _ => exact nt_no
theorem nt_vNot {m : SS → EO Dt} (h : Nt m) : Nt (vNot m) := nt_bind h fun d => by cases d <;> first | exact nt_ok _ | exact nt_no
theorem nt_If {c : SS → EO Bool} {m n : SS → EO α} (h : Nt c) (g : Nt m) (k : Nt n) : Nt (mIf c m n) := nt_bind h fun d => nt_if g k
theorem nt_Bin {f : Dt → Dt → Option Dt} {m n : SS → EO Opd} (h : Nt m) (g : Nt n) : Nt (mBin f m n) := nt_bind h fun o => nt_bind g fun p => nt_liftg fun _ _ => two_re
theorem nt_Neg {m : SS → EO Dt} (h : Nt m) : Nt (mNeg m) := nt_bind h fun d => by cases d <;> first | exact nt_ok _ | exact nt_no
theorem nt_Res {g : List Dt → Res Dt} {m : SS → EO (List Dt)} (h : Nt m) : Nt (mRes g m) := nt_bind h fun ds => by
  intro a ss
  cases g ds <;> rfl
theorem nt_ResK {pm : List Dt → List Dt} {g : List Dt → Res Dt} {m : SS → EO (List Dt)} (h : Nt m) : Nt (mResK pm g m) := nt_Res h
theorem nt_Bu {f : List Dt → Option Dt} {m : SS → EO (List Opd)} (h : Nt m) : Nt (mBu f m) := nt_bind h fun os => nt_liftg fun a ss => by rw [ops_re]
theorem nt_Ou {f : List Dt → Option (List Dt)} {m : SS → EO (List Opd)} (h : Nt m) : Nt (mOu f m) := nt_bind h fun os => nt_liftg fun a ss => by rw [ops_re]
theorem nt_Isi {T : String} {m : SS → EO Opd} (h : Nt m) : Nt (mIsi T m) := nt_bind h fun o => nt_liftg fun a ss => by rw [get_re]
theorem nt_Part0 : Nt mPart0 := fun _ _ => rfl
theorem nt_Part {m : SS → EO Dt} (h : Nt m) : Nt (mPart m) := nt_bind h fun d => by cases d <;> first | exact nt_ok _ | exact nt_no
theorem nt_Sl {m : SS → EO Opd} {l k : SS → EO (Option Int)} (h : Nt m) (g : Nt l) (f : Nt k) : Nt (mSl m l k) := nt_bind h fun o => nt_bind g fun lo => nt_bind f fun hi => nt_liftg fun a ss => by rw [get_re]
theorem nt_SlL {m : SS → EO Opd} {l k : SS → EO (Option Int)} (h : Nt m) (g : Nt l) (f : Nt k) : Nt (mSlL m l k) := nt_bind h fun o => nt_bind g fun lo => nt_bind f fun hi => nt_liftg fun a ss => by rw [get_re]
theorem nt_Rev {m : SS → EO Opd} (h : Nt m) : Nt (mRev m) := nt_bind h fun o => nt_liftg fun a ss => by rw [get_re]
theorem nt_Dict0 : Nt mDict0 := fun _ _ => rfl
theorem nt_M1 {f : List Dt → Option Dt} {m n : SS → EO Opd} (h : Nt m) (g : Nt n) : Nt (mM1 f m n) := nt_bind h fun o => by
  cases o with
  | nm i => exact nt_no
  | da d =>
    cases d with
    | str z => exact nt_bind g fun p => nt_liftg fun a ss => by rw [get_re]
    | _ => exact nt_no
theorem nt_M0 {f : List Dt → Option Dt} {m : SS → EO Opd} (h : Nt m) : Nt (mM0 f m) := nt_bind h fun o => by
  cases o with
  | nm i => exact nt_no
  | da d =>
    cases d with
    | str z => exact nt_lift _
    | _ => exact nt_no
theorem nt_Mn {f : List Dt → Option Dt} {m : SS → EO Opd} {n : SS → EO (List Opd)} (h : Nt m) (g : Nt n) : Nt (mMn f m n) := nt_bind h fun o => by
  cases o with
  | nm i => exact nt_no
  | da d =>
    cases d with
    | str z => exact nt_bind g fun p => nt_liftg fun a ss => by rw [ops_re]
    | _ => exact nt_no
theorem nt_Draw {i : Nat} {g : Dk → List Dt → Res (Dt × Dk)} {m : SS → EO (List Dt)} (h : Nt m) : Nt (mDraw i g m) := fun a ss => by
  unfold mDraw
  rw [reS_get]
  rcases hi : ss[i]? with _ | _ | s
  · rfl
  · rfl
  · cases s with
    | v d => rfl
    | o d => rfl
    | dk a0 q b c =>
      refine nt_bind (m := m) (f := fun ds ss1 => match ss1[i]? with
        | some (some (.dk a q b c)) => match g (q, b, c) ds with
          | .ok (d, (q', b', c')) => .ok d (ss1.set i (some (.dk a q' b' c')))
          | _ => .no
        | _ => .no) h (fun ds => ?_) a ss
      intro a1 s1
      dsimp only
      rw [reS_get]
      rcases hj : s1[i]? with _ | _ | s
      · rfl
      · rfl
      · cases s with
        | v d => rfl
        | o d => rfl
        | dk a0 q b c =>
          show (match g (q, b, c) ds with
            | .ok (d, (q', b', c')) => EO.ok d ((reS a1 s1).set i (some (.dk a1 q' b' c')))
            | _ => .no) = EO.re a1 (match g (q, b, c) ds with
            | .ok (d, (q', b', c')) => EO.ok d (s1.set i (some (.dk a0 q' b' c')))
            | _ => .no)
          cases g (q, b, c) ds with
          | ok r =>
            obtain ⟨d, q', b', c'⟩ := r
            show EO.ok d ((reS a1 s1).set i (some (.dk a1 q' b' c'))) = .ok d (reS a1 (s1.set i (some (.dk a0 q' b' c'))))
            rw [reS_set]
            rfl
          | exc c fs => rfl
          | no => rfl
theorem ng_Nm (i : Nat) : NtG (gNm i) := fun a d ss => by
  unfold gNm
  rw [reS_len]
  split
  · show some ((reS a ss).set i (some (.v d))) = some (reS a (ss.set i (some (.v d))))
    rw [reS_set]
    rfl
  · rfl
theorem ng_Nil : NtG gNilV := fun a d ss => by cases d <;> rfl
theorem ng_Cons {g : Dt → SS → Option SS} {h : List Dt → SS → Option SS} (h1 : NtG g) (h2 : NtG h) : NtG (gConsV g h) := fun a ds ss => by
  cases ds with
  | nil => rfl
  | cons d ds =>
    simp only [gConsV, h1 a d ss]
    cases g d ss with
    | none => rfl
    | some s1 => exact h2 a ds s1
theorem ng_Tup {n : Nat} {h : List Dt → SS → Option SS} (h2 : NtG h) : NtG (gTupV n h) := fun a d ss => by
  cases d with
  | tuple ds =>
    simp only [gTupV]
    split
    · exact h2 a ds ss
    · rfl
  | _ => rfl
theorem nt_Items {m : SS → EO Dt} (h : Nt m) : Nt (mItems m) := nt_bind h fun d => nt_lift _
theorem nt_Rng1 {m : SS → EO (List Dt)} (h : Nt m) : Nt (mRng1 m) := nt_bind h fun ds => by
  intro a ss
  dsimp only
  split
  · split <;> rfl
  · rfl
theorem nt_Rng2 {m : SS → EO (List Dt)} (h : Nt m) : Nt (mRng2 m) := nt_bind h fun ds => by
  intro a ss
  dsimp only
  split
  · split <;> rfl
  · rfl
theorem nt_Enum {m : SS → EO (List Dt)} (h : Nt m) : Nt (mEnum m) := nt_bind h fun ds => by
  intro a ss
  dsimp only
  split <;> rfl
theorem nt_Zip {m : SS → EO (List Dt)} (h : Nt m) : Nt (mZip m) := nt_bind h fun ds => by
  intro a ss
  dsimp only
  split <;> rfl
theorem nt_Yes : Nt mYes := fun _ _ => rfl
theorem wipe_re : ∀ vs : List Nat, wipeS (reS a ss) vs = reS a (wipeS ss vs)
  | [] => rfl
  | v :: vs => by simp only [wipeS, wipe_re vs, reS_set]; rfl
theorem rest_re {s1 s2 : SS} : ∀ vs : List Nat, restS (reS a s1) (reS a s2) vs = reS a (restS s1 s2 vs)
  | [] => rfl
  | v :: vs => by
    simp only [restS, rest_re vs, reS_set, reS_get]
    congr 1
    rcases h : s1[v]? with _ | _ | s
    · rfl
    · rfl
    · cases s <;> rfl
theorem nt_lcGo {vs : List Nat} {g : Dt → SS → Option SS} {mt : SS → EO Bool} {me : SS → EO Dt} (h1 : NtG g) (h2 : Nt mt) (h3 : Nt me) : ∀ (ds acc : List Dt), Nt fun ss => lcGo vs g mt me ds ss acc
  | [], acc => fun a ss => rfl
  | d :: ds, acc => fun a ss => by
    show lcGo vs g mt me (d :: ds) (reS a ss) acc = EO.re a (lcGo vs g mt me (d :: ds) ss acc)
    rw [lcGo, lcGo, h1 a d ss]
    cases g d ss with
    | none => rfl
    | some s1 =>
      refine nt_bind (m := fun ss => (mt ss).calm) (f := fun z ss2 => if z = true then (me ss2).calm.bind fun y ss3 => if acc.length < sizeLine then lcGo vs g mt me ds (wipeS ss3 vs) (acc ++ [y]) else .no else lcGo vs g mt me ds (wipeS ss2 vs) acc) (nt_calm h2) (fun z => nt_if (nt_bind (m := fun ss => (me ss).calm) (nt_calm h3) fun y => nt_if (fun a s3 => ?_) nt_no) fun a s3 => ?_) a s1
      · show lcGo vs g mt me ds (wipeS (reS a s3) vs) (acc ++ [y]) = _
        rw [wipe_re]
        exact nt_lcGo h1 h2 h3 ds (acc ++ [y]) a _
      · show lcGo vs g mt me ds (wipeS (reS a s3) vs) acc = _
        rw [wipe_re]
        exact nt_lcGo h1 h2 h3 ds acc a _
theorem nt_Lc {m : SS → EO (List Dt)} {vs : List Nat} {g : Dt → SS → Option SS} {mt : SS → EO Bool} {me : SS → EO Dt} (h : Nt m) (h1 : NtG g) (h2 : Nt mt) (h3 : Nt me) : Nt (mLc m vs g mt me) := fun a ss => by
  unfold mLc
  rw [h a ss]
  cases m ss with
  | exc c fs s => rfl
  | no => rfl
  | ok items s1 =>
    show (lcGo vs g mt me items (wipeS (reS a s1) vs) []).bind (fun acc ss2 => EO.ok (PyData.list acc) (restS (reS a s1) ss2 vs)) = EO.re a ((lcGo vs g mt me items (wipeS s1 vs) []).bind fun acc ss2 => EO.ok (PyData.list acc) (restS s1 ss2 vs))
    have e : lcGo vs g mt me items (reS a (wipeS s1 vs)) [] = (lcGo vs g mt me items (wipeS s1 vs) []).re a := nt_lcGo h1 h2 h3 items [] a (wipeS s1 vs)
    rw [wipe_re, e]
    cases lcGo vs g mt me items (wipeS s1 vs) [] with
    | exc c fs s => rfl
    | no => rfl
    | ok acc s2 =>
      show EO.ok (PyData.list acc) (restS (reS a s1) (reS a s2) vs) = EO.ok (PyData.list acc) (reS a (restS s1 s2 vs))
      rw [rest_re]
theorem nt_Fz {m : SS → EO Dt} (h : Nt m) : Nt (mFz m) := nt_bind h fun d => nt_ok _
theorem nt_Ow {m : SS → EO Dt} (h : Nt m) : Nt (mOw m) := nt_bind h fun d => nt_ok _
theorem sv_re (n : NV) : reV a n.sv = n.sv := by cases n <;> rfl
theorem ns_Seq {m n : SS → SO} (h : NtS m) (g : NtS n) : NtS (mSeq m n) := fun a ss => by
  unfold mSeq
  rw [h a ss]
  cases m ss with
  | nx s1 => exact g a s1
  | _ => rfl
theorem ns_Ret {m : SS → EO Dt} (h : Nt m) : NtS (mRet m) := nt_st h fun d => nts_rt d
theorem ns_If {c : SS → EO Bool} {m n : SS → SO} (h : Nt c) (g : NtS m) (k : NtS n) : NtS (mIfS c m n) := nt_st h fun d => nts_if g k
theorem ns_Drop {m : SS → EO α} (h : Nt m) : NtS (mDrop m) := nt_st h fun d => nts_nx
theorem ns_Set {i : Nat} {m : SS → EO NV} (h : Nt m) : NtS (mSet i m) := nt_st h fun n => fun a ss => by
  rw [reS_len]
  split
  · show SO.nx ((reS a ss).set i (some n.sv)) = .nx (reS a (ss.set i (some n.sv)))
    rw [reS_set]
    show _ = SO.nx ((reS a ss).set i (some (reV a n.sv)))
    rw [sv_re]
  · rfl
theorem ns_Par {i j : Nat} {m n : SS → EO NV} (h : Nt m) (g : Nt n) : NtS (mPar i j m n) := nt_st h fun d => nt_st g fun e => fun a ss => by
  rw [reS_len]
  split
  · show SO.nx (((reS a ss).set i (some d.sv)).set j (some e.sv)) = .nx (reS a ((ss.set i (some d.sv)).set j (some e.sv)))
    rw [reS_set, reS_set]
    show _ = SO.nx (((reS a ss).set i (some (reV a d.sv))).set j (some (reV a e.sv)))
    rw [sv_re, sv_re]
  · rfl
theorem ownL_re {i : Nat} : ownL (reS a ss) i = ownL ss i := by
  unfold ownL
  rw [reS_get]
  rcases h : ss[i]? with _ | _ | s
  · rfl
  · rfl
  · cases s with
    | o d => cases d <;> rfl
    | _ => rfl
theorem ns_Append {i : Nat} {m : SS → EO Dt} (h : Nt m) : NtS (mAppend i m) := fun a ss => by
  unfold mAppend
  rw [ownL_re]
  cases ownL ss i with
  | none => rfl
  | some ds0 =>
    refine nt_st (m := m) (f := fun d ss => match ownL ss i with
      | some ds => if ds.length < sizeLine then .nx (ss.set i (some (.o (.list (ds ++ [d]))))) else .no
      | none => .no) h (fun d => fun a s1 => ?_) a ss
    dsimp only
    rw [ownL_re]
    cases ownL s1 i with
    | none => rfl
    | some ds =>
      dsimp only
      split
      · show SO.nx ((reS a s1).set i (some (.o (.list (ds ++ [d]))))) = .nx (reS a (s1.set i (some (.o (.list (ds ++ [d]))))))
        rw [reS_set]
        rfl
      · rfl
theorem ns_Asg {g : Dt → SS → Option SS} {m : SS → EO Dt} (h1 : NtG g) (h : Nt m) : NtS (mAsg g m) := nt_st h fun d => fun a ss => by
  rw [h1 a d ss]
  cases g d ss <;> rfl
theorem ns_forGo {g : Dt → SS → Option SS} {n : SS → SO} (h1 : NtG g) (h2 : NtS n) : ∀ ds : List Dt, NtS (forGo g n ds)
  | [] => fun a ss => rfl
  | d :: ds => fun a ss => by
    rw [forGo, forGo, h1 a d ss]
    cases g d ss with
    | none => rfl
    | some s1 =>
      dsimp only [Option.map]
      rw [h2 a s1]
      cases n s1 with
      | nx s2 => exact ns_forGo h1 h2 ds a s2
      | ct s2 => exact ns_forGo h1 h2 ds a s2
      | _ => rfl
theorem ns_For {m : SS → EO (List Dt)} {g : Dt → SS → Option SS} {n : SS → SO} (h : Nt m) (h1 : NtG g) (h2 : NtS n) : NtS (mFor m g n) := nt_st h fun items => ns_forGo h1 h2 items
theorem dkOf_re {i : Nat} : dkOf (reS a ss) i = (dkOf ss i).map fun r => (a, r.2) := by
  unfold dkOf
  rw [reS_get]
  rcases h : ss[i]? with _ | _ | s
  · rfl
  · rfl
  · cases s <;> rfl
theorem nt_DkI {i : Nat} {j : Int} : Nt (mDkI i j) := fun a ss => by
  unfold mDkI
  rw [dkOf_re]
  rcases h : dkOf ss i with _ | ⟨b, q, c, d⟩
  · rfl
  · dsimp only [Option.map]
    split
    · rfl
    · split <;> rfl
theorem ns_DkSet {i : Nat} {m : SS → EO Dt} (h : Nt m) : NtS (mDkSet i m) := nt_st h fun d => fun a ss => by
  rw [dkOf_re]
  cases d with
  | int n =>
    rcases h : dkOf ss i with _ | ⟨b, q, c, d⟩
    · rfl
    · show SO.nx ((reS a ss).set i (some (.dk a q c n))) = .nx (reS a (ss.set i (some (.dk b q c n))))
      rw [reS_set]
      rfl
  | _ => rfl
theorem nt_DkNe {i : Nat} : Nt (mDkNe i) := fun a ss => by
  unfold mDkNe
  rw [dkOf_re]
  rcases h : dkOf ss i with _ | ⟨b, q, c, d⟩ <;> rfl
theorem nt_DkPop {i : Nat} : Nt (mDkPop i) := fun a ss => by
  unfold mDkPop
  rw [dkOf_re]
  rcases h : dkOf ss i with _ | ⟨b, q, c, d⟩
  · rfl
  · dsimp only [Option.map]
    cases q.getLast? with
    | none => rfl
    | some z =>
      show EO.ok (PyData.int z) ((reS a ss).set i (some (.dk a q.dropLast c d))) = .ok (PyData.int z) (reS a (ss.set i (some (.dk b q.dropLast c d))))
      rw [reS_set]
      rfl
theorem ns_DkApp {i u v : Nat} : NtS (mDkApp i u v) := fun a ss => by
  unfold mDkApp
  rw [dkOf_re, reS_get, reS_get]
  rcases h : dkOf ss i with _ | ⟨b, q, c, d⟩
  · rfl
  · rcases hu : ss[u]? with _ | _ | su
    · rfl
    · rfl
    · cases su with
      | o d => rfl
      | dk => rfl
      | v d' =>
        cases d' with
        | int n =>
          rcases hv : ss[v]? with _ | _ | sv
          · rfl
          · rfl
          · cases sv with
            | o d => rfl
            | dk => rfl
            | v d' =>
              cases d' with
              | int m =>
                dsimp only [Option.map, reV]
                split
                · show SO.nx ((reS a ss).set i (some (.dk a (q ++ [n / m]) c d))) = .nx (reS a (ss.set i (some (.dk b (q ++ [n / m]) c d))))
                  rw [reS_set]
                  rfl
                · rfl
              | _ => rfl
        | _ => rfl
/-- what comes out, whichever address -/
def dkAny (ss : SS) : Option Dk := match ss[0]? with
  | some (some (SV.dk _ q b c)) => some (q, b, c)
  | _ => none
def outX : SO → Res (Dt × Dk)
  | .rt d ss => match dkAny ss with
    | some dk => .ok (d, dk)
    | none => .no
  | .nx ss => match dkAny ss with
    | some dk => .ok (.none, dk)
    | none => .no
  | _ => .no
theorem dkAt_re : dkAt a (reS a ss) = dkAny ss := by
  unfold dkAt dkAny
  rw [reS_get]
  rcases h : ss[0]? with _ | _ | s
  · rfl
  · rfl
  · cases s with
    | dk a0 q b c =>
      show (if a = a then some (q, b, c) else none) = _
      rw [if_pos rfl]
    | _ => rfl
theorem outD_re (o : SO) : outD a (o.re a) = outX o := by
  cases o with
  | nx s =>
    simp only [SO.re, outD, outX, dkAt_re]
    all_goals (cases dkAny s <;> rfl)
  | rt d s =>
    simp only [SO.re, outD, outX, dkAt_re]
    all_goals (cases dkAny s <;> rfl)
  | _ => rfl
theorem startD_re {N : List Str} {dk : Dk} {ds : List Dt} : reS a (startD 0 N dk ds) = startD a N dk ds := by
  unfold reS startD
  rw [List.map_cons, List.map_append, List.map_map, List.map_replicate]
  rfl
theorem nt_deck {m : SS → SO} (h : NtS m) {N : List Str} {dk : Dk} {ds : List Dt} : outD a (m (startD a N dk ds)) = outX (m (startD 0 N dk ds)) := by
  rw [← startD_re, h a, outD_re]
theorem startW_re {N : List Str} {q : List Int} {b : Int} : reS a (startW 0 N q b) = startW a N q b := by
  unfold reS startW
  rw [List.map_cons, List.map_cons, List.map_replicate]
  rfl
end
end VL

namespace VL
open PySem PySem.Spec L2
open PyProof.Rows hiding St
def txt (l : List Nat) : Str := ⟨l.toArray⟩
theorem txt_list (z : Str) : txt z.cps.toList = z := by
  obtain ⟨⟨l⟩⟩ := z
  rfl
theorem txt_app (l m : List Nat) : txt l ++ txt m = txt (l ++ m) := by
  show (⟨l.toArray ++ m.toArray⟩ : Str) = ⟨(l ++ m).toArray⟩
  simp
theorem join_txt (ls : List (List Nat)) : Txt.join "" (ls.map txt) = txt ls.flatten := by
  unfold Txt.join
  rw [PySem.StrLaws.glued_eq_join]
  have nil : ∀ l : List Nat, txt l ++ ("" : Str) = txt l := fun l => (txt_app l []).trans (by rw [List.append_nil])
  induction ls with
  | nil => rfl
  | cons l ls ih =>
    cases ls with
    | nil =>
      show txt l = _
      simp
    | cons m ls =>
      show txt l ++ ("" : Str) ++ Str.join "" ((m :: ls).map txt) = _
      rw [ih, nil, txt_app]
      rfl
theorem join_signs (l : List Nat) : Txt.join "" (l.map fun c => ⟨#[c]⟩) = txt l := by
  have e : (l.map fun c => (⟨#[c]⟩ : Str)) = (l.map fun c => [c]).map txt := by
    rw [List.map_map]
    rfl
  rw [e, join_txt]
  congr 1
  clear e
  induction l with
  | nil => rfl
  | cons c l ih => simp [ih]
theorem txt_len (l : List Nat) : (txt l).length = l.length := by
  show l.toArray.size = _
  simp
theorem join_empty_strs (zs : List Str) : Txt.join "" zs = txt (zs.map fun z => z.cps.toList).flatten := by
  have e : zs = (zs.map fun z => z.cps.toList).map txt := by
    rw [List.map_map]
    have : (txt ∘ fun z : Str => z.cps.toList) = id := by funext z; exact txt_list z
    rw [this, List.map_id]
  conv => lhs; rw [e]
  exact join_txt _
theorem padS_txt {x : Str} {n c : Nat} (h : x.length ≤ n) : padS x (n : Int) c = txt (x.cps.toList ++ List.replicate (n - x.length) c) := by
  unfold padS
  split
  · have e : n = x.length := by omega
    rw [e, Nat.sub_self, List.replicate_zero, List.append_nil, txt_list]
  · obtain ⟨⟨l⟩⟩ := x
    unfold Builtin.Str.padded txt
    rw [Int.toNat_natCast]
    simp
theorem takeWhile_rep {p : Nat → Bool} {c : Nat} (hc : p c = true) : ∀ (n : Nat) (l : List Nat), (∀ d ∈ l, p d = false) → (List.replicate n c ++ l).takeWhile p = List.replicate n c
  | 0, l, h => by
    cases l with
    | nil => rfl
    | cons d l => simp [h d]
  | n + 1, l, h => by
    rw [List.replicate_succ, List.cons_append, List.takeWhile_cons, if_pos hc, takeWhile_rep hc n l h]
theorem rstrip_txt {xs : List Nat} (h : ∀ c ∈ xs, c ≠ 45) (n : Nat) : Txt.rstripChars (txt (xs ++ List.replicate n 45)) "-" = txt xs := by
  unfold Txt.rstripChars
  rw [PyProof.Rows.stripBy_eq]
  have e0 : stripLo (("-" : Str).cps.contains) false (txt (xs ++ List.replicate n 45)) = 0 := rfl
  rw [e0]
  have p45 : ("-" : Str).cps.contains 45 = true := by decide +kernel
  have pne : ∀ d, d ≠ 45 → ("-" : Str).cps.contains d = false := fun d hd => by
    have e : ("-" : Str).cps = #[45] := by decide +kernel
    rw [e]
    simpa using hd
  have e1 : stripHi (("-" : Str).cps.contains) true (txt (xs ++ List.replicate n 45)) 0 = xs.length := by
    unfold stripHi
    rw [if_pos rfl]
    have er : (((txt (xs ++ List.replicate n 45)).cps.toList.drop 0).reverse) = List.replicate n 45 ++ xs.reverse := by
      simp [txt]
    rw [er, takeWhile_rep p45 n _ fun d hd => pne d (h d (List.mem_reverse.mp hd)), txt_len]
    simp
  rw [e1]
  unfold Builtin.Str.strSub txt
  simp
end VL

namespace VL
open PySem PySem.Spec L2
open PyProof.Rows hiding St
def topS (i : Nat) : Stmt := PySem.Challenge.pw_evenlead_k02_texts_and_rows.main.body.getD i (.Pass ⟨0, 0, 0, 0⟩)
abbrev s__law_deck : Stmt := topS 16
abbrev s__law_signs : Stmt := topS 20
abbrev s__law_draw : Stmt := topS 17
abbrev s__law_pick : Stmt := topS 18
abbrev s__law_word : Stmt := topS 19
abbrev s_is_text : Stmt := topS 8
abbrev s_side_after : Stmt := topS 11
abbrev s_is_letter : Stmt := topS 7
abbrev s_is_sign : Stmt := topS 9
abbrev s_is_pair_of_signs : Stmt := topS 12
abbrev s_is_row : Stmt := topS 13
abbrev s__law_odd : Stmt := topS 23
abbrev s__law_bent : Stmt := topS 24
abbrev s_row_of : Stmt := topS 10
abbrev s_pair_of : Stmt := topS 14
abbrev s__law_is_text : Stmt := topS 21
abbrev s__law_is_row : Stmt := topS 22
abbrev s__law_are_told : Stmt := topS 25
abbrev s_law : Stmt := topS 26
structure Top (K : PySem.W.Frag) (mg : Str → Option Value) : Prop where
  d__law_deck : Df K mg "_law_deck" s__law_deck ["_law_script"]
  d__law_signs : Df K mg "_law_signs" s__law_signs ["_law_x", "_law_y"]
  d__law_draw : Df K mg "_law_draw" s__law_draw ["_law_deck_here", "_law_below"]
  d__law_pick : Df K mg "_law_pick" s__law_pick ["_law_deck_here", "_law_some"]
  d__law_word : Df K mg "_law_word" s__law_word ["_law_deck_here", "_law_top"]
  d_is_text : Df K mg "is_text" s_is_text ["thing"]
  d_side_after : Df K mg "side_after" s_side_after ["side", "signs"]
  d_is_letter : Df K mg "is_letter" s_is_letter ["thing"]
  d_is_sign : Df K mg "is_sign" s_is_sign ["thing"]
  d_is_pair_of_signs : Df K mg "is_pair_of_signs" s_is_pair_of_signs ["thing"]
  d_is_row : Df K mg "is_row" s_is_row ["thing"]
  d__law_odd : Df K mg "_law_odd" s__law_odd ["_law_deck_here", "_law_it"]
  d__law_bent : Df K mg "_law_bent" s__law_bent ["_law_deck_here", "_law_it"]
  d_row_of : Df K mg "row_of" s_row_of ["left", "right"]
  d_pair_of : Df K mg "pair_of" s_pair_of ["row"]
  d__law_is_text : Df K mg "_law_is_text" s__law_is_text ["_law_it"]
  d__law_is_row : Df K mg "_law_is_row" s__law_is_row ["_law_it"]
  d__law_are_told : Df K mg "_law_are_told" s__law_are_told ["_law_it"]
  d_law : Df K mg "law" s_law ["_law_script"]
  c_BOTH : ∃ t, mg "BOTH" = some (.str "both" t)
  c_FILL : ∃ t, mg "FILL" = some (.str "-" t)
  c_LEFT : ∃ t, mg "LEFT" = some (.str "left" t)
  c_LETTERS : ∃ t, mg "LETTERS" = some (.str "abcdefghijklmnopqrstuvwxyz" t)
  c_PAIR : ∃ t, mg "PAIR" = some (.int (2) t)
  c_RIGHT : ∃ t, mg "RIGHT" = some (.str "right" t)
  b_all : mg "all" = none
  b_int : mg "int" = none
  b_isinstance : mg "isinstance" = none
  b_len : mg "len" = none
  b_list : mg "list" = none
  b_max : mg "max" = none
  b_range : mg "range" = none
  b_repr : mg "repr" = none
  b_str : mg "str" = none
  b_tuple : mg "tuple" = none
  b_zip : mg "zip" = none

def ABC : Str := "abcdefghijklmnopqrstuvwxyz"
def isL (c : Nat) : Bool := decide (c ∈ ABC.cps.toList)
def isLetterD : Dt → Bool
  | .str ⟨⟨[c]⟩⟩ => isL c
  | _ => false
def okT (d : Dt) : Bool := match d with
  | .str z => decide (z.length ≤ 1000) && PyData.strOk z
  | _ => true
def isTextD : Dt → Bool
  | .str z => z.cps.toList.all isL
  | _ => false
theorem okT_len {z : Str} (h : okT (.str z) = true) : z.length ≤ sizeLine := by
  simp only [okT, Bool.and_eq_true, decide_eq_true_eq] at h
  exact Nat.le_trans h.1 (by decide)
theorem okT_ok {z : Str} (h : okT (.str z) = true) : PyData.strOk z = true := by
  simp only [okT, Bool.and_eq_true, decide_eq_true_eq] at h
  exact h.2
def isSignD (d : Dt) : Bool := isLetterD d || (match d with | .str z => decide (z = "-") | _ => false)
def okP : Dt → Bool
  | .tuple [a, b] => okT a && okT b
  | _ => true
def isPairD : Dt → Bool
  | .tuple [a, b] => isSignD a && isSignD b
  | _ => false
def farD (a b : Str) : Str := if a = "-" then "right" else if b = "-" then "left" else "both"
def sideD (s a b : Str) : Dt := if a = "-" ∧ b = "-" then .none else if s = "both" ∨ s = farD a b then .str (farD a b) else .none
theorem dash_ok : PyData.strOk "-" = true := by decide +kernel
theorem far_ok (a b : Str) : PyData.strOk (farD a b) = true := by
  unfold farD
  split
  · decide +kernel
  · split <;> decide +kernel
/-- a row is gone through -/
def rowGo : Str → List Dt → Bool
  | _, [] => true
  | s, .tuple [.str a, .str b] :: r => match sideD s a b with
    | .str f => rowGo f r
    | _ => false
  | _, _ :: _ => false
def rowD : Dt → Bool
  | .tuple ds => ds.all isPairD && rowGo "both" ds
  | _ => false
def okR : Dt → Bool
  | .tuple ds => ds.all okP && decide (ds.length ≤ 1000)
  | d => okT d
theorem isSign_str {d : Dt} (h : isSignD d = true) : ∃ z, d = .str z := by
  cases d with
  | str z => exact ⟨z, rfl⟩
  | _ => simp [isSignD, isLetterD] at h
theorem pair_of_is {d : Dt} (h : isPairD d = true) : ∃ a b, d = .tuple [.str a, .str b] ∧ isSignD (.str a) = true ∧ isSignD (.str b) = true := by
  cases d with
  | tuple l =>
    match l, h with
    | [a, b], h =>
      have h : isSignD a = true ∧ isSignD b = true := by simpa [isPairD] using h
      obtain ⟨x, rfl⟩ := isSign_str h.1
      obtain ⟨y, rfl⟩ := isSign_str h.2
      exact ⟨x, y, rfl, h.1, h.2⟩
  | _ => simp [isPairD] at h
/-- letter beside letter, filled up -/
def sp : List Nat → List Nat → List (Nat × Nat)
  | [], ys => ys.map fun y => (45, y)
  | x :: xs, [] => (x, 45) :: sp xs []
  | x :: xs, y :: ys => (x, y) :: sp xs ys
def duo (p : Nat × Nat) : Dt := .tuple [signD p.1, signD p.2]
def sg (xs ys : List Nat) : List Dt := (sp xs ys).map duo
theorem sp_get : ∀ (xs ys : List Nat) (k : Nat), k < max xs.length ys.length → (sp xs ys)[k]? = some (xs.getD k 45, ys.getD k 45)
  | [], ys, k, h => by
    have hk : k < ys.length := by simpa using h
    simp only [sp, List.getElem?_map, List.getElem?_eq_getElem hk, Option.map_some, List.getD_eq_getElem?_getD, List.getElem?_nil, Option.getD_none, Option.getD_some]
  | x :: xs, [], 0, _ => by simp [sp]
  | x :: xs, [], k + 1, h => by
    have := sp_get xs [] k (by simp at h ⊢; omega)
    simpa [sp] using this
  | x :: xs, y :: ys, 0, _ => by simp [sp]
  | x :: xs, y :: ys, k + 1, h => by
    have := sp_get xs ys k (by simp at h ⊢; omega)
    simpa [sp] using this
theorem sp_len : ∀ xs ys : List Nat, (sp xs ys).length = max xs.length ys.length
  | [], ys => by simp [sp]
  | x :: xs, [] => by simp [sp, sp_len xs []]
  | x :: xs, y :: ys => by
    simp only [sp, List.length_cons, sp_len xs ys]
    omega
theorem sg_get (xs ys : List Nat) (k : Nat) (h : k < max xs.length ys.length) : (sg xs ys)[k]? = some (.tuple [signD (xs.getD k 45), signD (ys.getD k 45)]) := by
  unfold sg
  rw [List.getElem?_map, sp_get xs ys k h]
  rfl
theorem sg_len (xs ys : List Nat) : (sg xs ys).length = max xs.length ys.length := by
  unfold sg
  rw [List.length_map, sp_len]
theorem sp_fst : ∀ (xs ys : List Nat), (sp xs ys).map (·.1) = xs ++ List.replicate (max xs.length ys.length - xs.length) 45
  | [], ys => by
    simp only [sp, List.map_map, List.length_nil, List.nil_append, Nat.zero_max, Nat.sub_zero]
    exact List.map_const' ..
  | x :: xs, [] => by
    have := sp_fst xs []
    simp only [sp, List.map_cons, this, List.length_nil, List.length_cons, List.cons_append, Nat.max_zero, Nat.sub_self]
  | x :: xs, y :: ys => by
    have := sp_fst xs ys
    simp only [sp, List.map_cons, this, List.length_cons, List.cons_append]
    congr 3
    omega
theorem sp_snd : ∀ (xs ys : List Nat), (sp xs ys).map (·.2) = ys ++ List.replicate (max xs.length ys.length - ys.length) 45
  | [], ys => by
    have e : ((fun p : Nat × Nat => p.2) ∘ fun y : Nat => ((45 : Nat), y)) = id := rfl
    simp only [sp, List.map_map, e, List.map_id, List.length_nil, Nat.zero_max, Nat.sub_self, List.replicate_zero, List.append_nil]
  | x :: xs, [] => by
    have := sp_snd xs []
    simp only [sp, List.map_cons, this, List.length_nil, List.length_cons, List.nil_append, Nat.max_zero, Nat.sub_zero]
    rfl
  | x :: xs, y :: ys => by
    have := sp_snd xs ys
    simp only [sp, List.map_cons, this, List.length_cons, List.cons_append]
    congr 3
    omega
theorem zip_pairs : ∀ ps : List (Nat × Nat), zipS (ps.map (·.1)) (ps.map (·.2)) = ps.map duo
  | [] => rfl
  | p :: ps => by
    show _ :: zipS (ps.map (·.1)) (ps.map (·.2)) = _
    rw [zip_pairs ps]
    rfl
theorem zip_sg (xs ys : List Nat) : zipS (xs ++ List.replicate (max xs.length ys.length - xs.length) 45) (ys ++ List.replicate (max xs.length ys.length - ys.length) 45) = sg xs ys := by
  rw [← sp_fst, ← sp_snd, zip_pairs]
  rfl

def blend (ns : List Int) : Int := ns.foldl (fun b z => (b * 40692 + z % 2147483563 + 17) % 2147483629) 95123
theorem sc__law_deck : FnScope ["_law_script", "_law_queue", "_law_blend", "_law_cell"] ["_law_script"] (defScope s__law_deck) := ⟨rfl, rfl, rfl, by decide +kernel, rfl, by decide +kernel, by decide +kernel⟩
theorem cut63 {α : Type} (xs : List α) (h : xs.length ≤ 63) : HT.sIx xs.length 0 none = 0 ∧ HT.sIx xs.length xs.length (some 63) = xs.length := by
  refine ⟨rfl, ?_⟩
  show (if (63 : Int) < 0 then ((63 : Int) + (xs.length : Int)).toNat else min (63 : Int).toNat xs.length) = xs.length
  rw [if_neg (by decide)]
  show min 63 xs.length = xs.length
  omega
section
variable {P : Program} {w : World} {K : PySem.W.Frag} {mg : Str → Option Value} {base : Heap}
theorem go__law_deck (T : Top K mg) : Go P w K mg base 1 "_law_deck" s__law_deck ["_law_script"] (spM K blend) := by
  refine T.d__law_deck.go fun f fd F => FnG.of F sc__law_deck (fun vs H Q E z => ?_) fun cdv A outer s H vs Q E hr hgd hsp => ?_
  · obtain ⟨a, ns, rfl, _⟩ := z
    rfl
  · obtain ⟨a, ns, rfl, hS, hl, hq⟩ := hsp
    have C := VC.fn (P := P) (w := w) (K := K) (mg := mg) (base := base) (outer := outer) (s := s) (H := H) (E := E) sc__law_deck.nd hr hgd
    refine ⟨_, pss_cons (ps_par (C.ca ()) (C.nd ()) (i := 1) (j := 2) rfl rfl (by decide) rfl rfl (pa_cons (pe_revL (pe_callTy call_list_of rfl T.b_list PyProof.Rows.boot_list (pa_cons (pe_slice sl_list (pe_var (i := 0) rfl (.inl rfl)) po_none (po_some pe_int)) pa_nil))) (pa_cons pe_int pa_nil)) rfl rfl)
      (pss_cons (ps_for (C.po ()) (C.ca ()) (pi_sq (pe_var (i := 1) rfl (.inl rfl))) (pg_name (C.nd ()) (i := 3) rfl (.inl rfl) (.inl rfl))
        (pss_one (ps_set (C.nd ()) (i := 2) rfl (.inl rfl) (pe_op op_mod (pe_callTy call_int1 rfl T.b_int PyProof.Rows.boot_int (pa_cons (pe_op op_add (pe_op op_add (pe_op op_mul (pe_var (i := 2) rfl (.inl rfl)) pe_int) (pe_op op_mod (pe_callTy call_int1 rfl T.b_int PyProof.Rows.boot_int (pa_cons (pe_var (i := 3) rfl (.inl rfl)) pa_nil)) pe_int)) pe_int) pa_nil)) pe_int))))
        (pss_one (ps_ret (pe_lst (pa_cons (pe_var (i := 1) rfl (.inl rfl)) (pa_cons (pe_var (i := 2) rfl (.inl rfl)) (pa_cons pe_int pa_nil))))))), ?_⟩
    have eq1 : (cutV (ns.map V.int) none (some 63)).reverse = ns.reverse.map V.int := by
      have hl2 : (ns.map V.int).length ≤ 63 := by rw [List.length_map]; exact hl
      have e : cutV (ns.map V.int) none (some 63) = ns.map V.int := cut_whole (cut63 _ hl2)
      rw [e, List.map_reverse]
    refine ⟨.ref a, rfl, 63, rfl, a, ns.map V.int, rfl, hS, fun u1 hu1 => ⟨u1, _, rfl, .inl (.of upd_same), fun u2 hu2 => ⟨u2, _, rfl, .of upd_same, fun u3 hu3 => ⟨_, _, rfl, ?_⟩⟩⟩⟩
    rw [eq1]
    obtain ⟨q, eqq⟩ : ∃ q, q = ns.reverse := ⟨_, rfl⟩
    rw [← eqq] at hq ⊢
    obtain ⟨H1, e1⟩ : ∃ H1, H1 = upd (upd H u1 (.lst (cutV (ns.map V.int) none (some 63)))) u2 (.lst (cutV (ns.map V.int) none (some 63))) := ⟨_, rfl⟩
    rw [← e1] at hu3 ⊢
    obtain ⟨H3, e3⟩ : ∃ H3, H3 = upd H1 u3 (.lst (q.map V.int)) := ⟨_, rfl⟩
    rw [← e3]
    have at3 : H3 u3 = some (.lst (q.map V.int)) := by rw [e3]; exact upd_same
    have s1 : Same H H1 := by rw [e1]; exact (same_upd hu1).trans (same_upd hu2)
    have s3 : Same H H3 := by rw [e3]; exact s1.trans (same_upd hu3)
    have n3 : H u3 = none := s1.free hu3
    refine ⟨.ref u3, rfl, .inl ⟨u3, _, rfl, .of at3, ?_⟩⟩
    refine ⟨fun i m σ' H' => m = q.length - i ∧ i ≤ q.length ∧ H' = H3 ∧ ∃ y, σ' = [some (.ref a), some (.ref u3), some (.int (blend (q.take i))), y], ⟨q.length, rfl, Nat.zero_le _, rfl, none, rfl⟩, ?_⟩
    rintro i m σ' H' ⟨rfl, hi, rfl, y, rfl⟩
    by_cases hlt : i < q.length
    · have g : (q.map V.int)[i]? = some (.int q[i]) := by rw [List.getElem?_map, List.getElem?_eq_getElem hlt]; rfl
      refine .inr ⟨⟨_, _, .of at3, g⟩, fun σ' H' => H' = _ ∧ ∃ y, σ' = [some (.ref a), some (.ref u3), some (.int (blend (q.take (i + 1)))), y], fun σ' H' hN => ⟨q.length - (i + 1), by omega, rfl, hlt, hN⟩, fun v H' hy => ?_⟩
      obtain ⟨rfl, fv⟩ := hy
      have ev : v = .int q[i] := Option.some.inj ((fv _ (.of at3)).symm.trans g)
      subst ev
      refine ⟨_, rfl, _, _, rfl, rfl, .inr ⟨by decide, by decide⟩, _, rfl, .inl ⟨_, rfl, _, _, rfl, rfl, (show (0 : Int) < 2147483563 by decide), _, _, rfl, rfl, _, _, rfl, rfl, .inl ⟨_, rfl, _, _, rfl, rfl, (show (0 : Int) < 2147483629 by decide), rfl, some (.int q[i]), ?_⟩⟩⟩
      have et : q.take (i + 1) = q.take i ++ [q[i]] := by rw [List.take_succ, List.getElem?_eq_getElem hlt]; rfl
      have eb : blend (q.take (i + 1)) = (blend (q.take i) * 40692 + q[i] % 2147483563 + 17) % 2147483629 := by
        rw [et]
        unfold blend
        rw [List.foldl_append]
        rfl
      rw [eb]
      rfl
    · have ei : i = q.length := by omega
      subst ei
      refine .inl ⟨⟨_, .of at3, by rw [List.length_map]; exact Nat.le_refl _⟩, ?_⟩
      rw [List.take_length]
      refine ⟨_, rfl, _, rfl, (show 3 ≤ sizeLine by decide), fun d hd => ?_⟩
      have nd : d ≠ u3 := fun z => by rw [z, at3] at hd; cases hd
      exact hq _ d u3 (s3.trans (same_upd hd)) (s3.free hd) n3 nd (by rw [upd_same]) (by rw [upd_ne nd.symm]; exact at3)
end

theorem sc__law_signs : FnScope ["_law_x", "_law_y", "_law_found", "_law_k"] ["_law_x", "_law_y"] (defScope s__law_signs) := ⟨rfl, rfl, rfl, by decide +kernel, rfl, by decide +kernel, by decide +kernel⟩
abbrev N__law_signs : List Str := ["_law_x", "_law_y", "_law_found", "_law_k"]
def m__law_signs : SS → SO := (mSeq (mSet 2 (mOw (mLst mNil)))
    (mSeq (mFor (mRng1 (mCons (mBu fMax2 (mConsB (mB (mBu fLen (mConsB (mBor 0) mNilB))) (mConsB (mB (mBu fLen (mConsB (mBor 1) mNilB))) mNilB))) mNil)) (gNm 3) (mAppend 2 (mTup (mCons (mIf (mCmp fLt (mBor 3) (mB (mBu fLen (mConsB (mBor 0) mNilB)))) (mBin fIx (mBor 0) (mBor 3)) (mC (.str "-"))) (mCons (mIf (mCmp fLt (mBor 3) (mB (mBu fLen (mConsB (mBor 1) mNilB)))) (mBin fIx (mBor 1) (mBor 3)) (mC (.str "-"))) mNil)))))
    (mRet (mBu fTup (mConsB (mBor 2) mNilB)))))
def G__law_signs : List Dt → Res Dt := fun ds => outF (m__law_signs (startS N__law_signs ds))
theorem e__law_signs (ds : List Dt) (h : ds.length = 2) : outF (m__law_signs (startS N__law_signs ds)) = G__law_signs ds ∨ G__law_signs ds = .no := .inl rfl
abbrev bodySigns : SS → SO := mAppend 2 (mTup (mCons (mIf (mCmp fLt (mBor 3) (mB (mBu fLen (mConsB (mBor 0) mNilB)))) (mBin fIx (mBor 0) (mBor 3)) (mC (.str "-"))) (mCons (mIf (mCmp fLt (mBor 3) (mB (mBu fLen (mConsB (mBor 1) mNilB)))) (mBin fIx (mBor 1) (mBor 3)) (mC (.str "-"))) mNil)))
theorem at_nat {xs : List Nat} {k : Nat} (h : k < xs.length) : atI xs (k : Int) = some (xs.getD k 45) := atI_nat (by rw [List.getD_eq_getElem?_getD, List.getElem?_eq_getElem h]; rfl)
theorem signs_step (x y : Str) (acc : List Dt) (k : Nat) (z : Option SV) (hx : x.length ≤ 1000) (hy : y.length ≤ 1000) (ha : acc.length ≤ 2000) :
    bodySigns [some (.v (.str x)), some (.v (.str y)), some (.o (.list acc)), some (.v (.int k))] = .nx [some (.v (.str x)), some (.v (.str y)), some (.o (.list (acc ++ [.tuple [signD (x.cps.toList.getD k 45), signD (y.cps.toList.getD k 45)]]))), some (.v (.int k))] := by
  have sx : x.length ≤ sizeLine := Nat.le_trans hx (by decide)
  have sy : y.length ≤ sizeLine := Nat.le_trans hy (by decide)
  have sa : acc.length < sizeLine := Nat.lt_of_le_of_lt ha (by decide)
  have lx : x.cps.toList.length = x.length := by simp [Str.length]
  have ly : y.cps.toList.length = y.length := by simp [Str.length]
  have one : ∀ (u : Str), u.length ≤ sizeLine → (k < u.length → fIx (.str u) (.int k) = some (signD (u.cps.toList.getD k 45))) ∧ (¬ k < u.length → signD (u.cps.toList.getD k 45) = .str "-") := fun u hu => by
    have lu : u.cps.toList.length = u.length := by simp [Str.length]
    refine ⟨fun h => ?_, fun h => ?_⟩
    · show (if u.length ≤ sizeLine then (atI u.cps.toList k).map signD else none) = _
      rw [if_pos hu, at_nat (by omega)]
      rfl
    · rw [List.getD_eq_getElem?_getD, List.getElem?_eq_none (by omega)]
      rfl
  have ox := one x sx
  have oy := one y sy
  clear one
  generalize x.cps.toList.getD k 45 = c at ox ⊢
  generalize y.cps.toList.getD k 45 = d at oy ⊢
  by_cases h1 : k < x.length
  · by_cases h2 : k < y.length
    · simp [bodySigns, mC, mVar, mBor, mB, mNil, mCons, mNilB, mConsB, mTup, mLst, fit, mFz, mOw, NV.sv, mSeq, mRet, mIfS, mDrop, mSet, mPar, ownL, mAppend, gNm, gNilV, gConsV, gTupV, mAsg, signs, mItems, itemsD, mRng1, mRng2, mEnum, mZip, mFor, mLc, mYes, mIf, mAnd, mOr, mNot, toB, vAnd, vOr, vNot, mBl, mCmp, mChain, two, alt, mBin, mNeg, outF, startS, mRes, mResK, opsGet, mBu, mOu, alt1, mIsi, mPart, mPart0, mSl, mSlL, mRevL, mDict0, mM1, mM0, mMn, mTupZip, mRev, EO.bind, EO.lift, EO.st, Opd.get, EO.calm, wipeS, restS, isN, fIs, fIsNot, one1, two12, two21, fLen, sx, sy, fInt, h1, h2, ox.1 h1, oy.1 h2, sa, show 0 ≤ sizeLine by decide, show 1 ≤ sizeLine by decide, show 2 ≤ sizeLine by decide, show 3 ≤ sizeLine by decide, show 4 ≤ sizeLine by decide, show 5 ≤ sizeLine by decide, show 6 ≤ sizeLine by decide, show 7 ≤ sizeLine by decide, show 8 ≤ sizeLine by decide, show 9 ≤ sizeLine by decide, show 13 ≤ sizeLine by decide, show 17 ≤ sizeLine by decide, show 21 ≤ sizeLine by decide, show 26 ≤ sizeLine by decide]
    · simp [bodySigns, mC, mVar, mBor, mB, mNil, mCons, mNilB, mConsB, mTup, mLst, fit, mFz, mOw, NV.sv, mSeq, mRet, mIfS, mDrop, mSet, mPar, ownL, mAppend, gNm, gNilV, gConsV, gTupV, mAsg, signs, mItems, itemsD, mRng1, mRng2, mEnum, mZip, mFor, mLc, mYes, mIf, mAnd, mOr, mNot, toB, vAnd, vOr, vNot, mBl, mCmp, mChain, two, alt, mBin, mNeg, outF, startS, mRes, mResK, opsGet, mBu, mOu, alt1, mIsi, mPart, mPart0, mSl, mSlL, mRevL, mDict0, mM1, mM0, mMn, mTupZip, mRev, EO.bind, EO.lift, EO.st, Opd.get, EO.calm, wipeS, restS, isN, fIs, fIsNot, one1, two12, two21, fLen, sx, sy, fInt, h1, h2, ox.1 h1, oy.2 h2, sa, show 0 ≤ sizeLine by decide, show 1 ≤ sizeLine by decide, show 2 ≤ sizeLine by decide, show 3 ≤ sizeLine by decide, show 4 ≤ sizeLine by decide, show 5 ≤ sizeLine by decide, show 6 ≤ sizeLine by decide, show 7 ≤ sizeLine by decide, show 8 ≤ sizeLine by decide, show 9 ≤ sizeLine by decide, show 13 ≤ sizeLine by decide, show 17 ≤ sizeLine by decide, show 21 ≤ sizeLine by decide, show 26 ≤ sizeLine by decide]
  · by_cases h2 : k < y.length
    · simp [bodySigns, mC, mVar, mBor, mB, mNil, mCons, mNilB, mConsB, mTup, mLst, fit, mFz, mOw, NV.sv, mSeq, mRet, mIfS, mDrop, mSet, mPar, ownL, mAppend, gNm, gNilV, gConsV, gTupV, mAsg, signs, mItems, itemsD, mRng1, mRng2, mEnum, mZip, mFor, mLc, mYes, mIf, mAnd, mOr, mNot, toB, vAnd, vOr, vNot, mBl, mCmp, mChain, two, alt, mBin, mNeg, outF, startS, mRes, mResK, opsGet, mBu, mOu, alt1, mIsi, mPart, mPart0, mSl, mSlL, mRevL, mDict0, mM1, mM0, mMn, mTupZip, mRev, EO.bind, EO.lift, EO.st, Opd.get, EO.calm, wipeS, restS, isN, fIs, fIsNot, one1, two12, two21, fLen, sx, sy, fInt, h1, h2, ox.2 h1, oy.1 h2, sa, show 0 ≤ sizeLine by decide, show 1 ≤ sizeLine by decide, show 2 ≤ sizeLine by decide, show 3 ≤ sizeLine by decide, show 4 ≤ sizeLine by decide, show 5 ≤ sizeLine by decide, show 6 ≤ sizeLine by decide, show 7 ≤ sizeLine by decide, show 8 ≤ sizeLine by decide, show 9 ≤ sizeLine by decide, show 13 ≤ sizeLine by decide, show 17 ≤ sizeLine by decide, show 21 ≤ sizeLine by decide, show 26 ≤ sizeLine by decide]
    · simp [bodySigns, mC, mVar, mBor, mB, mNil, mCons, mNilB, mConsB, mTup, mLst, fit, mFz, mOw, NV.sv, mSeq, mRet, mIfS, mDrop, mSet, mPar, ownL, mAppend, gNm, gNilV, gConsV, gTupV, mAsg, signs, mItems, itemsD, mRng1, mRng2, mEnum, mZip, mFor, mLc, mYes, mIf, mAnd, mOr, mNot, toB, vAnd, vOr, vNot, mBl, mCmp, mChain, two, alt, mBin, mNeg, outF, startS, mRes, mResK, opsGet, mBu, mOu, alt1, mIsi, mPart, mPart0, mSl, mSlL, mRevL, mDict0, mM1, mM0, mMn, mTupZip, mRev, EO.bind, EO.lift, EO.st, Opd.get, EO.calm, wipeS, restS, isN, fIs, fIsNot, one1, two12, two21, fLen, sx, sy, fInt, h1, h2, ox.2 h1, oy.2 h2, sa, show 0 ≤ sizeLine by decide, show 1 ≤ sizeLine by decide, show 2 ≤ sizeLine by decide, show 3 ≤ sizeLine by decide, show 4 ≤ sizeLine by decide, show 5 ≤ sizeLine by decide, show 6 ≤ sizeLine by decide, show 7 ≤ sizeLine by decide, show 8 ≤ sizeLine by decide, show 9 ≤ sizeLine by decide, show 13 ≤ sizeLine by decide, show 17 ≤ sizeLine by decide, show 21 ≤ sizeLine by decide, show 26 ≤ sizeLine by decide]
theorem signs_loop (x y : Str) (hx : x.length ≤ 1000) (hy : y.length ≤ 1000) : ∀ (n k : Nat) (z : Option SV), k + n = max x.length y.length → ∃ ss, forGo (gNm 3) bodySigns ((List.range' k n).map fun i => .int (i : Nat)) [some (.v (.str x)), some (.v (.str y)), some (.o (.list ((sg x.cps.toList y.cps.toList).take k))), z] = .nx ss ∧
    ss[2]? = some (some (.o (.list (sg x.cps.toList y.cps.toList)))) ∧ ss.length = 4 ∧ ss[0]? = some (some (.v (.str x)))
  | 0, k, z, h => by
    refine ⟨_, rfl, ?_, rfl, rfl⟩
    have e : (sg x.cps.toList y.cps.toList).length = k := by rw [sg_len]; simp [Str.length] at h ⊢; omega
    rw [List.take_of_length_le (by omega)]
    rfl
  | n + 1, k, z, h => by
    rw [List.range'_succ, List.map_cons, forGo]
    have hk : k < max x.cps.toList.length y.cps.toList.length := by simp [Str.length] at h ⊢; omega
    have ls := sg_len x.cps.toList y.cps.toList
    have st := signs_step x y ((sg x.cps.toList y.cps.toList).take k) k z hx hy (by rw [List.length_take]; omega)
    have g : gNm 3 (.int (k : Nat)) [some (.v (.str x)), some (.v (.str y)), some (.o (.list ((sg x.cps.toList y.cps.toList).take k))), z] = some [some (.v (.str x)), some (.v (.str y)), some (.o (.list ((sg x.cps.toList y.cps.toList).take k))), some (.v (.int k))] := rfl
    rw [g]
    dsimp only
    rw [st]
    dsimp only
    have e : (sg x.cps.toList y.cps.toList).take k ++ [.tuple [signD (x.cps.toList.getD k 45), signD (y.cps.toList.getD k 45)]] = (sg x.cps.toList y.cps.toList).take (k + 1) := by
      rw [List.take_succ, sg_get _ _ k hk]
      rfl
    rw [e]
    exact signs_loop x y hx hy n (k + 1) _ (by omega)
theorem v_signs {x y : Str} (hx : x.length ≤ 1000) (hy : y.length ≤ 1000) : G__law_signs [.str x, .str y] = .ok (.tuple (sg x.cps.toList y.cps.toList)) := by
  obtain ⟨ss, q, q2, q3, q4⟩ := signs_loop x y hx hy (max x.length y.length) 0 none (by omega)
  unfold G__law_signs m__law_signs
  have sx : x.length ≤ sizeLine := Nat.le_trans hx (by decide)
  have sy : y.length ≤ sizeLine := Nat.le_trans hy (by decide)
  have em : (if x.length < y.length then (y.length : Int) else x.length) = ((max x.length y.length : Nat) : Int) := by
    split <;> omega
  have er : rangeD 0 (max x.length y.length) = (List.range' 0 (max x.length y.length)).map fun i => .int (i : Nat) := by
    unfold rangeD
    rw [List.range_eq_range']
    refine List.map_congr_left fun i _ => ?_
    rw [Int.zero_add]
  have sm : small62 ((max x.length y.length : Nat) : Int) := by
    unfold small62
    omega
  generalize hn : max x.length y.length = n at em er sm q
  have r : mRng1 (mCons (mBu fMax2 (mConsB (mB (mBu fLen (mConsB (mBor 0) mNilB))) (mConsB (mB (mBu fLen (mConsB (mBor 1) mNilB))) mNilB))) mNil) [some (.v (.str x)), some (.v (.str y)), some (.o (.list [])), none] = .ok (rangeD 0 n) [some (.v (.str x)), some (.v (.str y)), some (.o (.list [])), none] := by
    simp [mRng1, mCons, mBu, mConsB, mB, mBor, mNilB, mNil, EO.bind, EO.lift, Opd.get, opsGet, fLen, sx, sy, fMax2]
    rw [em]
    simp [sm]
  have bd : (mAppend 2 (mTup (mCons (mIf (mCmp fLt (mBor 3) (mB (mBu fLen (mConsB (mBor 0) mNilB)))) (mBin fIx (mBor 0) (mBor 3)) (mC (.str "-"))) (mCons (mIf (mCmp fLt (mBor 3) (mB (mBu fLen (mConsB (mBor 1) mNilB)))) (mBin fIx (mBor 1) (mBor 3)) (mC (.str "-"))) mNil)))) = bodySigns := rfl
  rw [bd]
  have q : forGo (gNm 3) bodySigns (rangeD 0 n) [some (.v (.str x)), some (.v (.str y)), some (.o (.list [])), none] = .nx ss := by rw [er]; exact q
  generalize bodySigns = B at q
  generalize hR : mRng1 (mCons (mBu fMax2 (mConsB (mB (mBu fLen (mConsB (mBor 0) mNilB))) (mConsB (mB (mBu fLen (mConsB (mBor 1) mNilB))) mNilB))) mNil) = R at r ⊢
  simp [N__law_signs, outF, startS, mSeq, mSet, mOw, mLst, mNil, fit, EO.bind, EO.st, NV.sv, mFor, r, q, mRet, mBu, mConsB, mBor, mNilB, q2, Opd.get, opsGet, fTup, EO.lift, show 0 ≤ sizeLine by decide, show 1 ≤ sizeLine by decide, show 2 ≤ sizeLine by decide, show 3 ≤ sizeLine by decide, show 4 ≤ sizeLine by decide, show 5 ≤ sizeLine by decide, show 6 ≤ sizeLine by decide, show 7 ≤ sizeLine by decide, show 8 ≤ sizeLine by decide, show 9 ≤ sizeLine by decide, show 13 ≤ sizeLine by decide, show 17 ≤ sizeLine by decide, show 21 ≤ sizeLine by decide, show 26 ≤ sizeLine by decide]
section
variable {P : Program} {w : World} {K : PySem.W.Frag} {mg : Str → Option Value} {base : Heap}
theorem go__law_signs (T : Top K mg) : Go P w K mg base 1 "_law_signs" s__law_signs ["_law_x", "_law_y"] (spF K mg 2 G__law_signs) := go_pure T.d__law_signs sc__law_signs (by decide) rfl e__law_signs fun f cdv A outer s H E C =>
    (ss_cons (set1 C 2 (n_o (o_lst a_nil)))
    (ss_cons (s_for C (i_rng1 C (a_cons (v_bu C (u_max2 C) (bs_cons (b_val (v_bu C (u_len C) (bs_cons (bn 0) bs_nil) (by intro _; rfl) T.b_len (by decide +kernel))) (bs_cons (b_val (v_bu C (u_len C) (bs_cons (bn 1) bs_nil) (by intro _; rfl) T.b_len (by decide +kernel))) bs_nil)) (by intro _; rfl) T.b_max (by decide +kernel)) a_nil) (by intro _; rfl) T.b_range) (gn C 3) (ss_one (app1 C 2 (v_tup (a_cons (v_if (t_cmp (bn 3) (b_val (v_bu C (u_len C) (bs_cons (bn 0) bs_nil) (by intro _; rfl) T.b_len (by decide +kernel))) c_lt rfl) (v_ix C (bn 0) (bn 3)) v_str) (a_cons (v_if (t_cmp (bn 3) (b_val (v_bu C (u_len C) (bs_cons (bn 1) bs_nil) (by intro _; rfl) T.b_len (by decide +kernel))) c_lt rfl) (v_ix C (bn 1) (bn 3)) v_str) a_nil))))))
    (ss_one (s_ret (v_buT C (u_tuple C) (bs_cons (bn 2) bs_nil) (by intro _; rfl) T.b_tuple (by decide +kernel))))))
end

theorem sc__law_draw : FnScope ["_law_deck_here", "_law_below", "_law_blend", "_law_cell"] ["_law_deck_here", "_law_below"] (defScope s__law_draw) := ⟨rfl, rfl, rfl, by decide +kernel, rfl, by decide +kernel, by decide +kernel⟩
abbrev N__law_draw : List Str := ["_law_deck_here", "_law_below", "_law_blend", "_law_cell"]
def m__law_draw : SS → SO := (mSeq (mDkSet 0 (mBin gAdd (mB (mDkI 0 2)) (mB (mC (.int 1)))))
    (mSeq (mSet 2 (mFz (mBin gAdd (mB (mDkI 0 1)) (mB (mBin gMulA (mB (mBin gMulA (mB (mC (.int 72013))) (mB (mDkI 0 2)))) (mB (mDkI 0 2)))))))
    (mSeq (mIfS (mDkNe 0) (mSeq (mSet 3 (mFz (mDkPop 0)))
    (mSeq (mIfS (mCmp fGe (mBor 3) (mB (mBin gPow (mB (mC (.int 10))) (mB (mC (.int 18)))))) (mSeq (mDkApp 0 3 1)
    (mRet (mBin gMod (mB (mBu fInt1 (mConsB (mBor 3) mNilB))) (mBor 1)))) .nx)
    (mSet 2 (mFz (mBin gAdd (mBor 2) (mBor 3)))))) .nx)
    (mSeq (mSet 2 (mFz (mBin gMod (mB (mBin gMulA (mB (mBin gMod (mB (mBu fInt1 (mConsB (mBor 2) mNilB))) (mB (mC (.int 2147483587))))) (mB (mC (.int 48271))))) (mB (mC (.int 2147483647))))))
    (mSeq (mSet 2 (mFz (mBin gMod (mB (mBu fInt1 (mConsB (mB (mBin gAdd (mB (mBin gAdd (mB (mBin gMulA (mBor 2) (mBor 2))) (mB (mBin gMulA (mB (mC (.int 69621))) (mB (mDkI 0 2)))))) (mB (mC (.int 19))))) mNilB))) (mB (mC (.int 2147483549))))))
    (mRet (mBin gMod (mB (mBin gDiv (mB (mBin gMod (mB (mBu fInt1 (mConsB (mB (mBin gMulA (mBor 2) (mB (mC (.int 39373))))) mNilB))) (mB (mC (.int 2147483629))))) (mB (mC (.int 64))))) (mBor 1))))))))
theorem n__law_draw : NtS (m__law_draw) := by
  unfold m__law_draw
  repeat first | apply ns_Seq | apply ns_Ret | apply ns_If | apply ns_Set | apply ns_Par | apply ns_Append | apply ns_Asg | apply ns_For | apply ns_Drop | apply ns_DkSet | apply ns_DkApp | apply nts_nx | apply nts_bk | apply nts_ct | apply nts_rt | apply nt_Fz | apply nt_Ow | apply nt_C | apply nt_Var | apply nt_Bor | apply nt_B | apply nt_Nil | apply nt_Cons | apply nt_NilB | apply nt_ConsB | apply nt_Tup | apply nt_Lst | apply nt_Cmp | apply nt_Bl | apply nt_Chain | apply nt_toB | apply nt_Not | apply nt_And | apply nt_Or | apply nt_vAnd | apply nt_vOr | apply nt_vNot | apply nt_If | apply nt_Bin | apply nt_Neg | apply nt_ResK | apply nt_Res | apply nt_Bu | apply nt_Ou | apply nt_Isi | apply nt_Part0 | apply nt_Part | apply nt_Sl | apply nt_SlL | apply nt_Rev | apply nt_Dict0 | apply nt_M1 | apply nt_M0 | apply nt_Mn | apply nt_Draw | apply ng_Nm | apply ng_Nil | apply ng_Cons | apply ng_Tup | apply nt_Items | apply nt_Rng1 | apply nt_Rng2 | apply nt_Enum | apply nt_Zip | apply nt_Yes | apply nt_Lc | apply nt_DkI | apply nt_DkNe | apply nt_DkPop
def G__law_draw : Dk → List Dt → Res (Dt × Dk) := fun dk ds => outX (m__law_draw (startD 0 N__law_draw dk ds))
theorem e__law_draw (a : Addr) (dk : Dk) (ds : List Dt) (h : ds.length + 1 = 2) : outD a (m__law_draw (startD a N__law_draw dk ds)) = G__law_draw dk ds ∨ G__law_draw dk ds = .no := .inl (nt_deck n__law_draw)
section
variable {P : Program} {w : World} {K : PySem.W.Frag} {mg : Str → Option Value} {base : Heap}
theorem go__law_draw (T : Top K mg) : Go P w K mg base 1 "_law_draw" s__law_draw ["_law_deck_here", "_law_below"] (spD K 2 G__law_draw) := go_deck T.d__law_draw sc__law_draw (by decide) rfl e__law_draw fun f cdv A outer s H E C =>
    (ss_cons (s_dkSet C 0 (v_bin (b_val (v_dkI C 0 (by intro _; rfl) (by intro _; exact .inl rfl))) (b_val v_int) (s_add C)) (by intro _; rfl) (by intro _; exact .inl rfl))
    (ss_cons (set1 C 2 (n_v (v_bin (b_val (v_dkI C 0 (by intro _; rfl) (by intro _; exact .inl rfl))) (b_val (v_bin (b_val (v_bin (b_val v_int) (b_val (v_dkI C 0 (by intro _; rfl) (by intro _; exact .inl rfl))) (s_mulA C))) (b_val (v_dkI C 0 (by intro _; rfl) (by intro _; exact .inl rfl))) (s_mulA C))) (s_add C))))
    (ss_cons (s_if (t_dkNe C 0 (by intro _; rfl) (by intro _; exact .inl rfl)) (ss_cons (set1 C 3 (n_v (v_dkPop C 0 (by intro _; rfl) (by intro _; exact .inl rfl))))
    (ss_cons (s_if (t_cmp (bn 3) (b_val (v_bin (b_val v_int) (b_val v_int) s_pow)) c_ge rfl) (ss_cons (s_dkApp C 0 3 1 (by intro _; rfl) (by intro _; exact .inl rfl) (by intro _; rfl) (by intro _; exact .inl rfl) (by intro _; rfl) (by intro _; exact .inl rfl))
    (ss_one (s_ret (v_bin (b_val (v_buT C u_int1 (bs_cons (bn 3) bs_nil) (by intro _; rfl) T.b_int (by decide +kernel))) (bn 1) s_mod)))) ss_nil)
    (ss_one (set1 C 2 (n_v (v_bin (bn 2) (bn 3) (s_add C))))))) ss_nil)
    (ss_cons (set1 C 2 (n_v (v_bin (b_val (v_bin (b_val (v_bin (b_val (v_buT C u_int1 (bs_cons (bn 2) bs_nil) (by intro _; rfl) T.b_int (by decide +kernel))) (b_val v_int) s_mod)) (b_val v_int) (s_mulA C))) (b_val v_int) s_mod)))
    (ss_cons (set1 C 2 (n_v (v_bin (b_val (v_buT C u_int1 (bs_cons (b_val (v_bin (b_val (v_bin (b_val (v_bin (bn 2) (bn 2) (s_mulA C))) (b_val (v_bin (b_val v_int) (b_val (v_dkI C 0 (by intro _; rfl) (by intro _; exact .inl rfl))) (s_mulA C))) (s_add C))) (b_val v_int) (s_add C))) bs_nil) (by intro _; rfl) T.b_int (by decide +kernel))) (b_val v_int) s_mod)))
    (ss_one (s_ret (v_bin (b_val (v_bin (b_val (v_bin (b_val (v_buT C u_int1 (bs_cons (b_val (v_bin (bn 2) (b_val v_int) (s_mulA C))) bs_nil) (by intro _; rfl) T.b_int (by decide +kernel))) (b_val v_int) s_mod)) (b_val v_int) s_div)) (bn 1) s_mod))))))))
end

theorem sc__law_pick : FnScope ["_law_deck_here", "_law_some"] ["_law_deck_here", "_law_some"] (defScope s__law_pick) := ⟨rfl, rfl, rfl, by decide +kernel, rfl, by decide +kernel, by decide +kernel⟩
abbrev N__law_pick : List Str := ["_law_deck_here", "_law_some"]
def m__law_pick : SS → SO := (mRet (mBin fIx (mBor 1) (mB (mDraw 0 G__law_draw (mCons (mBu fLen (mConsB (mBor 1) mNilB)) mNil)))))
theorem n__law_pick : NtS (m__law_pick) := by
  unfold m__law_pick
  repeat first | apply ns_Seq | apply ns_Ret | apply ns_If | apply ns_Set | apply ns_Par | apply ns_Append | apply ns_Asg | apply ns_For | apply ns_Drop | apply ns_DkSet | apply ns_DkApp | apply nts_nx | apply nts_bk | apply nts_ct | apply nts_rt | apply nt_Fz | apply nt_Ow | apply nt_C | apply nt_Var | apply nt_Bor | apply nt_B | apply nt_Nil | apply nt_Cons | apply nt_NilB | apply nt_ConsB | apply nt_Tup | apply nt_Lst | apply nt_Cmp | apply nt_Bl | apply nt_Chain | apply nt_toB | apply nt_Not | apply nt_And | apply nt_Or | apply nt_vAnd | apply nt_vOr | apply nt_vNot | apply nt_If | apply nt_Bin | apply nt_Neg | apply nt_ResK | apply nt_Res | apply nt_Bu | apply nt_Ou | apply nt_Isi | apply nt_Part0 | apply nt_Part | apply nt_Sl | apply nt_SlL | apply nt_Rev | apply nt_Dict0 | apply nt_M1 | apply nt_M0 | apply nt_Mn | apply nt_Draw | apply ng_Nm | apply ng_Nil | apply ng_Cons | apply ng_Tup | apply nt_Items | apply nt_Rng1 | apply nt_Rng2 | apply nt_Enum | apply nt_Zip | apply nt_Yes | apply nt_Lc | apply nt_DkI | apply nt_DkNe | apply nt_DkPop
def G__law_pick : Dk → List Dt → Res (Dt × Dk) := fun dk ds => outX (m__law_pick (startD 0 N__law_pick dk ds))
theorem e__law_pick (a : Addr) (dk : Dk) (ds : List Dt) (h : ds.length + 1 = 2) : outD a (m__law_pick (startD a N__law_pick dk ds)) = G__law_pick dk ds ∨ G__law_pick dk ds = .no := .inl (nt_deck n__law_pick)
section
variable {P : Program} {w : World} {K : PySem.W.Frag} {mg : Str → Option Value} {base : Heap}
theorem go__law_pick (T : Top K mg) : Go P w K mg base 2 "_law_pick" s__law_pick ["_law_deck_here", "_law_some"] (spD K 2 G__law_pick) := go_deck T.d__law_pick sc__law_pick (by decide) rfl e__law_pick fun f cdv A outer s H E C =>
    (ss_one (s_ret (v_ix C (bn 1) (b_val (draw C 0 (go__law_draw T) (by first | decide | omega) (a_cons (v_bu C (u_len C) (bs_cons (bn 1) bs_nil) (by intro _; rfl) T.b_len (by decide +kernel)) a_nil) (fun ss ds ss' h => congrArg (· + 1) ((mCons_len mNil_len) ss ds ss' h)))))))
end

theorem sc__law_word : FnScope ["_law_deck_here", "_law_top", "_law_turn"] ["_law_deck_here", "_law_top"] (defScope s__law_word) := ⟨rfl, rfl, rfl, by decide +kernel, rfl, by decide +kernel, by decide +kernel⟩
def cs_58_19 : Scope := { kind := PySem.ScopeKind.function, names := [ (PySem.Str.ofString ".0", PySem.NameKind.local), (PySem.Str.ofString "_law_turn", PySem.NameKind.local), (PySem.Str.ofString "_law_pick", PySem.NameKind.globalImplicit), (PySem.Str.ofString "_law_deck_here", PySem.NameKind.free)], isGenerator := false, isCoroutine := false, more := [] : PySem.Scope }
theorem bo_58_19 : BlkOk ["_law_deck_here", "_law_top", "_law_turn"] (defScope s__law_word) cs_58_19 [("_law_turn", 2)] := ⟨rfl, by decide, by decide, by decide, by decide⟩
abbrev N__law_word : List Str := ["_law_deck_here", "_law_top", "_law_turn"]
def m__law_word : SS → SO := (mRet (mM1 fJoin (mB (mC (.str ""))) (mB (mLc (mRng1 (mCons (mDraw 0 G__law_draw (mCons (mBin gAdd (mBor 1) (mB (mC (.int 1)))) mNil)) mNil)) [2] (gNm 2) mYes (mDraw 0 G__law_pick (mCons (mC (.str "abz")) mNil))))))
theorem n__law_word : NtS (m__law_word) := by
  unfold m__law_word
  repeat first | apply ns_Seq | apply ns_Ret | apply ns_If | apply ns_Set | apply ns_Par | apply ns_Append | apply ns_Asg | apply ns_For | apply ns_Drop | apply ns_DkSet | apply ns_DkApp | apply nts_nx | apply nts_bk | apply nts_ct | apply nts_rt | apply nt_Fz | apply nt_Ow | apply nt_C | apply nt_Var | apply nt_Bor | apply nt_B | apply nt_Nil | apply nt_Cons | apply nt_NilB | apply nt_ConsB | apply nt_Tup | apply nt_Lst | apply nt_Cmp | apply nt_Bl | apply nt_Chain | apply nt_toB | apply nt_Not | apply nt_And | apply nt_Or | apply nt_vAnd | apply nt_vOr | apply nt_vNot | apply nt_If | apply nt_Bin | apply nt_Neg | apply nt_ResK | apply nt_Res | apply nt_Bu | apply nt_Ou | apply nt_Isi | apply nt_Part0 | apply nt_Part | apply nt_Sl | apply nt_SlL | apply nt_Rev | apply nt_Dict0 | apply nt_M1 | apply nt_M0 | apply nt_Mn | apply nt_Draw | apply ng_Nm | apply ng_Nil | apply ng_Cons | apply ng_Tup | apply nt_Items | apply nt_Rng1 | apply nt_Rng2 | apply nt_Enum | apply nt_Zip | apply nt_Yes | apply nt_Lc | apply nt_DkI | apply nt_DkNe | apply nt_DkPop
def G__law_word : Dk → List Dt → Res (Dt × Dk) := fun dk ds => outX (m__law_word (startD 0 N__law_word dk ds))
theorem e__law_word (a : Addr) (dk : Dk) (ds : List Dt) (h : ds.length + 1 = 2) : outD a (m__law_word (startD a N__law_word dk ds)) = G__law_word dk ds ∨ G__law_word dk ds = .no := .inl (nt_deck n__law_word)
section
variable {P : Program} {w : World} {K : PySem.W.Frag} {mg : Str → Option Value} {base : Heap}
theorem go__law_word (T : Top K mg) : Go P w K mg base 3 "_law_word" s__law_word ["_law_deck_here", "_law_top"] (spD K 2 G__law_word) := go_deck T.d__law_word sc__law_word (by decide) rfl e__law_word fun f cdv A outer s H E C =>
    (ss_one (s_ret (v_m1 F.slot_str_join F.type_str_join (u_join C) (b_val v_str) (b_val (v_new (o_lc C (fun _ => bo_58_19) (i_rng1 C (a_cons (draw C 0 (go__law_draw T) (by first | decide | omega) (a_cons (v_bin (bn 1) (b_val v_int) (s_add C)) a_nil) (fun ss ds ss' h => congrArg (· + 1) ((mCons_len mNil_len) ss ds ss' h))) a_nil) (by intro _; rfl) T.b_range) (gn (C.blk cs_58_19) 2) ts_nil (draw (C.blk cs_58_19) 0 (go__law_pick T) (by first | decide | omega) (a_cons v_str a_nil) (fun ss ds ss' h => congrArg (· + 1) ((mCons_len mNil_len) ss ds ss' h)))))))))
end

theorem sc_is_text : FnScope ["thing", "letter"] ["thing"] (defScope s_is_text) := ⟨rfl, rfl, rfl, by decide +kernel, rfl, by decide +kernel, by decide +kernel⟩
def cs_11_42 : Scope := { kind := PySem.ScopeKind.function, names := [ (PySem.Str.ofString ".0", PySem.NameKind.local), (PySem.Str.ofString "letter", PySem.NameKind.local), (PySem.Str.ofString "LETTERS", PySem.NameKind.globalImplicit)], isGenerator := false, isCoroutine := false, more := [] : PySem.Scope }
theorem bo_11_42 : BlkOk ["thing", "letter"] (defScope s_is_text) cs_11_42 [("letter", 1)] := ⟨rfl, by decide, by decide, by decide, by decide⟩
abbrev N_is_text : List Str := ["thing", "letter"]
def m_is_text : SS → SO := (mRet (vAnd (mIsi "str" (mBor 0)) (mBu fAll (mConsB (mB (mLc (mItems (mVar 0)) [1] (gNm 1) mYes (mBl (mCmp fIn (mBor 1) (mB (mC (.str "abcdefghijklmnopqrstuvwxyz"))))))) mNilB))))
def G_is_text : List Dt → Res Dt := fun ds => outF (m_is_text (startS N_is_text ds))
theorem e_is_text (ds : List Dt) (h : ds.length = 1) : outF (m_is_text (startS N_is_text ds)) = G_is_text ds ∨ G_is_text ds = .no := .inl rfl
theorem v_is_text {d : Dt} (ho : okT d = true) : G_is_text [d] = .ok (.bool (isTextD d)) := by
  unfold G_is_text
  cases d with
  | str z =>
    have hz : z.length ≤ sizeLine := okT_len ho
    have e := lcGo_pure (vs := [1]) (g := gNm 1) (mt := mYes) (me := mBl (mCmp fIn (mBor 1) (mB (mC (.str ABC))))) (s0 := [some (.v (.str z)), none]) (fun d => [some (.v (.str z)), some (.v d)]) (fun _ => true) (fun d => .bool (isLetterD d)) (signs z) [] (fun d _ => rfl) (fun d _ => rfl) (fun d hd _ => by
        obtain ⟨c, _, rfl⟩ := List.mem_map.mp hd
        rfl) (fun d _ => rfl) (by simpa [signs, Str.length] using hz)
    have e2 : boolsD ((signs z).map fun d => .bool (isLetterD d)) = some (z.cps.toList.map isL) := by
      unfold signs
      rw [List.map_map]
      exact boolsD_map isL z.cps.toList
    have e3 : (signs z).filter (fun _ => true) = signs z := by simp
    have e4 : fAll [.list ((signs z).map fun d => .bool (isLetterD d))] = some (.bool (z.cps.toList.all isL)) := by
      show (boolsD _).map (fun bs : List Bool => PyData.bool (bs.all id)) = _
      rw [e2]
      simp
    rw [e3, List.nil_append] at e
    simp [m_is_text, N_is_text, outF, startS, mRet, EO.st, vAnd, mIsi, mBor, EO.bind, EO.lift, Opd.get, isi_str, is_str, mBu, mConsB, mNilB, mB, mLc, mItems, mVar, itemsD, wipeS, opsGet, fAll, restS]
    unfold ABC at e
    rw [e]
    simp [EO.bind, opsGet, Opd.get, e4, isTextD, EO.lift, restS]
  | _ => simp [m_is_text, N_is_text, mC, mVar, mBor, mB, mNil, mCons, mNilB, mConsB, mTup, mLst, fit, mFz, mOw, NV.sv, mSeq, mRet, mIfS, mDrop, mSet, mPar, ownL, mAppend, gNm, gNilV, gConsV, gTupV, mAsg, signs, mItems, itemsD, mRng1, mRng2, mEnum, mZip, mFor, mLc, mYes, mIf, mAnd, mOr, mNot, toB, vAnd, vOr, vNot, mBl, mCmp, mChain, two, alt, mBin, mNeg, outF, startS, mRes, mResK, opsGet, mBu, mOu, alt1, mIsi, mPart, mPart0, mSl, mSlL, mRevL, mDict0, mM1, mM0, mMn, mTupZip, mRev, EO.bind, EO.lift, EO.st, Opd.get, EO.calm, wipeS, restS, isN, fIs, fIsNot, one1, two12, two21, isi_str, is_str, isTextD]
section
variable {P : Program} {w : World} {K : PySem.W.Frag} {mg : Str → Option Value} {base : Heap}
theorem go_is_text (T : Top K mg) : Go P w K mg base 1 "is_text" s_is_text ["thing"] (spF K mg 1 G_is_text) := go_pure T.d_is_text sc_is_text (by decide) rfl e_is_text fun f cdv A outer s H E C =>
    (ss_one (s_ret (v_and (v_isi C (bn 0) (by intro _; rfl) T.b_isinstance (by intro _; rfl) T.b_str (by decide +kernel)) (v_one (v_bu C (u_all C) (bs_cons (b_val (v_new (o_lc C (fun _ => bo_11_42) (i_sq C (nm 0)) (gn (C.blk cs_11_42) 1) ts_nil (v_cmp (bn 1) (b_val (gstr (C.blk cs_11_42) T.c_LETTERS)) (c_in (C.blk cs_11_42)) rfl)))) bs_nil) (by intro _; rfl) T.b_all (by decide +kernel))))))
end

theorem sc_side_after : FnScope ["side", "signs", "further", "left", "right"] ["side", "signs"] (defScope s_side_after) := ⟨rfl, rfl, rfl, by decide +kernel, rfl, by decide +kernel, by decide +kernel⟩
abbrev N_side_after : List Str := ["side", "signs", "further", "left", "right"]
def m_side_after : SS → SO := (mSeq (mAsg (gTupV 2 (gConsV (gNm 3) (gConsV (gNm 4) gNilV))) (mVar 1))
    (mSeq (mIfS (mAnd (mCmp fEqA (mBor 3) (mB (mC (.str "-")))) (mCmp fEqA (mBor 4) (mB (mC (.str "-"))))) (mRet (mC .none)) .nx)
    (mSeq (mSet 2 (mFz (mIf (mCmp fEqA (mBor 3) (mB (mC (.str "-")))) (mC (.str "right")) (mIf (mCmp fEqA (mBor 4) (mB (mC (.str "-")))) (mC (.str "left")) (mC (.str "both"))))))
    (mRet (mIf (mCmp fIn (mBor 0) (mB (mTup (mCons (mC (.str "both")) (mCons (mVar 2) mNil))))) (mVar 2) (mC .none))))))
def G_side_after : List Dt → Res Dt := fun ds => outF (m_side_after (startS N_side_after ds))
theorem e_side_after (ds : List Dt) (h : ds.length = 2) : outF (m_side_after (startS N_side_after ds)) = G_side_after ds ∨ G_side_after ds = .no := .inl rfl
theorem sign_tup (s : Str) (ds : List Dt) : fSign false (.str s) (.tuple ds) = none := by
  unfold fSign
  split
  · rename_i h
    cases h
  · rfl
theorem inV_two (s t : Str) : inV (.str s) [.str "both", .str t] = (decide (s = "both") || decide (s = t)) := by
  show ((("both" : Str) == s) || ((t == s) || false)) = _
  rw [beq_dec, beq_dec, Bool.or_false, decide_eq_decide.mpr (eq_comm (a := ("both" : Str)) (b := s)), decide_eq_decide.mpr (eq_comm (a := t) (b := s))]
theorem v_side {s a b : Str} (hs : PyData.strOk s = true) (ha : PyData.strOk a = true) (hb : PyData.strOk b = true) : G_side_after [.str s, .tuple [.str a, .str b]] = .ok (sideD s a b) := by
  unfold G_side_after
  have qa := eqA_str ha dash_ok
  have qb := eqA_str hb dash_ok
  have qi : ∀ f : Str, fIn (.str s) (.tuple [.str "both", .str f]) = some (decide (s = "both") || decide (s = f)) := fun f => by
    rw [← inV_two]
    unfold fIn alt
    rw [sign_tup]
    rfl
  by_cases h1 : a = "-"
  · subst h1
    by_cases h2 : b = "-"
    · subst h2
      simp [m_side_after, N_side_after, mC, mVar, mBor, mB, mNil, mCons, mNilB, mConsB, mTup, mLst, fit, mFz, mOw, NV.sv, mSeq, mRet, mIfS, mDrop, mSet, mPar, ownL, mAppend, gNm, gNilV, gConsV, gTupV, mAsg, signs, mItems, itemsD, mRng1, mRng2, mEnum, mZip, mFor, mLc, mYes, mIf, mAnd, mOr, mNot, toB, vAnd, vOr, vNot, mBl, mCmp, mChain, two, alt, mBin, mNeg, outF, startS, mRes, mResK, opsGet, mBu, mOu, alt1, mIsi, mPart, mPart0, mSl, mSlL, mRevL, mDict0, mM1, mM0, mMn, mTupZip, mRev, EO.bind, EO.lift, EO.st, Opd.get, EO.calm, wipeS, restS, isN, fIs, fIsNot, one1, two12, two21, qa, sideD]
    · by_cases h3 : s = "both" ∨ s = "right"
      · simp [m_side_after, N_side_after, mC, mVar, mBor, mB, mNil, mCons, mNilB, mConsB, mTup, mLst, fit, mFz, mOw, NV.sv, mSeq, mRet, mIfS, mDrop, mSet, mPar, ownL, mAppend, gNm, gNilV, gConsV, gTupV, mAsg, signs, mItems, itemsD, mRng1, mRng2, mEnum, mZip, mFor, mLc, mYes, mIf, mAnd, mOr, mNot, toB, vAnd, vOr, vNot, mBl, mCmp, mChain, two, alt, mBin, mNeg, outF, startS, mRes, mResK, opsGet, mBu, mOu, alt1, mIsi, mPart, mPart0, mSl, mSlL, mRevL, mDict0, mM1, mM0, mMn, mTupZip, mRev, EO.bind, EO.lift, EO.st, Opd.get, EO.calm, wipeS, restS, isN, fIs, fIsNot, one1, two12, two21, qa, qb, qi, h2, sideD, farD, h3, show 0 ≤ sizeLine by decide, show 1 ≤ sizeLine by decide, show 2 ≤ sizeLine by decide, show 3 ≤ sizeLine by decide, show 4 ≤ sizeLine by decide, show 5 ≤ sizeLine by decide, show 6 ≤ sizeLine by decide, show 7 ≤ sizeLine by decide, show 8 ≤ sizeLine by decide, show 9 ≤ sizeLine by decide, show 13 ≤ sizeLine by decide, show 17 ≤ sizeLine by decide, show 21 ≤ sizeLine by decide, show 26 ≤ sizeLine by decide]
      · simp [m_side_after, N_side_after, mC, mVar, mBor, mB, mNil, mCons, mNilB, mConsB, mTup, mLst, fit, mFz, mOw, NV.sv, mSeq, mRet, mIfS, mDrop, mSet, mPar, ownL, mAppend, gNm, gNilV, gConsV, gTupV, mAsg, signs, mItems, itemsD, mRng1, mRng2, mEnum, mZip, mFor, mLc, mYes, mIf, mAnd, mOr, mNot, toB, vAnd, vOr, vNot, mBl, mCmp, mChain, two, alt, mBin, mNeg, outF, startS, mRes, mResK, opsGet, mBu, mOu, alt1, mIsi, mPart, mPart0, mSl, mSlL, mRevL, mDict0, mM1, mM0, mMn, mTupZip, mRev, EO.bind, EO.lift, EO.st, Opd.get, EO.calm, wipeS, restS, isN, fIs, fIsNot, one1, two12, two21, qa, qb, qi, h2, sideD, farD, h3, show 0 ≤ sizeLine by decide, show 1 ≤ sizeLine by decide, show 2 ≤ sizeLine by decide, show 3 ≤ sizeLine by decide, show 4 ≤ sizeLine by decide, show 5 ≤ sizeLine by decide, show 6 ≤ sizeLine by decide, show 7 ≤ sizeLine by decide, show 8 ≤ sizeLine by decide, show 9 ≤ sizeLine by decide, show 13 ≤ sizeLine by decide, show 17 ≤ sizeLine by decide, show 21 ≤ sizeLine by decide, show 26 ≤ sizeLine by decide]
  · by_cases h2 : b = "-"
    · subst h2
      by_cases h3 : s = "both" ∨ s = "left"
      · simp [m_side_after, N_side_after, mC, mVar, mBor, mB, mNil, mCons, mNilB, mConsB, mTup, mLst, fit, mFz, mOw, NV.sv, mSeq, mRet, mIfS, mDrop, mSet, mPar, ownL, mAppend, gNm, gNilV, gConsV, gTupV, mAsg, signs, mItems, itemsD, mRng1, mRng2, mEnum, mZip, mFor, mLc, mYes, mIf, mAnd, mOr, mNot, toB, vAnd, vOr, vNot, mBl, mCmp, mChain, two, alt, mBin, mNeg, outF, startS, mRes, mResK, opsGet, mBu, mOu, alt1, mIsi, mPart, mPart0, mSl, mSlL, mRevL, mDict0, mM1, mM0, mMn, mTupZip, mRev, EO.bind, EO.lift, EO.st, Opd.get, EO.calm, wipeS, restS, isN, fIs, fIsNot, one1, two12, two21, qa, qb, qi, h1, sideD, farD, h3, show 0 ≤ sizeLine by decide, show 1 ≤ sizeLine by decide, show 2 ≤ sizeLine by decide, show 3 ≤ sizeLine by decide, show 4 ≤ sizeLine by decide, show 5 ≤ sizeLine by decide, show 6 ≤ sizeLine by decide, show 7 ≤ sizeLine by decide, show 8 ≤ sizeLine by decide, show 9 ≤ sizeLine by decide, show 13 ≤ sizeLine by decide, show 17 ≤ sizeLine by decide, show 21 ≤ sizeLine by decide, show 26 ≤ sizeLine by decide]
      · simp [m_side_after, N_side_after, mC, mVar, mBor, mB, mNil, mCons, mNilB, mConsB, mTup, mLst, fit, mFz, mOw, NV.sv, mSeq, mRet, mIfS, mDrop, mSet, mPar, ownL, mAppend, gNm, gNilV, gConsV, gTupV, mAsg, signs, mItems, itemsD, mRng1, mRng2, mEnum, mZip, mFor, mLc, mYes, mIf, mAnd, mOr, mNot, toB, vAnd, vOr, vNot, mBl, mCmp, mChain, two, alt, mBin, mNeg, outF, startS, mRes, mResK, opsGet, mBu, mOu, alt1, mIsi, mPart, mPart0, mSl, mSlL, mRevL, mDict0, mM1, mM0, mMn, mTupZip, mRev, EO.bind, EO.lift, EO.st, Opd.get, EO.calm, wipeS, restS, isN, fIs, fIsNot, one1, two12, two21, qa, qb, qi, h1, sideD, farD, h3, show 0 ≤ sizeLine by decide, show 1 ≤ sizeLine by decide, show 2 ≤ sizeLine by decide, show 3 ≤ sizeLine by decide, show 4 ≤ sizeLine by decide, show 5 ≤ sizeLine by decide, show 6 ≤ sizeLine by decide, show 7 ≤ sizeLine by decide, show 8 ≤ sizeLine by decide, show 9 ≤ sizeLine by decide, show 13 ≤ sizeLine by decide, show 17 ≤ sizeLine by decide, show 21 ≤ sizeLine by decide, show 26 ≤ sizeLine by decide]
    · by_cases h3 : s = "both"
      · subst h3
        simp [m_side_after, N_side_after, mC, mVar, mBor, mB, mNil, mCons, mNilB, mConsB, mTup, mLst, fit, mFz, mOw, NV.sv, mSeq, mRet, mIfS, mDrop, mSet, mPar, ownL, mAppend, gNm, gNilV, gConsV, gTupV, mAsg, signs, mItems, itemsD, mRng1, mRng2, mEnum, mZip, mFor, mLc, mYes, mIf, mAnd, mOr, mNot, toB, vAnd, vOr, vNot, mBl, mCmp, mChain, two, alt, mBin, mNeg, outF, startS, mRes, mResK, opsGet, mBu, mOu, alt1, mIsi, mPart, mPart0, mSl, mSlL, mRevL, mDict0, mM1, mM0, mMn, mTupZip, mRev, EO.bind, EO.lift, EO.st, Opd.get, EO.calm, wipeS, restS, isN, fIs, fIsNot, one1, two12, two21, qa, qb, qi, h1, h2, sideD, farD, show 0 ≤ sizeLine by decide, show 1 ≤ sizeLine by decide, show 2 ≤ sizeLine by decide, show 3 ≤ sizeLine by decide, show 4 ≤ sizeLine by decide, show 5 ≤ sizeLine by decide, show 6 ≤ sizeLine by decide, show 7 ≤ sizeLine by decide, show 8 ≤ sizeLine by decide, show 9 ≤ sizeLine by decide, show 13 ≤ sizeLine by decide, show 17 ≤ sizeLine by decide, show 21 ≤ sizeLine by decide, show 26 ≤ sizeLine by decide]
      · simp [m_side_after, N_side_after, mC, mVar, mBor, mB, mNil, mCons, mNilB, mConsB, mTup, mLst, fit, mFz, mOw, NV.sv, mSeq, mRet, mIfS, mDrop, mSet, mPar, ownL, mAppend, gNm, gNilV, gConsV, gTupV, mAsg, signs, mItems, itemsD, mRng1, mRng2, mEnum, mZip, mFor, mLc, mYes, mIf, mAnd, mOr, mNot, toB, vAnd, vOr, vNot, mBl, mCmp, mChain, two, alt, mBin, mNeg, outF, startS, mRes, mResK, opsGet, mBu, mOu, alt1, mIsi, mPart, mPart0, mSl, mSlL, mRevL, mDict0, mM1, mM0, mMn, mTupZip, mRev, EO.bind, EO.lift, EO.st, Opd.get, EO.calm, wipeS, restS, isN, fIs, fIsNot, one1, two12, two21, qa, qb, qi, h1, h2, sideD, farD, h3, show 0 ≤ sizeLine by decide, show 1 ≤ sizeLine by decide, show 2 ≤ sizeLine by decide, show 3 ≤ sizeLine by decide, show 4 ≤ sizeLine by decide, show 5 ≤ sizeLine by decide, show 6 ≤ sizeLine by decide, show 7 ≤ sizeLine by decide, show 8 ≤ sizeLine by decide, show 9 ≤ sizeLine by decide, show 13 ≤ sizeLine by decide, show 17 ≤ sizeLine by decide, show 21 ≤ sizeLine by decide, show 26 ≤ sizeLine by decide]
section
variable {P : Program} {w : World} {K : PySem.W.Frag} {mg : Str → Option Value} {base : Heap}
theorem go_side_after (T : Top K mg) : Go P w K mg base 1 "side_after" s_side_after ["side", "signs"] (spF K mg 2 G_side_after) := go_pure T.d_side_after sc_side_after (by decide) rfl e_side_after fun f cdv A outer s H E C =>
    (ss_cons (s_asg (g_tup C (gs_cons (gn C 3) (gs_cons (gn C 4) gs_nil))) (nm 1))
    (ss_cons (s_if (t_w (w_and (t_cmp (bn 3) (b_val (gstr C T.c_FILL)) (c_eqA C) rfl) (w_and1 (t_cmp (bn 4) (b_val (gstr C T.c_FILL)) (c_eqA C) rfl)))) (ss_one (s_ret v_non)) ss_nil)
    (ss_cons (set1 C 2 (n_v (v_if (t_cmp (bn 3) (b_val (gstr C T.c_FILL)) (c_eqA C) rfl) (gstr C T.c_RIGHT) (v_if (t_cmp (bn 4) (b_val (gstr C T.c_FILL)) (c_eqA C) rfl) (gstr C T.c_LEFT) (gstr C T.c_BOTH)))))
    (ss_one (s_ret (v_if (t_cmp (bn 0) (b_val (v_tup (a_cons (gstr C T.c_BOTH) (a_cons (nm 2) a_nil)))) (c_in C) rfl) (nm 2) v_non))))))
end

theorem sc_is_letter : FnScope ["thing"] ["thing"] (defScope s_is_letter) := ⟨rfl, rfl, rfl, by decide +kernel, rfl, by decide +kernel, by decide +kernel⟩
abbrev N_is_letter : List Str := ["thing"]
def m_is_letter : SS → SO := (mRet (vAnd (mIsi "str" (mBor 0)) (vAnd (mBl (mCmp fEqA (mB (mBu fLen (mConsB (mBor 0) mNilB))) (mB (mC (.int 1))))) (mBl (mCmp fIn (mBor 0) (mB (mC (.str "abcdefghijklmnopqrstuvwxyz"))))))))
def G_is_letter : List Dt → Res Dt := fun ds => outF (m_is_letter (startS N_is_letter ds))
theorem e_is_letter (ds : List Dt) (h : ds.length = 1) : outF (m_is_letter (startS N_is_letter ds)) = G_is_letter ds ∨ G_is_letter ds = .no := .inl rfl
theorem v_is_letter {d : Dt} (ho : okT d = true) : G_is_letter [d] = .ok (.bool (isLetterD d)) := by
  unfold G_is_letter
  cases d with
  | str z =>
    obtain ⟨⟨l⟩⟩ := z
    have hz : (⟨⟨l⟩⟩ : Str).length ≤ sizeLine := okT_len ho
    match l, hz with
    | [], hz =>
      have hl : (⟨⟨[]⟩⟩ : Str).length = 0 := rfl
      simp [m_is_letter, N_is_letter, mC, mVar, mBor, mB, mNil, mCons, mNilB, mConsB, mTup, mLst, fit, mFz, mOw, NV.sv, mSeq, mRet, mIfS, mDrop, mSet, mPar, ownL, mAppend, gNm, gNilV, gConsV, gTupV, mAsg, signs, mItems, itemsD, mRng1, mRng2, mEnum, mZip, mFor, mLc, mYes, mIf, mAnd, mOr, mNot, toB, vAnd, vOr, vNot, mBl, mCmp, mChain, two, alt, mBin, mNeg, outF, startS, mRes, mResK, opsGet, mBu, mOu, alt1, mIsi, mPart, mPart0, mSl, mSlL, mRevL, mDict0, mM1, mM0, mMn, mTupZip, mRev, EO.bind, EO.lift, EO.st, Opd.get, EO.calm, wipeS, restS, isN, fIs, fIsNot, one1, two12, two21, isi_str, is_str, fLen, eqA_int, fIn_sign, isLetterD, hz, hl, show 1 ≤ sizeLine by decide, show 0 ≤ sizeLine by decide, isL, ABC]
    | [c], hz =>
      have hl : (⟨⟨[c]⟩⟩ : Str).length = 1 := rfl
      simp [m_is_letter, N_is_letter, mC, mVar, mBor, mB, mNil, mCons, mNilB, mConsB, mTup, mLst, fit, mFz, mOw, NV.sv, mSeq, mRet, mIfS, mDrop, mSet, mPar, ownL, mAppend, gNm, gNilV, gConsV, gTupV, mAsg, signs, mItems, itemsD, mRng1, mRng2, mEnum, mZip, mFor, mLc, mYes, mIf, mAnd, mOr, mNot, toB, vAnd, vOr, vNot, mBl, mCmp, mChain, two, alt, mBin, mNeg, outF, startS, mRes, mResK, opsGet, mBu, mOu, alt1, mIsi, mPart, mPart0, mSl, mSlL, mRevL, mDict0, mM1, mM0, mMn, mTupZip, mRev, EO.bind, EO.lift, EO.st, Opd.get, EO.calm, wipeS, restS, isN, fIs, fIsNot, one1, two12, two21, isi_str, is_str, fLen, eqA_int, fIn_sign, isLetterD, hz, hl, show 1 ≤ sizeLine by decide, show 0 ≤ sizeLine by decide, isL, ABC]
    | c :: c2 :: l, hz =>
      have hl : ¬ (((⟨⟨c :: c2 :: l⟩⟩ : Str).length : Int) = 1) := by
        show ¬ (((l.length + 1 + 1 : Nat) : Int) = 1)
        omega
      simp [m_is_letter, N_is_letter, mC, mVar, mBor, mB, mNil, mCons, mNilB, mConsB, mTup, mLst, fit, mFz, mOw, NV.sv, mSeq, mRet, mIfS, mDrop, mSet, mPar, ownL, mAppend, gNm, gNilV, gConsV, gTupV, mAsg, signs, mItems, itemsD, mRng1, mRng2, mEnum, mZip, mFor, mLc, mYes, mIf, mAnd, mOr, mNot, toB, vAnd, vOr, vNot, mBl, mCmp, mChain, two, alt, mBin, mNeg, outF, startS, mRes, mResK, opsGet, mBu, mOu, alt1, mIsi, mPart, mPart0, mSl, mSlL, mRevL, mDict0, mM1, mM0, mMn, mTupZip, mRev, EO.bind, EO.lift, EO.st, Opd.get, EO.calm, wipeS, restS, isN, fIs, fIsNot, one1, two12, two21, isi_str, is_str, fLen, eqA_int, fIn_sign, isLetterD, hz, hl, show 1 ≤ sizeLine by decide, show 0 ≤ sizeLine by decide, isL, ABC]
  | _ => simp [m_is_letter, N_is_letter, mC, mVar, mBor, mB, mNil, mCons, mNilB, mConsB, mTup, mLst, fit, mFz, mOw, NV.sv, mSeq, mRet, mIfS, mDrop, mSet, mPar, ownL, mAppend, gNm, gNilV, gConsV, gTupV, mAsg, signs, mItems, itemsD, mRng1, mRng2, mEnum, mZip, mFor, mLc, mYes, mIf, mAnd, mOr, mNot, toB, vAnd, vOr, vNot, mBl, mCmp, mChain, two, alt, mBin, mNeg, outF, startS, mRes, mResK, opsGet, mBu, mOu, alt1, mIsi, mPart, mPart0, mSl, mSlL, mRevL, mDict0, mM1, mM0, mMn, mTupZip, mRev, EO.bind, EO.lift, EO.st, Opd.get, EO.calm, wipeS, restS, isN, fIs, fIsNot, one1, two12, two21, isi_str, is_str, isLetterD]
section
variable {P : Program} {w : World} {K : PySem.W.Frag} {mg : Str → Option Value} {base : Heap}
theorem go_is_letter (T : Top K mg) : Go P w K mg base 1 "is_letter" s_is_letter ["thing"] (spF K mg 1 G_is_letter) := go_pure T.d_is_letter sc_is_letter (by decide) rfl e_is_letter fun f cdv A outer s H E C =>
    (ss_one (s_ret (v_and (v_isi C (bn 0) (by intro _; rfl) T.b_isinstance (by intro _; rfl) T.b_str (by decide +kernel)) (v_and (v_cmp (b_val (v_bu C (u_len C) (bs_cons (bn 0) bs_nil) (by intro _; rfl) T.b_len (by decide +kernel))) (b_val v_int) (c_eqA C) rfl) (v_one (v_cmp (bn 0) (b_val (gstr C T.c_LETTERS)) (c_in C) rfl))))))
end

theorem sc_is_sign : FnScope ["thing"] ["thing"] (defScope s_is_sign) := ⟨rfl, rfl, rfl, by decide +kernel, rfl, by decide +kernel, by decide +kernel⟩
abbrev N_is_sign : List Str := ["thing"]
def m_is_sign : SS → SO := (mRet (vOr (mRes G_is_letter (mCons (mVar 0) mNil)) (vAnd (mIsi "str" (mBor 0)) (mBl (mCmp fEqA (mBor 0) (mB (mC (.str "-"))))))))
def G_is_sign : List Dt → Res Dt := fun ds => outF (m_is_sign (startS N_is_sign ds))
theorem e_is_sign (ds : List Dt) (h : ds.length = 1) : outF (m_is_sign (startS N_is_sign ds)) = G_is_sign ds ∨ G_is_sign ds = .no := .inl rfl
theorem v_is_sign {d : Dt} (ho : okT d = true) : G_is_sign [d] = .ok (.bool (isSignD d)) := by
  unfold G_is_sign
  have e := v_is_letter ho
  cases d with
  | str z =>
    have q := eqA_str (okT_ok ho) dash_ok
    cases hL : isLetterD (.str z) with
    | true => simp [m_is_sign, N_is_sign, mC, mVar, mBor, mB, mNil, mCons, mNilB, mConsB, mTup, mLst, fit, mFz, mOw, NV.sv, mSeq, mRet, mIfS, mDrop, mSet, mPar, ownL, mAppend, gNm, gNilV, gConsV, gTupV, mAsg, signs, mItems, itemsD, mRng1, mRng2, mEnum, mZip, mFor, mLc, mYes, mIf, mAnd, mOr, mNot, toB, vAnd, vOr, vNot, mBl, mCmp, mChain, two, alt, mBin, mNeg, outF, startS, mRes, mResK, opsGet, mBu, mOu, alt1, mIsi, mPart, mPart0, mSl, mSlL, mRevL, mDict0, mM1, mM0, mMn, mTupZip, mRev, EO.bind, EO.lift, EO.st, Opd.get, EO.calm, wipeS, restS, isN, fIs, fIsNot, one1, two12, two21, isi_str, is_str, e, hL, isSignD]
    | false => simp [m_is_sign, N_is_sign, mC, mVar, mBor, mB, mNil, mCons, mNilB, mConsB, mTup, mLst, fit, mFz, mOw, NV.sv, mSeq, mRet, mIfS, mDrop, mSet, mPar, ownL, mAppend, gNm, gNilV, gConsV, gTupV, mAsg, signs, mItems, itemsD, mRng1, mRng2, mEnum, mZip, mFor, mLc, mYes, mIf, mAnd, mOr, mNot, toB, vAnd, vOr, vNot, mBl, mCmp, mChain, two, alt, mBin, mNeg, outF, startS, mRes, mResK, opsGet, mBu, mOu, alt1, mIsi, mPart, mPart0, mSl, mSlL, mRevL, mDict0, mM1, mM0, mMn, mTupZip, mRev, EO.bind, EO.lift, EO.st, Opd.get, EO.calm, wipeS, restS, isN, fIs, fIsNot, one1, two12, two21, isi_str, is_str, e, hL, isSignD, q]
  | _ => simp [m_is_sign, N_is_sign, mC, mVar, mBor, mB, mNil, mCons, mNilB, mConsB, mTup, mLst, fit, mFz, mOw, NV.sv, mSeq, mRet, mIfS, mDrop, mSet, mPar, ownL, mAppend, gNm, gNilV, gConsV, gTupV, mAsg, signs, mItems, itemsD, mRng1, mRng2, mEnum, mZip, mFor, mLc, mYes, mIf, mAnd, mOr, mNot, toB, vAnd, vOr, vNot, mBl, mCmp, mChain, two, alt, mBin, mNeg, outF, startS, mRes, mResK, opsGet, mBu, mOu, alt1, mIsi, mPart, mPart0, mSl, mSlL, mRevL, mDict0, mM1, mM0, mMn, mTupZip, mRev, EO.bind, EO.lift, EO.st, Opd.get, EO.calm, wipeS, restS, isN, fIs, fIsNot, one1, two12, two21, isi_str, is_str, e, isSignD, isLetterD]
section
variable {P : Program} {w : World} {K : PySem.W.Frag} {mg : Str → Option Value} {base : Heap}
theorem go_is_sign (T : Top K mg) : Go P w K mg base 2 "is_sign" s_is_sign ["thing"] (spF K mg 1 G_is_sign) := go_pure T.d_is_sign sc_is_sign (by decide) rfl e_is_sign fun f cdv A outer s H E C =>
    (ss_one (s_ret (v_or (call C (go_is_letter T) (by first | decide | omega) rfl (a_cons (nm 0) a_nil) (mCons_len mNil_len)) (v_one (v_and (v_isi C (bn 0) (by intro _; rfl) T.b_isinstance (by intro _; rfl) T.b_str (by decide +kernel)) (v_one (v_cmp (bn 0) (b_val (gstr C T.c_FILL)) (c_eqA C) rfl)))))))
end

theorem sc_is_pair_of_signs : FnScope ["thing"] ["thing"] (defScope s_is_pair_of_signs) := ⟨rfl, rfl, rfl, by decide +kernel, rfl, by decide +kernel, by decide +kernel⟩
abbrev N_is_pair_of_signs : List Str := ["thing"]
def m_is_pair_of_signs : SS → SO := (mRet (vAnd (mIsi "tuple" (mBor 0)) (vAnd (mBl (mCmp fEqA (mB (mBu fLen (mConsB (mBor 0) mNilB))) (mB (mC (.int 2))))) (vAnd (mRes G_is_sign (mCons (mBin fIx (mBor 0) (mB (mC (.int 0)))) mNil)) (mRes G_is_sign (mCons (mBin fIx (mBor 0) (mB (mC (.int 1)))) mNil))))))
def G_is_pair_of_signs : List Dt → Res Dt := fun ds => outF (m_is_pair_of_signs (startS N_is_pair_of_signs ds))
theorem e_is_pair_of_signs (ds : List Dt) (h : ds.length = 1) : outF (m_is_pair_of_signs (startS N_is_pair_of_signs ds)) = G_is_pair_of_signs ds ∨ G_is_pair_of_signs ds = .no := .inl rfl
theorem v_is_pair {d : Dt} (ho : okP d = true) : G_is_pair_of_signs [d] = .ok (.bool (isPairD d)) := by
  unfold G_is_pair_of_signs
  cases d with
  | tuple l =>
    match l, ho with
    | [], _ => simp [m_is_pair_of_signs, N_is_pair_of_signs, mC, mVar, mBor, mB, mNil, mCons, mNilB, mConsB, mTup, mLst, fit, mFz, mOw, NV.sv, mSeq, mRet, mIfS, mDrop, mSet, mPar, ownL, mAppend, gNm, gNilV, gConsV, gTupV, mAsg, signs, mItems, itemsD, mRng1, mRng2, mEnum, mZip, mFor, mLc, mYes, mIf, mAnd, mOr, mNot, toB, vAnd, vOr, vNot, mBl, mCmp, mChain, two, alt, mBin, mNeg, outF, startS, mRes, mResK, opsGet, mBu, mOu, alt1, mIsi, mPart, mPart0, mSl, mSlL, mRevL, mDict0, mM1, mM0, mMn, mTupZip, mRev, EO.bind, EO.lift, EO.st, Opd.get, EO.calm, wipeS, restS, isN, fIs, fIsNot, one1, two12, two21, isi_tuple, is_tuple, fLen, eqA_int, isPairD]
    | [a], _ => simp [m_is_pair_of_signs, N_is_pair_of_signs, mC, mVar, mBor, mB, mNil, mCons, mNilB, mConsB, mTup, mLst, fit, mFz, mOw, NV.sv, mSeq, mRet, mIfS, mDrop, mSet, mPar, ownL, mAppend, gNm, gNilV, gConsV, gTupV, mAsg, signs, mItems, itemsD, mRng1, mRng2, mEnum, mZip, mFor, mLc, mYes, mIf, mAnd, mOr, mNot, toB, vAnd, vOr, vNot, mBl, mCmp, mChain, two, alt, mBin, mNeg, outF, startS, mRes, mResK, opsGet, mBu, mOu, alt1, mIsi, mPart, mPart0, mSl, mSlL, mRevL, mDict0, mM1, mM0, mMn, mTupZip, mRev, EO.bind, EO.lift, EO.st, Opd.get, EO.calm, wipeS, restS, isN, fIs, fIsNot, one1, two12, two21, isi_tuple, is_tuple, fLen, eqA_int, isPairD]
    | [a, b], ho =>
      have ho : okT a = true ∧ okT b = true := by simpa [okP] using ho
      have ea := v_is_sign ho.1
      have eb := v_is_sign ho.2
      have i0 : fIx (.tuple [a, b]) (.int 0) = some a := rfl
      have i1 : fIx (.tuple [a, b]) (.int 1) = some b := rfl
      cases ha : isSignD a with
      | true => simp [m_is_pair_of_signs, N_is_pair_of_signs, mC, mVar, mBor, mB, mNil, mCons, mNilB, mConsB, mTup, mLst, fit, mFz, mOw, NV.sv, mSeq, mRet, mIfS, mDrop, mSet, mPar, ownL, mAppend, gNm, gNilV, gConsV, gTupV, mAsg, signs, mItems, itemsD, mRng1, mRng2, mEnum, mZip, mFor, mLc, mYes, mIf, mAnd, mOr, mNot, toB, vAnd, vOr, vNot, mBl, mCmp, mChain, two, alt, mBin, mNeg, outF, startS, mRes, mResK, opsGet, mBu, mOu, alt1, mIsi, mPart, mPart0, mSl, mSlL, mRevL, mDict0, mM1, mM0, mMn, mTupZip, mRev, EO.bind, EO.lift, EO.st, Opd.get, EO.calm, wipeS, restS, isN, fIs, fIsNot, one1, two12, two21, isi_tuple, is_tuple, fLen, eqA_int, isPairD, i0, i1, ea, eb, ha]
      | false => simp [m_is_pair_of_signs, N_is_pair_of_signs, mC, mVar, mBor, mB, mNil, mCons, mNilB, mConsB, mTup, mLst, fit, mFz, mOw, NV.sv, mSeq, mRet, mIfS, mDrop, mSet, mPar, ownL, mAppend, gNm, gNilV, gConsV, gTupV, mAsg, signs, mItems, itemsD, mRng1, mRng2, mEnum, mZip, mFor, mLc, mYes, mIf, mAnd, mOr, mNot, toB, vAnd, vOr, vNot, mBl, mCmp, mChain, two, alt, mBin, mNeg, outF, startS, mRes, mResK, opsGet, mBu, mOu, alt1, mIsi, mPart, mPart0, mSl, mSlL, mRevL, mDict0, mM1, mM0, mMn, mTupZip, mRev, EO.bind, EO.lift, EO.st, Opd.get, EO.calm, wipeS, restS, isN, fIs, fIsNot, one1, two12, two21, isi_tuple, is_tuple, fLen, eqA_int, isPairD, i0, i1, ea, eb, ha]
    | a :: b :: c :: l, _ =>
      have hl : ¬ (((a :: b :: c :: l).length : Int) = 2) := by
        show ¬ (((l.length + 1 + 1 + 1 : Nat) : Int) = 2)
        omega
      have hd : decide (((a :: b :: c :: l).length : Int) = 2) = false := decide_eq_false hl
      have q : fEqA (.int ((a :: b :: c :: l).length : Int)) (.int 2) = some false := by rw [eqA_int, hd]
      simp only [m_is_pair_of_signs, N_is_pair_of_signs, mC, mVar, mBor, mB, mNil, mCons, mNilB, mConsB, mTup, mLst, fit, mFz, mOw, NV.sv, mSeq, mRet, mIfS, mDrop, mSet, mPar, ownL, mAppend, gNm, gNilV, gConsV, gTupV, mAsg, signs, mItems, itemsD, mRng1, mRng2, mEnum, mZip, mFor, mLc, mYes, mIf, mAnd, mOr, mNot, toB, vAnd, vOr, vNot, mBl, mCmp, mChain, two, alt, mBin, mNeg, outF, startS, mRes, mResK, opsGet, mBu, mOu, alt1, mIsi, mPart, mPart0, mSl, mSlL, mRevL, mDict0, mM1, mM0, mMn, mTupZip, mRev, EO.bind, EO.lift, EO.st, Opd.get, EO.calm, wipeS, restS, isN, fIs, fIsNot, one1, two12, two21, isi_tuple, is_tuple, fLen, q, isPairD, List.length_singleton, List.map_cons, List.map_nil, List.length_cons, List.length_nil, List.getElem?_cons_zero, List.replicate, List.cons_append, List.nil_append, Option.bind, Option.map]
      rfl
  | _ => simp [m_is_pair_of_signs, N_is_pair_of_signs, mC, mVar, mBor, mB, mNil, mCons, mNilB, mConsB, mTup, mLst, fit, mFz, mOw, NV.sv, mSeq, mRet, mIfS, mDrop, mSet, mPar, ownL, mAppend, gNm, gNilV, gConsV, gTupV, mAsg, signs, mItems, itemsD, mRng1, mRng2, mEnum, mZip, mFor, mLc, mYes, mIf, mAnd, mOr, mNot, toB, vAnd, vOr, vNot, mBl, mCmp, mChain, two, alt, mBin, mNeg, outF, startS, mRes, mResK, opsGet, mBu, mOu, alt1, mIsi, mPart, mPart0, mSl, mSlL, mRevL, mDict0, mM1, mM0, mMn, mTupZip, mRev, EO.bind, EO.lift, EO.st, Opd.get, EO.calm, wipeS, restS, isN, fIs, fIsNot, one1, two12, two21, isi_tuple, is_tuple, isPairD]
section
variable {P : Program} {w : World} {K : PySem.W.Frag} {mg : Str → Option Value} {base : Heap}
theorem go_is_pair_of_signs (T : Top K mg) : Go P w K mg base 3 "is_pair_of_signs" s_is_pair_of_signs ["thing"] (spF K mg 1 G_is_pair_of_signs) := go_pure T.d_is_pair_of_signs sc_is_pair_of_signs (by decide) rfl e_is_pair_of_signs fun f cdv A outer s H E C =>
    (ss_one (s_ret (v_and (v_isi C (bn 0) (by intro _; rfl) T.b_isinstance (by intro _; rfl) T.b_tuple (by decide +kernel)) (v_and (v_cmp (b_val (v_bu C (u_len C) (bs_cons (bn 0) bs_nil) (by intro _; rfl) T.b_len (by decide +kernel))) (b_val (gint C T.c_PAIR)) (c_eqA C) rfl) (v_and (call C (go_is_sign T) (by first | decide | omega) rfl (a_cons (v_ix C (bn 0) (b_val v_int)) a_nil) (mCons_len mNil_len)) (v_one (call C (go_is_sign T) (by first | decide | omega) rfl (a_cons (v_ix C (bn 0) (b_val v_int)) a_nil) (mCons_len mNil_len))))))))
end

theorem sc_is_row : FnScope ["thing", "side", "signs"] ["thing"] (defScope s_is_row) := ⟨rfl, rfl, rfl, by decide +kernel, rfl, by decide +kernel, by decide +kernel⟩
def cs_26_47 : Scope := { kind := PySem.ScopeKind.function, names := [ (PySem.Str.ofString ".0", PySem.NameKind.local), (PySem.Str.ofString "signs", PySem.NameKind.local), (PySem.Str.ofString "is_pair_of_signs", PySem.NameKind.globalImplicit)], isGenerator := false, isCoroutine := false, more := [] : PySem.Scope }
theorem bo_26_47 : BlkOk ["thing", "side", "signs"] (defScope s_is_row) cs_26_47 [("signs", 2)] := ⟨rfl, by decide, by decide, by decide, by decide⟩
abbrev N_is_row : List Str := ["thing", "side", "signs"]
def m_is_row : SS → SO := (mSeq (mIfS (mOr (mNot (toB (mIsi "tuple" (mBor 0)))) (mNot (toB (mBu fAll (mConsB (mB (mLc (mItems (mVar 0)) [2] (gNm 2) mYes (mRes G_is_pair_of_signs (mCons (mVar 2) mNil)))) mNilB))))) (mRet (mC (.bool false))) .nx)
    (mSeq (mSet 1 (mFz (mC (.str "both"))))
    (mSeq (mFor (mItems (mVar 0)) (gNm 2) (mSeq (mSet 1 (mFz (mRes G_side_after (mCons (mVar 1) (mCons (mVar 2) mNil)))))
    (mIfS (mCmp fIs (mBor 1) (mB (mC .none))) (mRet (mC (.bool false))) .nx)))
    (mRet (mC (.bool true))))))
def G_is_row : List Dt → Res Dt := fun ds => outF (m_is_row (startS N_is_row ds))
theorem e_is_row (ds : List Dt) (h : ds.length = 1) : outF (m_is_row (startS N_is_row ds)) = G_is_row ds ∨ G_is_row ds = .no := .inl rfl
theorem row_loop : ∀ (ds : List Dt) (d0 : Dt) (s : Str) (y : Option SV), ds.all isPairD = true → ds.all okP = true → PyData.strOk s = true →
    (rowGo s ds = true → ∃ ss, forGo (gNm 2) (mSeq (mSet 1 (mFz (mRes G_side_after (mCons (mVar 1) (mCons (mVar 2) mNil))))) (mIfS (mCmp fIs (mBor 1) (mB (mC .none))) (mRet (mC (.bool false))) .nx)) ds [some (.v d0), some (.v (.str s)), y] = .nx ss) ∧
    (rowGo s ds = false → ∃ ss, forGo (gNm 2) (mSeq (mSet 1 (mFz (mRes G_side_after (mCons (mVar 1) (mCons (mVar 2) mNil))))) (mIfS (mCmp fIs (mBor 1) (mB (mC .none))) (mRet (mC (.bool false))) .nx)) ds [some (.v d0), some (.v (.str s)), y] = .rt (.bool false) ss)
  | [], d0, s, y, _, _, _ => ⟨fun _ => ⟨_, rfl⟩, fun h => by simp [rowGo] at h⟩
  | d :: ds, d0, s, y, h1, h2, h3 => by
    have h1 : isPairD d = true ∧ ds.all isPairD = true := by simpa using h1
    have h2 : okP d = true ∧ ds.all okP = true := by simpa using h2
    obtain ⟨a, b, rfl, _, _⟩ := pair_of_is h1.1
    have ok : okT (.str a) = true ∧ okT (.str b) = true := by simpa [okP] using h2.1
    have e := v_side h3 (okT_ok ok.1) (okT_ok ok.2)
    cases hs : sideD s a b with
    | str f =>
      have hf : PyData.strOk f = true := by
        unfold sideD at hs
        split at hs
        · cases hs
        · split at hs
          · cases hs
            exact far_ok a b
          · cases hs
      have ih := row_loop ds d0 f (some (.v (.tuple [.str a, .str b]))) h1.2 h2.2 hf
      have g : rowGo s (.tuple [.str a, .str b] :: ds) = rowGo f ds := by simp [rowGo, hs]
      rw [g, forGo]
      simp only [gNm, List.length_cons, List.length_nil, Nat.lt_irrefl, Nat.reduceAdd, Nat.reduceLT, if_true, List.set]
      simp only [mSeq, mSet, mFz, mRes, mCons, mVar, mNil, EO.bind, EO.st, List.getElem?_cons_zero, List.getElem?_cons_succ, e, hs, List.length_cons, List.length_nil, Nat.reduceAdd, Nat.reduceLT, if_true, List.set, NV.sv, mIfS, mCmp, mBor, mB, mC, two, Opd.get, fIs, isN, EO.lift, Bool.false_eq_true, if_false]
      exact ih
    | none =>
      have g : rowGo s (.tuple [.str a, .str b] :: ds) = false := by simp [rowGo, hs]
      rw [g, forGo]
      simp only [gNm, List.length_cons, List.length_nil, Nat.lt_irrefl, Nat.reduceAdd, Nat.reduceLT, if_true, List.set]
      simp only [mSeq, mSet, mFz, mRes, mCons, mVar, mNil, EO.bind, EO.st, List.getElem?_cons_zero, List.getElem?_cons_succ, e, hs, List.length_cons, List.length_nil, Nat.reduceAdd, Nat.reduceLT, if_true, List.set, NV.sv, mIfS, mCmp, mBor, mB, mC, two, Opd.get, fIs, isN, EO.lift, Bool.false_eq_true, if_false, mRet]
      exact ⟨fun z => (nomatch z), fun _ => ⟨_, rfl⟩⟩
    | _ =>
      exfalso
      unfold sideD at hs
      split at hs
      · cases hs
      · split at hs <;> cases hs
theorem v_is_row {d : Dt} (ho : okR d = true) : G_is_row [d] = .ok (.bool (rowD d)) := by
  unfold G_is_row
  cases d with
  | tuple ds =>
    have ho : ds.all okP = true ∧ ds.length ≤ 1000 := by simpa [okR] using ho
    have hl : ds.length ≤ sizeLine := Nat.le_trans ho.2 (by decide)
    have e := lcGo_pure (vs := [2]) (g := gNm 2) (mt := mYes) (me := mRes G_is_pair_of_signs (mCons (mVar 2) mNil)) (s0 := [some (.v (.tuple ds)), none, none]) (fun d => [some (.v (.tuple ds)), none, some (.v d)]) (fun _ => true) (fun d => .bool (isPairD d)) ds [] (fun d _ => rfl) (fun d _ => rfl) (fun d hd _ => by
        have q := v_is_pair (List.all_eq_true.mp ho.1 d hd)
        simp [mRes, mCons, mVar, mNil, EO.bind, q]) (fun d _ => rfl) (by simpa using hl)
    have e3 : ds.filter (fun _ => true) = ds := by simp
    rw [e3, List.nil_append] at e
    have e4 : fAll [.list (ds.map fun d => .bool (isPairD d))] = some (.bool (ds.all isPairD)) := by
      show (boolsD _).map (fun bs : List Bool => PyData.bool (bs.all id)) = _
      rw [boolsD_map]
      simp
    cases hp : ds.all isPairD with
    | false =>
      simp [m_is_row, N_is_row, outF, startS, mSeq, mIfS, mOr, mNot, toB, mIsi, mBor, EO.bind, EO.st, EO.lift, Opd.get, isi_tuple, is_tuple, mBu, mConsB, mNilB, mB, mLc, mItems, mVar, itemsD, wipeS, opsGet, restS, e, e4, hp, mRet, mC, rowD]
    | true =>
      have q := row_loop ds (.tuple ds) "both" none hp ho.1 (by decide +kernel)
      cases hg : rowGo "both" ds with
      | true =>
        obtain ⟨ss, q⟩ := q.1 hg
        unfold m_is_row
        generalize (mSeq (mSet 1 (mFz (mRes G_side_after (mCons (mVar 1) (mCons (mVar 2) mNil))))) (mIfS (mCmp fIs (mBor 1) (mB (mC .none))) (mRet (mC (.bool false))) .nx)) = B at q ⊢
        simp [N_is_row, outF, startS, mSeq, mIfS, mOr, mNot, toB, mIsi, mBor, EO.bind, EO.st, EO.lift, Opd.get, isi_tuple, is_tuple, mBu, mConsB, mNilB, mB, mLc, mItems, mVar, itemsD, wipeS, opsGet, restS, e, e4, hp, mRet, mC, rowD, hg, mSet, mFz, NV.sv, mFor, q]
      | false =>
        obtain ⟨ss, q⟩ := q.2 hg
        unfold m_is_row
        generalize (mSeq (mSet 1 (mFz (mRes G_side_after (mCons (mVar 1) (mCons (mVar 2) mNil))))) (mIfS (mCmp fIs (mBor 1) (mB (mC .none))) (mRet (mC (.bool false))) .nx)) = B at q ⊢
        simp [N_is_row, outF, startS, mSeq, mIfS, mOr, mNot, toB, mIsi, mBor, EO.bind, EO.st, EO.lift, Opd.get, isi_tuple, is_tuple, mBu, mConsB, mNilB, mB, mLc, mItems, mVar, itemsD, wipeS, opsGet, restS, e, e4, hp, mRet, mC, rowD, hg, mSet, mFz, NV.sv, mFor, q]
  | _ => simp [m_is_row, N_is_row, mC, mVar, mBor, mB, mNil, mCons, mNilB, mConsB, mTup, mLst, fit, mFz, mOw, NV.sv, mSeq, mRet, mIfS, mDrop, mSet, mPar, ownL, mAppend, gNm, gNilV, gConsV, gTupV, mAsg, signs, mItems, itemsD, mRng1, mRng2, mEnum, mZip, mFor, mLc, mYes, mIf, mAnd, mOr, mNot, toB, vAnd, vOr, vNot, mBl, mCmp, mChain, two, alt, mBin, mNeg, outF, startS, mRes, mResK, opsGet, mBu, mOu, alt1, mIsi, mPart, mPart0, mSl, mSlL, mRevL, mDict0, mM1, mM0, mMn, mTupZip, mRev, EO.bind, EO.lift, EO.st, Opd.get, EO.calm, wipeS, restS, isN, fIs, fIsNot, one1, two12, two21, isi_tuple, is_tuple, rowD]
section
variable {P : Program} {w : World} {K : PySem.W.Frag} {mg : Str → Option Value} {base : Heap}
theorem go_is_row (T : Top K mg) : Go P w K mg base 4 "is_row" s_is_row ["thing"] (spF K mg 1 G_is_row) := go_pure T.d_is_row sc_is_row (by decide) rfl e_is_row fun f cdv A outer s H E C =>
    (ss_cons (s_if (t_w (w_or (t_not (t_val (v_isi C (bn 0) (by intro _; rfl) T.b_isinstance (by intro _; rfl) T.b_tuple (by decide +kernel)))) (w_or1 (t_not (t_val (v_bu C (u_all C) (bs_cons (b_val (v_new (o_lc C (fun _ => bo_26_47) (i_sq C (nm 0)) (gn (C.blk cs_26_47) 2) ts_nil (call (C.blk cs_26_47) (go_is_pair_of_signs T) (by first | decide | omega) rfl (a_cons (nm 2) a_nil) (mCons_len mNil_len))))) bs_nil) (by intro _; rfl) T.b_all (by decide +kernel))))))) (ss_one (s_ret v_bl)) ss_nil)
    (ss_cons (set1 C 1 (n_v (gstr C T.c_BOTH)))
    (ss_cons (s_for C (i_sq C (nm 0)) (gn C 2) (ss_cons (set1 C 1 (n_v (call C (go_side_after T) (by first | decide | omega) rfl (a_cons (nm 1) (a_cons (nm 2) a_nil)) (mCons_len (mCons_len mNil_len)))))
    (ss_one (s_if (t_cmp (bn 1) (b_val v_non) c_is rfl) (ss_one (s_ret v_bl)) ss_nil))))
    (ss_one (s_ret v_bl)))))
end

theorem sc__law_odd : FnScope ["_law_deck_here", "_law_it", "_law_some"] ["_law_deck_here", "_law_it"] (defScope s__law_odd) := ⟨rfl, rfl, rfl, by decide +kernel, rfl, by decide +kernel, by decide +kernel⟩
abbrev N__law_odd : List Str := ["_law_deck_here", "_law_it", "_law_some"]
def m__law_odd : SS → SO := (mSeq (mSet 2 (mOw (mLst (mCons (mC .none) (mCons (mC (.bool true)) (mCons (mC (.int 0)) (mCons (mC (.str "")) (mCons (mC (.str "-")) (mCons (mC (.str "a")) (mCons (mC (.str "A")) (mCons (mC (.str "ab")) (mCons (mC (.str "1")) (mCons (mC (.str " ")) (mCons (mTup (mCons (mC (.str "a")) (mCons (mC (.str "-")) mNil))) (mCons (mTup (mCons (mC (.str "-")) (mCons (mC (.str "-")) mNil))) (mCons (mTup (mCons (mC (.str "a")) mNil)) (mCons (mTup mNil) (mCons (mLst mNil) (mCons mDict0 (mCons (mLst (mCons (mC (.str "a")) (mCons (mC (.str "b")) mNil))) mNil))))))))))))))))))))
    (mSeq (mIfS (toB (mIsi "str" (mBor 1))) (mSet 2 (mOw (mBin gAddL (mBor 2) (mB (mLst (mCons (mBin gAdd (mBor 1) (mBor 1)) (mCons (mBin gAdd (mBor 1) (mB (mC (.str "-")))) (mCons (mM0 fUpper (mBor 1)) (mCons (mBin gAdd (mBor 1) (mB (mC (.str " ")))) mNil))))))))) .nx)
    (mRet (mDraw 0 G__law_pick (mCons (mVar 2) mNil)))))
theorem n__law_odd : NtS (m__law_odd) := by
  unfold m__law_odd
  repeat first | apply ns_Seq | apply ns_Ret | apply ns_If | apply ns_Set | apply ns_Par | apply ns_Append | apply ns_Asg | apply ns_For | apply ns_Drop | apply ns_DkSet | apply ns_DkApp | apply nts_nx | apply nts_bk | apply nts_ct | apply nts_rt | apply nt_Fz | apply nt_Ow | apply nt_C | apply nt_Var | apply nt_Bor | apply nt_B | apply nt_Nil | apply nt_Cons | apply nt_NilB | apply nt_ConsB | apply nt_Tup | apply nt_Lst | apply nt_Cmp | apply nt_Bl | apply nt_Chain | apply nt_toB | apply nt_Not | apply nt_And | apply nt_Or | apply nt_vAnd | apply nt_vOr | apply nt_vNot | apply nt_If | apply nt_Bin | apply nt_Neg | apply nt_ResK | apply nt_Res | apply nt_Bu | apply nt_Ou | apply nt_Isi | apply nt_Part0 | apply nt_Part | apply nt_Sl | apply nt_SlL | apply nt_Rev | apply nt_Dict0 | apply nt_M1 | apply nt_M0 | apply nt_Mn | apply nt_Draw | apply ng_Nm | apply ng_Nil | apply ng_Cons | apply ng_Tup | apply nt_Items | apply nt_Rng1 | apply nt_Rng2 | apply nt_Enum | apply nt_Zip | apply nt_Yes | apply nt_Lc | apply nt_DkI | apply nt_DkNe | apply nt_DkPop
def G__law_odd : Dk → List Dt → Res (Dt × Dk) := fun dk ds => outX (m__law_odd (startD 0 N__law_odd dk ds))
theorem e__law_odd (a : Addr) (dk : Dk) (ds : List Dt) (h : ds.length + 1 = 2) : outD a (m__law_odd (startD a N__law_odd dk ds)) = G__law_odd dk ds ∨ G__law_odd dk ds = .no := .inl (nt_deck n__law_odd)
section
variable {P : Program} {w : World} {K : PySem.W.Frag} {mg : Str → Option Value} {base : Heap}
theorem go__law_odd (T : Top K mg) : Go P w K mg base 3 "_law_odd" s__law_odd ["_law_deck_here", "_law_it"] (spD K 2 G__law_odd) := go_deck T.d__law_odd sc__law_odd (by decide) rfl e__law_odd fun f cdv A outer s H E C =>
    (ss_cons (set1 C 2 (n_o (o_lst (a_cons v_non (a_cons v_bl (a_cons v_int (a_cons v_str (a_cons v_str (a_cons v_str (a_cons v_str (a_cons v_str (a_cons v_str (a_cons v_str (a_cons (v_tup (a_cons v_str (a_cons v_str a_nil))) (a_cons (v_tup (a_cons v_str (a_cons v_str a_nil))) (a_cons (v_tup (a_cons v_str a_nil)) (a_cons (v_tup a_nil) (a_cons (v_new (o_lst a_nil)) (a_cons (v_new o_dict0) (a_cons (v_new (o_lst (a_cons v_str (a_cons v_str a_nil)))) a_nil))))))))))))))))))))
    (ss_cons (s_if (t_val (v_isi C (bn 1) (by intro _; rfl) T.b_isinstance (by intro _; rfl) T.b_str (by decide +kernel))) (ss_one (set1 C 2 (n_o (o_addL (bn 2) (b_val (v_new (o_lst (a_cons (v_bin (bn 1) (bn 1) (s_add C)) (a_cons (v_bin (bn 1) (b_val v_str) (s_add C)) (a_cons (v_m0 F.slot_str_upper F.type_str_upper u_upper (bn 1)) (a_cons (v_bin (bn 1) (b_val v_str) (s_add C)) a_nil))))))))))) ss_nil)
    (ss_one (s_ret (draw C 0 (go__law_pick T) (by first | decide | omega) (a_cons (nm 2) a_nil) (fun ss ds ss' h => congrArg (· + 1) ((mCons_len mNil_len) ss ds ss' h)))))))
end

theorem sc__law_bent : FnScope ["_law_deck_here", "_law_it", "_law_at", "_law_way"] ["_law_deck_here", "_law_it"] (defScope s__law_bent) := ⟨rfl, rfl, rfl, by decide +kernel, rfl, by decide +kernel, by decide +kernel⟩
abbrev N__law_bent : List Str := ["_law_deck_here", "_law_it", "_law_at", "_law_way"]
def m__law_bent (rec : Dk → List Dt → Res (Dt × Dk)) : SS → SO := (mSeq (mIfS (mOr (mNot (toB (mIsi "tuple" (mBor 1)))) (mOr (mCmp fEqA (mBor 1) (mB (mTup mNil))) (mCmp fEqA (mB (mDraw 0 G__law_draw (mCons (mC (.int 5)) mNil))) (mB (mC (.int 0)))))) (mRet (mDraw 0 G__law_odd (mCons (mVar 1) mNil))) .nx)
    (mSeq (mPar 2 3 (mFz (mDraw 0 G__law_draw (mCons (mBu fLen (mConsB (mBor 1) mNilB)) mNil))) (mFz (mDraw 0 G__law_draw (mCons (mC (.int 8)) mNil))))
    (mSeq (mIfS (mCmp fEqA (mBor 3) (mB (mC (.int 0)))) (mRet (mBin gAdd (mB (mSl (mBor 1) mPart0 (mPart (mVar 2)))) (mB (mSl (mBor 1) (mPart (mBin gAdd (mBor 2) (mB (mC (.int 1))))) mPart0)))) .nx)
    (mSeq (mIfS (mCmp fEqA (mBor 3) (mB (mC (.int 1)))) (mRet (mBin gAdd (mB (mSl (mBor 1) mPart0 (mPart (mBin gAdd (mBor 2) (mB (mC (.int 1))))))) (mB (mSl (mBor 1) (mPart (mVar 2)) mPart0)))) .nx)
    (mSeq (mIfS (mCmp fEqA (mBor 3) (mB (mC (.int 2)))) (mRet (mRev (mBor 1))) .nx)
    (mSeq (mIfS (mCmp fEqA (mBor 3) (mB (mC (.int 3)))) (mRet (mOu fList (mConsB (mBor 1) mNilB))) .nx)
    (mRet (mBin gAdd (mB (mBin gAdd (mB (mSl (mBor 1) mPart0 (mPart (mVar 2)))) (mB (mTup (mCons (mDraw 0 rec (mCons (mBin fIx (mBor 1) (mBor 2)) mNil)) mNil))))) (mB (mSl (mBor 1) (mPart (mBin gAdd (mBor 2) (mB (mC (.int 1))))) mPart0))))))))))
theorem n__law_bent (rec : Dk → List Dt → Res (Dt × Dk)) : NtS (m__law_bent rec) := by
  unfold m__law_bent
  repeat first | apply ns_Seq | apply ns_Ret | apply ns_If | apply ns_Set | apply ns_Par | apply ns_Append | apply ns_Asg | apply ns_For | apply ns_Drop | apply ns_DkSet | apply ns_DkApp | apply nts_nx | apply nts_bk | apply nts_ct | apply nts_rt | apply nt_Fz | apply nt_Ow | apply nt_C | apply nt_Var | apply nt_Bor | apply nt_B | apply nt_Nil | apply nt_Cons | apply nt_NilB | apply nt_ConsB | apply nt_Tup | apply nt_Lst | apply nt_Cmp | apply nt_Bl | apply nt_Chain | apply nt_toB | apply nt_Not | apply nt_And | apply nt_Or | apply nt_vAnd | apply nt_vOr | apply nt_vNot | apply nt_If | apply nt_Bin | apply nt_Neg | apply nt_ResK | apply nt_Res | apply nt_Bu | apply nt_Ou | apply nt_Isi | apply nt_Part0 | apply nt_Part | apply nt_Sl | apply nt_SlL | apply nt_Rev | apply nt_Dict0 | apply nt_M1 | apply nt_M0 | apply nt_Mn | apply nt_Draw | apply ng_Nm | apply ng_Nil | apply ng_Cons | apply ng_Tup | apply nt_Items | apply nt_Rng1 | apply nt_Rng2 | apply nt_Enum | apply nt_Zip | apply nt_Yes | apply nt_Lc | apply nt_DkI | apply nt_DkNe | apply nt_DkPop
def G__law_bent : Nat → Dk → List Dt → Res (Dt × Dk)
  | 0 => fun _ _ => .no
  | j + 1 => fun dk ds => outX (m__law_bent (G__law_bent j) (startD 0 N__law_bent dk ds))
theorem e__law_bent (j : Nat) (a : Addr) (dk : Dk) (ds : List Dt) (h : ds.length + 1 = 2) : outD a (m__law_bent (G__law_bent j) (startD a N__law_bent dk ds)) = G__law_bent (j + 1) dk ds ∨ G__law_bent (j + 1) dk ds = .no := .inl (nt_deck (n__law_bent _))
section
variable {P : Program} {w : World} {K : PySem.W.Frag} {mg : Str → Option Value} {base : Heap}
theorem go__law_bent (T : Top K mg) : ∀ j : Nat, Go P w K mg base (j + 3) "_law_bent" s__law_bent ["_law_deck_here", "_law_it"] (spD K 2 (G__law_bent j))
  | 0 => go_no T.d__law_bent rfl
  | j + 1 => go_deck T.d__law_bent sc__law_bent (by decide) rfl (e__law_bent j) fun f cdv A outer s H E C =>
    have IH := go__law_bent T j
    (ss_cons (s_if (t_w (w_or (t_not (t_val (v_isi C (bn 1) (by intro _; rfl) T.b_isinstance (by intro _; rfl) T.b_tuple (by decide +kernel)))) (w_or (t_cmp (bn 1) (b_val (v_tup a_nil)) (c_eqA C) rfl) (w_or1 (t_cmp (b_val (draw C 0 (go__law_draw T) (by first | decide | omega) (a_cons v_int a_nil) (fun ss ds ss' h => congrArg (· + 1) ((mCons_len mNil_len) ss ds ss' h)))) (b_val v_int) (c_eqA C) rfl))))) (ss_one (s_ret (draw C 0 (go__law_odd T) (by first | decide | omega) (a_cons (nm 1) a_nil) (fun ss ds ss' h => congrArg (· + 1) ((mCons_len mNil_len) ss ds ss' h))))) ss_nil)
    (ss_cons (par2 C 2 3 (n_v (draw C 0 (go__law_draw T) (by first | decide | omega) (a_cons (v_bu C (u_len C) (bs_cons (bn 1) bs_nil) (by intro _; rfl) T.b_len (by decide +kernel)) a_nil) (fun ss ds ss' h => congrArg (· + 1) ((mCons_len mNil_len) ss ds ss' h)))) (n_v (draw C 0 (go__law_draw T) (by first | decide | omega) (a_cons v_int a_nil) (fun ss ds ss' h => congrArg (· + 1) ((mCons_len mNil_len) ss ds ss' h)))))
    (ss_cons (s_if (t_cmp (bn 3) (b_val v_int) (c_eqA C) rfl) (ss_one (s_ret (v_bin (b_val (v_slice C (bn 1) p_none (p_some (nm 2)))) (b_val (v_slice C (bn 1) (p_some (v_bin (bn 2) (b_val v_int) (s_add C))) p_none)) (s_add C)))) ss_nil)
    (ss_cons (s_if (t_cmp (bn 3) (b_val v_int) (c_eqA C) rfl) (ss_one (s_ret (v_bin (b_val (v_slice C (bn 1) p_none (p_some (v_bin (bn 2) (b_val v_int) (s_add C))))) (b_val (v_slice C (bn 1) (p_some (nm 2)) p_none)) (s_add C)))) ss_nil)
    (ss_cons (s_if (t_cmp (bn 3) (b_val v_int) (c_eqA C) rfl) (ss_one (s_ret (v_rev C (bn 1)))) ss_nil)
    (ss_cons (s_if (t_cmp (bn 3) (b_val v_int) (c_eqA C) rfl) (ss_one (s_ret (v_new (o_buT C (u_list C) (bs_cons (bn 1) bs_nil) (by intro _; rfl) T.b_list PyProof.Rows.boot_list)))) ss_nil)
    (ss_one (s_ret (v_bin (b_val (v_bin (b_val (v_slice C (bn 1) p_none (p_some (nm 2)))) (b_val (v_tup (a_cons (draw C 0 IH (by omega) (a_cons (v_ix C (bn 1) (bn 2)) a_nil) (fun ss ds ss' h => congrArg (· + 1) ((mCons_len mNil_len) ss ds ss' h))) a_nil))) (s_add C))) (b_val (v_slice C (bn 1) (p_some (v_bin (bn 2) (b_val v_int) (s_add C))) p_none)) (s_add C))))))))))
end

theorem sc_row_of : FnScope ["left", "right", "size"] ["left", "right"] (defScope s_row_of) := ⟨rfl, rfl, rfl, by decide +kernel, rfl, by decide +kernel, by decide +kernel⟩
abbrev N_row_of : List Str := ["left", "right", "size"]
def m_row_of : SS → SO := (mSeq (mSet 2 (mFz (mBu fMax2 (mConsB (mB (mBu fLen (mConsB (mBor 0) mNilB))) (mConsB (mB (mBu fLen (mConsB (mBor 1) mNilB))) mNilB)))))
    (mRet (mTupZip (mCons (mMn fLjust (mBor 0) (mConsB (mBor 2) (mConsB (mB (mC (.str "-"))) mNilB))) (mCons (mMn fLjust (mBor 1) (mConsB (mBor 2) (mConsB (mB (mC (.str "-"))) mNilB))) mNil)))))
def G_row_of : List Dt → Res Dt := fun ds => outF (m_row_of (startS N_row_of ds))
theorem e_row_of (ds : List Dt) (h : ds.length = 2) : outF (m_row_of (startS N_row_of ds)) = G_row_of ds ∨ G_row_of ds = .no := .inl rfl
theorem fl_dash (x : Str) (i : Int) : fLjust [.str x, .int i, .str "-"] = if PadOk i = true then some (.str (padS x i 45)) else none := rfl
theorem pad_ok {n : Nat} (h : n ≤ 1000) : PadOk (n : Int) = true := by
  unfold PadOk PySem.fitsSsize Builtin.Str.tooLong
  rw [Int.toNat_natCast]
  have e : sizeLine = 16777216 := by decide
  simp only [e, Bool.and_eq_true, Bool.not_eq_true', decide_eq_false_iff_not, Bool.or_eq_false_iff]
  omega
theorem v_row_of {x y : Str} (hx : x.length ≤ 1000) (hy : y.length ≤ 1000) : G_row_of [.str x, .str y] = .ok (.tuple (sg x.cps.toList y.cps.toList)) := by
  unfold G_row_of
  have sx : x.length ≤ sizeLine := Nat.le_trans hx (by decide)
  have sy : y.length ≤ sizeLine := Nat.le_trans hy (by decide)
  have em : (if x.length < y.length then (y.length : Int) else x.length) = ((max x.length y.length : Nat) : Int) := by
    split <;> omega
  have lx : x.cps.toList.length = x.length := by simp [Str.length]
  have ly : y.cps.toList.length = y.length := by simp [Str.length]
  have p1 := padS_txt (x := x) (c := 45) (Nat.le_max_left x.length y.length)
  have p2 := padS_txt (x := y) (c := 45) (Nat.le_max_right x.length y.length)
  have ok := pad_ok (n := max x.length y.length) (by omega)
  have z := zip_sg x.cps.toList y.cps.toList
  rw [lx, ly] at z
  have e1 : fMax2 [.int x.length, .int y.length] = some (.int (max x.length y.length : Nat)) := by
    rw [← em]
    simp [fMax2]
  have l1 : (txt (x.cps.toList ++ List.replicate (max x.length y.length - x.length) 45)).length = max x.length y.length := by
    rw [txt_len, List.length_append, List.length_replicate, lx]
    omega
  have l2 : (txt (y.cps.toList ++ List.replicate (max x.length y.length - y.length) 45)).length = max x.length y.length := by
    rw [txt_len, List.length_append, List.length_replicate, ly]
    omega
  have sm : max x.length y.length ≤ sizeLine := by omega
  generalize max x.length y.length = n at *
  simp only [m_row_of, N_row_of, outF, startS, List.map_cons, List.map_nil, List.length_cons, List.length_nil, List.cons_append, List.nil_append, Nat.reduceAdd, Nat.reduceSub, List.replicate, mSeq, mSet, mFz, mBu, mConsB, mB, mBor, mNilB, EO.bind, EO.st, EO.lift, Opd.get, opsGet, List.getElem?_cons_zero, List.getElem?_cons_succ, fLen, if_pos sx, if_pos sy, Option.bind, e1, Nat.reduceLT, if_true, List.set, NV.sv, mRet, mTupZip, mCons, mMn, mNil, mC, fl_dash, if_pos ok, p1, p2, l1, l2]
  have c : True ∧ n ≤ sizeLine := ⟨trivial, sm⟩
  rw [if_pos c]
  show Res.ok (PyData.tuple (zipS (txt _).cps.toList (txt _).cps.toList)) = _
  have t : ∀ l : List Nat, (txt l).cps.toList = l := fun l => by simp [txt]
  rw [t, t, z]
section
variable {P : Program} {w : World} {K : PySem.W.Frag} {mg : Str → Option Value} {base : Heap}
theorem go_row_of (T : Top K mg) : Go P w K mg base 1 "row_of" s_row_of ["left", "right"] (spF K mg 2 G_row_of) := go_pure T.d_row_of sc_row_of (by decide) rfl e_row_of fun f cdv A outer s H E C =>
    (ss_cons (set1 C 2 (n_v (v_bu C (u_max2 C) (bs_cons (b_val (v_bu C (u_len C) (bs_cons (bn 0) bs_nil) (by intro _; rfl) T.b_len (by decide +kernel))) (bs_cons (b_val (v_bu C (u_len C) (bs_cons (bn 1) bs_nil) (by intro _; rfl) T.b_len (by decide +kernel))) bs_nil)) (by intro _; rfl) T.b_max (by decide +kernel))))
    (ss_one (s_ret (v_tupZip C (a_cons (v_mn C F.slot_str_ljust F.type_str_ljust u_ljust2 (bn 0) (bs_cons (bn 2) (bs_cons (b_val (gstr C T.c_FILL)) bs_nil))) (a_cons (v_mn C F.slot_str_ljust F.type_str_ljust u_ljust2 (bn 1) (bs_cons (bn 2) (bs_cons (b_val (gstr C T.c_FILL)) bs_nil))) a_nil)) (by intro _; rfl) (by intro _; rfl) T.b_tuple T.b_zip))))
end

theorem sc_pair_of : FnScope ["row", "left", "right", "signs"] ["row"] (defScope s_pair_of) := ⟨rfl, rfl, rfl, by decide +kernel, rfl, by decide +kernel, by decide +kernel⟩
def cs_35_27 : Scope := { kind := PySem.ScopeKind.function, names := [(PySem.Str.ofString ".0", PySem.NameKind.local), (PySem.Str.ofString "signs", PySem.NameKind.local)], isGenerator := false, isCoroutine := false, more := [] : PySem.Scope }
theorem bo_35_27 : BlkOk ["row", "left", "right", "signs"] (defScope s_pair_of) cs_35_27 [("signs", 3)] := ⟨rfl, by decide, by decide, by decide, by decide⟩
def cs_35_65 : Scope := { kind := PySem.ScopeKind.function, names := [(PySem.Str.ofString ".0", PySem.NameKind.local), (PySem.Str.ofString "signs", PySem.NameKind.local)], isGenerator := false, isCoroutine := false, more := [] : PySem.Scope }
theorem bo_35_65 : BlkOk ["row", "left", "right", "signs"] (defScope s_pair_of) cs_35_65 [("signs", 3)] := ⟨rfl, by decide, by decide, by decide, by decide⟩
abbrev N_pair_of : List Str := ["row", "left", "right", "signs"]
def m_pair_of : SS → SO := (mSeq (mPar 1 2 (mFz (mM1 fJoin (mB (mC (.str ""))) (mB (mLc (mItems (mVar 0)) [3] (gNm 3) mYes (mBin fIx (mBor 3) (mB (mC (.int 0)))))))) (mFz (mM1 fJoin (mB (mC (.str ""))) (mB (mLc (mItems (mVar 0)) [3] (gNm 3) mYes (mBin fIx (mBor 3) (mB (mC (.int 1)))))))))
    (mRet (mTup (mCons (mM1 fRstrip (mBor 1) (mB (mC (.str "-")))) (mCons (mM1 fRstrip (mBor 2) (mB (mC (.str "-")))) mNil)))))
def G_pair_of : List Dt → Res Dt := fun ds => outF (m_pair_of (startS N_pair_of ds))
theorem e_pair_of (ds : List Dt) (h : ds.length = 1) : outF (m_pair_of (startS N_pair_of ds)) = G_pair_of ds ∨ G_pair_of ds = .no := .inl rfl
theorem sp_ix0 (p : Nat × Nat) : fIx (duo p) (.int 0) = some (signD p.1) := rfl
theorem sp_ix1 (p : Nat × Nat) : fIx (duo p) (.int 1) = some (signD p.2) := rfl
theorem sum_ones (l : List Nat) : (l.map fun c => (⟨#[c]⟩ : Str)).map (·.length) = l.map fun _ => 1 := by
  rw [List.map_map]
  rfl
theorem sum_ones2 : ∀ l : List Nat, (l.map fun _ => 1).sum = l.length
  | [] => rfl
  | _ :: l => by
    rw [List.map_cons, List.sum_cons, sum_ones2 l, List.length_cons]
    omega
theorem join_fst (l : List Nat) (hl : l.length ≤ 5000) : fJoin [.str "", .list (l.map signD)] = some (.str (txt l)) := by
  show (textsD (l.map signD)).bind (joinD "") = _
  have e : textsD (l.map signD) = some (l.map fun c => ⟨#[c]⟩) := textsD_map (fun c => (⟨#[c]⟩ : Str)) l
  rw [e]
  show (if ((l.map fun c => (⟨#[c]⟩ : Str)).map (·.length)).sum + (l.map fun c => (⟨#[c]⟩ : Str)).length * ("" : Str).length ≤ 16777216 then some (PyData.str (Txt.join "" (l.map fun c => ⟨#[c]⟩))) else none) = _
  rw [sum_ones, sum_ones2, join_signs, if_pos]
  have : ("" : Str).length = 0 := rfl
  rw [this]
  omega
theorem v_pair_of {xs ys : List Nat} (hx : xs.length ≤ 1000) (hy : ys.length ≤ 1000) (nx : ∀ c ∈ xs, c ≠ 45) (ny : ∀ c ∈ ys, c ≠ 45) : G_pair_of [.tuple (sg xs ys)] = .ok (.tuple [.str (txt xs), .str (txt ys)]) := by
  unfold G_pair_of
  have ls := sg_len xs ys
  have lp := sp_len xs ys
  have big : (5000 : Nat) ≤ sizeLine := by decide
  have e1 := lcGo_pure (vs := [3]) (g := gNm 3) (mt := mYes) (me := mBin fIx (mBor 3) (mB (mC (.int 0)))) (s0 := [some (.v (.tuple (sg xs ys))), none, none, none]) (fun d => [some (.v (.tuple (sg xs ys))), none, none, some (.v d)]) (fun _ => true) (fun d => (fIx d (.int 0)).getD .none) (sg xs ys) [] (fun d _ => rfl) (fun d _ => rfl) (fun d hd _ => by
    obtain ⟨p, _, rfl⟩ := List.mem_map.mp hd
    rfl) (fun d _ => rfl) (by rw [List.length_nil, ls]; omega)
  have f0 : (sg xs ys).filter (fun _ => true) = sg xs ys := by simp
  have g1 : (sg xs ys).map (fun d => (fIx d (.int 0)).getD .none) = ((sp xs ys).map (·.1)).map signD := by
    unfold sg
    rw [List.map_map, List.map_map]
    rfl
  have g2 : (sg xs ys).map (fun d => (fIx d (.int 1)).getD .none) = ((sp xs ys).map (·.2)).map signD := by
    unfold sg
    rw [List.map_map, List.map_map]
    rfl
  rw [f0, List.nil_append, g1] at e1
  have e2 := lcGo_pure (vs := [3]) (g := gNm 3) (mt := mYes) (me := mBin fIx (mBor 3) (mB (mC (.int 1)))) (s0 := [some (.v (.tuple (sg xs ys))), none, none, none]) (fun d => [some (.v (.tuple (sg xs ys))), none, none, some (.v d)]) (fun _ => true) (fun d => (fIx d (.int 1)).getD .none) (sg xs ys) [] (fun d _ => rfl) (fun d _ => rfl) (fun d hd _ => by
    obtain ⟨p, _, rfl⟩ := List.mem_map.mp hd
    rfl) (fun d _ => rfl) (by rw [List.length_nil, ls]; omega)
  rw [f0, List.nil_append, g2] at e2
  have j1 := join_fst ((sp xs ys).map (·.1)) (by rw [List.length_map, lp]; omega)
  have j2 := join_fst ((sp xs ys).map (·.2)) (by rw [List.length_map, lp]; omega)
  have r1 := rstrip_txt nx (max xs.length ys.length - xs.length)
  have r2 := rstrip_txt ny (max xs.length ys.length - ys.length)
  rw [← sp_fst] at r1
  rw [← sp_snd] at r2
  have l1 : (txt ((sp xs ys).map (·.1))).length ≤ sizeLine := by rw [txt_len, List.length_map, lp]; omega
  have l2 : (txt ((sp xs ys).map (·.2))).length ≤ sizeLine := by rw [txt_len, List.length_map, lp]; omega
  have s1 : fRstrip [.str (txt ((sp xs ys).map (·.1))), .str "-"] = some (.str (txt xs)) := by
    show (if (txt ((sp xs ys).map (·.1))).length ≤ sizeLine then some (PyData.str (Txt.rstripChars (txt ((sp xs ys).map (·.1))) "-")) else none) = _
    rw [if_pos l1, r1]
  have s2 : fRstrip [.str (txt ((sp xs ys).map (·.2))), .str "-"] = some (.str (txt ys)) := by
    show (if (txt ((sp xs ys).map (·.2))).length ≤ sizeLine then some (PyData.str (Txt.rstripChars (txt ((sp xs ys).map (·.2))) "-")) else none) = _
    rw [if_pos l2, r2]
  generalize sg xs ys = D at *
  generalize (sp xs ys).map (·.1) = L at *
  generalize (sp xs ys).map (·.2) = R at *
  unfold m_pair_of
  generalize (mBin fIx (mBor 3) (mB (mC (.int 0)))) = A at e1 ⊢
  generalize (mBin fIx (mBor 3) (mB (mC (.int 1)))) = B at e2 ⊢
  simp [N_pair_of, outF, startS, mSeq, mPar, mFz, mM1, mB, mC, mLc, mItems, mVar, EO.bind, EO.st, EO.lift, itemsD, wipeS, restS, e1, e2, Opd.get, j1, j2, NV.sv, mRet, mTup, mCons, mBor, mNil, s1, s2, fit, show 0 ≤ sizeLine by decide, show 1 ≤ sizeLine by decide, show 2 ≤ sizeLine by decide, show 3 ≤ sizeLine by decide, show 4 ≤ sizeLine by decide, show 5 ≤ sizeLine by decide, show 6 ≤ sizeLine by decide, show 7 ≤ sizeLine by decide, show 8 ≤ sizeLine by decide, show 9 ≤ sizeLine by decide, show 13 ≤ sizeLine by decide, show 17 ≤ sizeLine by decide, show 21 ≤ sizeLine by decide, show 26 ≤ sizeLine by decide]
section
variable {P : Program} {w : World} {K : PySem.W.Frag} {mg : Str → Option Value} {base : Heap}
theorem go_pair_of (T : Top K mg) : Go P w K mg base 1 "pair_of" s_pair_of ["row"] (spF K mg 1 G_pair_of) := go_pure T.d_pair_of sc_pair_of (by decide) rfl e_pair_of fun f cdv A outer s H E C =>
    (ss_cons (par2 C 1 2 (n_v (v_m1 F.slot_str_join F.type_str_join (u_join C) (b_val v_str) (b_val (v_new (o_lc C (fun _ => bo_35_27) (i_sq C (nm 0)) (gn (C.blk cs_35_27) 3) ts_nil (v_ix (C.blk cs_35_27) (bn 3) (b_val v_int))))))) (n_v (v_m1 F.slot_str_join F.type_str_join (u_join C) (b_val v_str) (b_val (v_new (o_lc C (fun _ => bo_35_65) (i_sq C (nm 0)) (gn (C.blk cs_35_65) 3) ts_nil (v_ix (C.blk cs_35_65) (bn 3) (b_val v_int))))))))
    (ss_one (s_ret (v_tup (a_cons (v_m1 F.slot_str_rstrip F.type_str_rstrip u_rstrip (bn 1) (b_val (gstr C T.c_FILL))) (a_cons (v_m1 F.slot_str_rstrip F.type_str_rstrip u_rstrip (bn 2) (b_val (gstr C T.c_FILL))) a_nil))))))
end

theorem sc__law_is_text : FnScope ["_law_it", "_law_sign"] ["_law_it"] (defScope s__law_is_text) := ⟨rfl, rfl, rfl, by decide +kernel, rfl, by decide +kernel, by decide +kernel⟩
def cs_65_40 : Scope := { kind := PySem.ScopeKind.function, names := [(PySem.Str.ofString ".0", PySem.NameKind.local), (PySem.Str.ofString "_law_sign", PySem.NameKind.local)], isGenerator := false, isCoroutine := false, more := [] : PySem.Scope }
theorem bo_65_40 : BlkOk ["_law_it", "_law_sign"] (defScope s__law_is_text) cs_65_40 [("_law_sign", 1)] := ⟨rfl, by decide, by decide, by decide, by decide⟩
abbrev N__law_is_text : List Str := ["_law_it", "_law_sign"]
def m__law_is_text : SS → SO := (mRet (vAnd (mIsi "str" (mBor 0)) (mBl (mCmp fEqA (mB (mLc (mItems (mVar 0)) [1] (gNm 1) (mCmp fNotIn (mBor 1) (mB (mC (.str "abcdefghijklmnopqrstuvwxyz")))) (mVar 1))) (mB (mLst mNil))))))
def G__law_is_text : List Dt → Res Dt := fun ds => outF (m__law_is_text (startS N__law_is_text ds))
theorem e__law_is_text (ds : List Dt) (h : ds.length = 1) : outF (m__law_is_text (startS N__law_is_text ds)) = G__law_is_text ds ∨ G__law_is_text ds = .no := .inl rfl
theorem v_law_is_text {d : Dt} (ho : okT d = true) : G__law_is_text [d] = .ok (.bool (isTextD d)) := by
  unfold G__law_is_text
  cases d with
  | str z =>
    have hz : z.length ≤ sizeLine := okT_len ho
    have e := lcGo_pure (vs := [1]) (g := gNm 1) (mt := mCmp fNotIn (mBor 1) (mB (mC (.str ABC)))) (me := mVar 1) (s0 := [some (.v (.str z)), none]) (fun d => [some (.v (.str z)), some (.v d)]) (fun d => !isLetterD d) (fun d => d) (signs z) [] (fun d _ => rfl) (fun d hd => by
        obtain ⟨c, _, rfl⟩ := List.mem_map.mp hd
        rfl) (fun d _ _ => rfl) (fun d _ => rfl) (by simpa [signs, Str.length] using hz)
    rw [List.nil_append, List.map_id'] at e
    have e2 : ((signs z).filter fun d => !isLetterD d).isEmpty = z.cps.toList.all isL := by
      rw [Bool.eq_iff_iff, List.isEmpty_iff, List.filter_eq_nil_iff, List.all_eq_true]
      constructor
      · intro q c hc
        have := q (signD c) (List.mem_map.mpr ⟨c, hc, rfl⟩)
        have this : ¬ (!isL c) = true := this
        simpa using this
      · intro q d hd
        obtain ⟨c, hc, rfl⟩ := List.mem_map.mp hd
        have this : ¬ (!isL c) = true := by simp [q c hc]
        exact this
    simp only [ABC] at e
    unfold m__law_is_text
    generalize (mCmp fNotIn (mBor 1) (mB (mC (.str "abcdefghijklmnopqrstuvwxyz")))) = A at e ⊢
    simp [N__law_is_text, outF, startS, mRet, EO.st, vAnd, mIsi, mBor, EO.bind, EO.lift, Opd.get, isi_str, is_str, mB, mLc, mItems, mVar, itemsD, wipeS, restS, e, mBl, mCmp, mLst, mNil, fit, two, eqA_nil, e2, isTextD, show 0 ≤ sizeLine by decide, show 1 ≤ sizeLine by decide, show 2 ≤ sizeLine by decide, show 3 ≤ sizeLine by decide, show 4 ≤ sizeLine by decide, show 5 ≤ sizeLine by decide, show 6 ≤ sizeLine by decide, show 7 ≤ sizeLine by decide, show 8 ≤ sizeLine by decide, show 9 ≤ sizeLine by decide, show 13 ≤ sizeLine by decide, show 17 ≤ sizeLine by decide, show 21 ≤ sizeLine by decide, show 26 ≤ sizeLine by decide]
  | _ => simp [m__law_is_text, N__law_is_text, mC, mVar, mBor, mB, mNil, mCons, mNilB, mConsB, mTup, mLst, fit, mFz, mOw, NV.sv, mSeq, mRet, mIfS, mDrop, mSet, mPar, ownL, mAppend, gNm, gNilV, gConsV, gTupV, mAsg, signs, mItems, itemsD, mRng1, mRng2, mEnum, mZip, mFor, mLc, mYes, mIf, mAnd, mOr, mNot, toB, vAnd, vOr, vNot, mBl, mCmp, mChain, two, alt, mBin, mNeg, outF, startS, mRes, mResK, opsGet, mBu, mOu, alt1, mIsi, mPart, mPart0, mSl, mSlL, mRevL, mDict0, mM1, mM0, mMn, mTupZip, mRev, EO.bind, EO.lift, EO.st, Opd.get, EO.calm, wipeS, restS, isN, fIs, fIsNot, one1, two12, two21, isi_str, is_str, isTextD]
section
variable {P : Program} {w : World} {K : PySem.W.Frag} {mg : Str → Option Value} {base : Heap}
theorem go__law_is_text (T : Top K mg) : Go P w K mg base 1 "_law_is_text" s__law_is_text ["_law_it"] (spF K mg 1 G__law_is_text) := go_pure T.d__law_is_text sc__law_is_text (by decide) rfl e__law_is_text fun f cdv A outer s H E C =>
    (ss_one (s_ret (v_and (v_isi C (bn 0) (by intro _; rfl) T.b_isinstance (by intro _; rfl) T.b_str (by decide +kernel)) (v_one (v_cmp (b_val (v_new (o_lc C (fun _ => bo_65_40) (i_sq C (nm 0)) (gn (C.blk cs_65_40) 1) (ts_one (t_cmp (bn 1) (b_val v_str) (c_notIn (C.blk cs_65_40)) rfl)) (nm 1)))) (b_val (v_new (o_lst a_nil))) (c_eqA C) rfl)))))
end

theorem sc__law_is_row : FnScope ["_law_it", "_law_duo", "_law_x", "_law_y", "_law_sign"] ["_law_it"] (defScope s__law_is_row) := ⟨rfl, rfl, rfl, by decide +kernel, rfl, by decide +kernel, by decide +kernel⟩
def cs_72_11 : Scope := { kind := PySem.ScopeKind.function, names := [ (PySem.Str.ofString ".0", PySem.NameKind.local), (PySem.Str.ofString "_law_sign", PySem.NameKind.local), (PySem.Str.ofString "isinstance", PySem.NameKind.globalImplicit), (PySem.Str.ofString "str", PySem.NameKind.globalImplicit), (PySem.Str.ofString "len", PySem.NameKind.globalImplicit)], isGenerator := false, isCoroutine := false, more := [] : PySem.Scope }
theorem bo_72_11 : BlkOk ["_law_it", "_law_duo", "_law_x", "_law_y", "_law_sign"] (defScope s__law_is_row) cs_72_11 [("_law_sign", 4)] := ⟨rfl, by decide, by decide, by decide, by decide⟩
def cs_74_30 : Scope := { kind := PySem.ScopeKind.function, names := [(PySem.Str.ofString ".0", PySem.NameKind.local), (PySem.Str.ofString "_law_duo", PySem.NameKind.local)], isGenerator := false, isCoroutine := false, more := [] : PySem.Scope }
theorem bo_74_30 : BlkOk ["_law_it", "_law_duo", "_law_x", "_law_y", "_law_sign"] (defScope s__law_is_row) cs_74_30 [("_law_duo", 1)] := ⟨rfl, by decide, by decide, by decide, by decide⟩
def cs_74_100 : Scope := { kind := PySem.ScopeKind.function, names := [(PySem.Str.ofString ".0", PySem.NameKind.local), (PySem.Str.ofString "_law_duo", PySem.NameKind.local)], isGenerator := false, isCoroutine := false, more := [] : PySem.Scope }
theorem bo_74_100 : BlkOk ["_law_it", "_law_duo", "_law_x", "_law_y", "_law_sign"] (defScope s__law_is_row) cs_74_100 [("_law_duo", 1)] := ⟨rfl, by decide, by decide, by decide, by decide⟩
abbrev N__law_is_row : List Str := ["_law_it", "_law_duo", "_law_x", "_law_y", "_law_sign"]
def m__law_is_row : SS → SO := (mSeq (mIfS (mNot (toB (mIsi "tuple" (mBor 0)))) (mRet (mC (.bool false))) .nx)
    (mSeq (mFor (mItems (mVar 0)) (gNm 1) (mSeq (mIfS (mOr (mNot (toB (mIsi "tuple" (mBor 1)))) (mCmp fNeA (mB (mBu fLen (mConsB (mBor 1) mNilB))) (mB (mC (.int 2))))) (mRet (mC (.bool false))) .nx)
    (mIfS (mCmp fNeA (mB (mLc (mItems (mVar 1)) [4] (gNm 4) (mOr (mNot (toB (mIsi "str" (mBor 4)))) (mCmp fNeA (mB (mBu fLen (mConsB (mBor 4) mNilB))) (mB (mC (.int 1))))) (mVar 4))) (mB (mLst mNil))) (mRet (mC (.bool false))) .nx)))
    (mSeq (mPar 2 3 (mFz (mM1 fJoin (mB (mC (.str ""))) (mB (mLc (mItems (mVar 0)) [1] (gNm 1) (mCmp fNeA (mB (mBin fIx (mBor 1) (mB (mC (.int 0))))) (mB (mC (.str "-")))) (mBin fIx (mBor 1) (mB (mC (.int 0)))))))) (mFz (mM1 fJoin (mB (mC (.str ""))) (mB (mLc (mItems (mVar 0)) [1] (gNm 1) (mCmp fNeA (mB (mBin fIx (mBor 1) (mB (mC (.int 1))))) (mB (mC (.str "-")))) (mBin fIx (mBor 1) (mB (mC (.int 1)))))))))
    (mRet (vAnd (mRes G__law_is_text (mCons (mVar 2) mNil)) (vAnd (mRes G__law_is_text (mCons (mVar 3) mNil)) (mBl (mCmp fEqA (mB (mRes G__law_signs (mCons (mVar 2) (mCons (mVar 3) mNil)))) (mBor 0)))))))))
def G__law_is_row : List Dt → Res Dt := fun ds => outF (m__law_is_row (startS N__law_is_row ds))
theorem e__law_is_row (ds : List Dt) (h : ds.length = 1) : outF (m__law_is_row (startS N__law_is_row ds)) = G__law_is_row ds ∨ G__law_is_row ds = .no := .inl rfl
def gx (ps : List (Nat × Nat)) : List Nat := (ps.map (·.1)).filter (fun c => decide (c ≠ 45))
def gy (ps : List (Nat × Nat)) : List Nat := (ps.map (·.2)).filter (fun c => decide (c ≠ 45))
def okS (c : Nat) : Bool := isL c || decide (c = 45)
/-- how a row goes on: 0 both, 1 left alone, 2 right alone -/
def auto : Nat → List (Nat × Nat) → Bool
  | _, [] => true
  | s, (a, b) :: r => if a = 45 ∧ b = 45 then false else
      let f := if a = 45 then 2 else if b = 45 then 1 else 0
      if s = 0 ∨ s = f then auto f r else false
theorem dash45 : isL 45 = false := by decide +kernel
theorem gx_cons (a b : Nat) (r : List (Nat × Nat)) : gx ((a, b) :: r) = if a = 45 then gx r else a :: gx r := by
  unfold gx
  by_cases h : a = 45 <;> simp [h]
theorem gy_cons (a b : Nat) (r : List (Nat × Nat)) : gy ((a, b) :: r) = if b = 45 then gy r else b :: gy r := by
  unfold gy
  by_cases h : b = 45 <;> simp [h]
theorem autoR : ∀ ps : List (Nat × Nat), auto 2 ps = true → gx ps = [] ∧ (gy ps).map (fun y => (45, y)) = ps
  | [], _ => ⟨rfl, rfl⟩
  | (a, b) :: r, h => by
    rw [auto] at h
    rw [gx_cons, gy_cons]
    by_cases ha : a = 45
    · by_cases hb : b = 45
      · rw [if_pos ⟨ha, hb⟩] at h
        cases h
      · rw [if_neg (fun z => hb z.2)] at h
        simp only [ha, if_true, or_true] at h
        obtain ⟨i1, i2⟩ := autoR r h
        rw [if_pos ha, if_neg hb]
        exact ⟨i1, by rw [List.map_cons, i2, ha]⟩
    · by_cases hb : b = 45 <;> simp [ha, hb] at h
theorem autoR' : ∀ ys : List Nat, (∀ y ∈ ys, y ≠ 45) → auto 2 (ys.map fun y => (45, y)) = true
  | [], _ => rfl
  | y :: ys, h => by
    rw [List.map_cons, auto]
    have hy := h y (by simp)
    simp only [hy, and_false, if_false, if_true, or_true]
    exact autoR' ys fun z hz => h z (by simp [hz])
theorem autoL : ∀ ps : List (Nat × Nat), auto 1 ps = true → gy ps = [] ∧ (gx ps).map (fun x => (x, 45)) = ps
  | [], _ => ⟨rfl, rfl⟩
  | (a, b) :: r, h => by
    rw [auto] at h
    rw [gx_cons, gy_cons]
    by_cases ha : a = 45
    · by_cases hb : b = 45 <;> simp [ha, hb] at h
    · by_cases hb : b = 45
      · rw [if_neg (fun z => ha z.1)] at h
        simp only [ha, hb, if_true, if_false, or_true] at h
        obtain ⟨i1, i2⟩ := autoL r h
        rw [if_neg ha, if_pos hb]
        exact ⟨i1, by rw [List.map_cons, i2, hb]⟩
      · simp [ha, hb] at h
theorem autoL' : ∀ xs : List Nat, (∀ y ∈ xs, y ≠ 45) → auto 1 (xs.map fun y => (y, 45)) = true
  | [], _ => rfl
  | y :: ys, h => by
    rw [List.map_cons, auto]
    have hy := h y (by simp)
    simp only [hy, false_and, if_false, if_true, or_true]
    exact autoL' ys fun z hz => h z (by simp [hz])
theorem sp_nil : ∀ xs : List Nat, sp xs [] = xs.map fun x => (x, 45)
  | [] => rfl
  | x :: xs => by rw [sp, sp_nil xs]; rfl
theorem gx_ne (ps : List (Nat × Nat)) : ∀ c ∈ gx ps, c ≠ 45 := fun c h => by simpa using (List.mem_filter.mp h).2
theorem gy_ne (ps : List (Nat × Nat)) : ∀ c ∈ gy ps, c ≠ 45 := fun c h => by simpa using (List.mem_filter.mp h).2
theorem auto_sp : ∀ ps : List (Nat × Nat), auto 0 ps = decide (sp (gx ps) (gy ps) = ps)
  | [] => rfl
  | (a, b) :: r => by
    rw [auto, gx_cons, gy_cons]
    by_cases ha : a = 45
    · by_cases hb : b = 45
      · rw [if_pos ⟨ha, hb⟩, if_pos ha, if_pos hb]
        symm
        apply decide_eq_false
        intro e
        subst ha hb
        have hx := gx_ne r
        have hy := gy_ne r
        cases h1 : gx r with
        | nil =>
          rw [h1] at e
          cases h2 : gy r with
          | nil => rw [h2] at e; cases e
          | cons y ys =>
            rw [h2] at e
            have e : (45, y) :: _ = (45, 45) :: r := e
            have : y = 45 := by injection e with e1; injection e1
            exact hy y (by rw [h2]; simp) this
        | cons x xs =>
          rw [h1] at e
          have nx := hx x (by rw [h1]; simp)
          cases h2 : gy r with
          | nil =>
            rw [h2] at e
            have e : (x, 45) :: _ = (45, 45) :: r := e
            injection e with e1
            injection e1 with e2
            exact nx e2
          | cons y ys =>
            rw [h2] at e
            have e : (x, y) :: _ = (45, 45) :: r := e
            injection e with e1
            injection e1 with e2
            exact nx e2
      · rw [if_neg (fun z => hb z.2), if_pos ha, if_neg hb]
        simp only [ha, if_true, true_or]
        rw [Bool.eq_iff_iff, decide_eq_true_iff]
        constructor
        · intro h
          obtain ⟨i1, i2⟩ := autoR r h
          rw [i1]
          show ((45, b) :: (gy r).map fun y => (45, y)) = _
          rw [i2]
        · intro e
          cases h1 : gx r with
          | nil =>
            rw [h1] at e
            have e : ((45, b) :: (gy r).map fun y => (45, y)) = (45, b) :: r := e
            have e2 : ((gy r).map fun y => (45, y)) = r := by injection e
            rw [← e2]
            exact autoR' _ (gy_ne r)
          | cons x xs =>
            rw [h1] at e
            have e : (x, b) :: _ = (45, b) :: r := e
            injection e with e1
            injection e1 with e2
            exact absurd e2 (gx_ne r x (by rw [h1]; simp))
    · by_cases hb : b = 45
      · rw [if_neg (fun z => ha z.1), if_neg ha, if_pos hb]
        simp only [ha, hb, if_true, if_false, true_or]
        rw [Bool.eq_iff_iff, decide_eq_true_iff]
        constructor
        · intro h
          obtain ⟨i1, i2⟩ := autoL r h
          rw [i1, sp_nil, List.map_cons, i2]
        · intro e
          cases h1 : gy r with
          | nil =>
            rw [h1, sp_nil, List.map_cons] at e
            have e2 : ((gx r).map fun y => (y, 45)) = r := by injection e
            rw [← e2]
            exact autoL' _ (gx_ne r)
          | cons y ys =>
            rw [h1] at e
            have e : (a, y) :: _ = (a, 45) :: r := e
            injection e with e1
            injection e1 with _ e2
            exact absurd e2 (gy_ne r y (by rw [h1]; simp))
      · rw [if_neg (fun z => ha z.1), if_neg ha, if_neg hb]
        simp only [ha, hb, if_false, true_or, if_true]
        rw [auto_sp r, decide_eq_decide]
        constructor
        · intro e
          show (a, b) :: sp (gx r) (gy r) = _
          rw [e]
        · intro e
          have e : (a, b) :: sp (gx r) (gy r) = (a, b) :: r := e
          injection e
def nmS : Nat → Str
  | 0 => "both"
  | 1 => "left"
  | _ => "right"
theorem one_dash (c : Nat) : ((⟨#[c]⟩ : Str) = "-") ↔ c = 45 := by
  have e : ("-" : Str) = ⟨#[45]⟩ := rfl
  rw [e]
  constructor
  · intro h
    injection h with h
    simpa using h
  · rintro rfl
    rfl
theorem nmS_inj {s f : Nat} (hs : s ≤ 2) (hf : f ≤ 2) : (nmS s = nmS f) ↔ s = f := by
  have a1 : ("both" : Str) ≠ "left" := by decide +kernel
  have a2 : ("both" : Str) ≠ "right" := by decide +kernel
  have a3 : ("left" : Str) ≠ "right" := by decide +kernel
  match s, f, hs, hf with
  | 0, 0, _, _ => simp
  | 0, 1, _, _ => simp [nmS, a1]
  | 0, 2, _, _ => simp [nmS, a2]
  | 1, 0, _, _ => simp [nmS, a1.symm]
  | 1, 1, _, _ => simp
  | 1, 2, _, _ => simp [nmS, a3]
  | 2, 0, _, _ => simp [nmS, a2.symm]
  | 2, 1, _, _ => simp [nmS, a3.symm]
  | 2, 2, _, _ => simp
theorem rowGo_auto : ∀ (ps : List (Nat × Nat)) (s : Nat), s ≤ 2 → rowGo (nmS s) (ps.map duo) = auto s ps
  | [], _, _ => rfl
  | (a, b) :: r, s, hs => by
    rw [List.map_cons, auto]
    show (match sideD (nmS s) ⟨#[a]⟩ ⟨#[b]⟩ with | .str f => rowGo f (r.map duo) | _ => false) = _
    unfold sideD
    by_cases h1 : a = 45 ∧ b = 45
    · rw [if_pos h1, if_pos ⟨(one_dash a).mpr h1.1, (one_dash b).mpr h1.2⟩]
    · rw [if_neg h1, if_neg fun z => h1 ⟨(one_dash a).mp z.1, (one_dash b).mp z.2⟩]
      have hf : farD ⟨#[a]⟩ ⟨#[b]⟩ = nmS (if a = 45 then 2 else if b = 45 then 1 else 0) := by
        unfold farD
        by_cases ha : a = 45
        · rw [if_pos ((one_dash a).mpr ha), if_pos ha]
          rfl
        · rw [if_neg fun z => ha ((one_dash a).mp z), if_neg ha]
          by_cases hb : b = 45
          · rw [if_pos ((one_dash b).mpr hb), if_pos hb]
            rfl
          · rw [if_neg fun z => hb ((one_dash b).mp z), if_neg hb]
            rfl
      rw [hf]
      obtain ⟨f, ef⟩ : ∃ f, f = (if a = 45 then 2 else if b = 45 then 1 else 0) := ⟨_, rfl⟩
      have lf : f ≤ 2 := by
        rw [ef]
        split
        · decide
        · split <;> decide
      rw [← ef]
      have c0 : (nmS s = "both") ↔ s = 0 := nmS_inj (f := 0) hs (by decide)
      have c1 := nmS_inj hs lf
      dsimp only
      by_cases hc : s = 0 ∨ s = f
      · rw [if_pos hc, if_pos (hc.elim (fun z => .inl (c0.mpr z)) fun z => .inr (c1.mpr z))]
        exact rowGo_auto r f lf
      · rw [if_neg hc, if_neg fun z => hc (z.elim (fun z => .inl (c0.mp z)) fun z => .inr (c1.mp z))]
theorem isSign_sign (c : Nat) : isSignD (signD c) = okS c := by
  show (isL c || decide ((⟨#[c]⟩ : Str) = "-")) = _
  rw [decide_eq_decide.mpr (one_dash c)]
  rfl
theorem all_okS (l : List Nat) : l.all okS = (l.filter fun c => decide (c ≠ 45)).all isL := by
  induction l with
  | nil => rfl
  | cons c l ih =>
    by_cases h : c = 45
    · subst h
      simp [okS, ih]
    · simp [okS, h, ih]
theorem rowD_duo (ps : List (Nat × Nat)) : rowD (.tuple (ps.map duo)) = ((gx ps).all isL && (gy ps).all isL && decide (sp (gx ps) (gy ps) = ps)) := by
  have e1 : rowGo "both" (ps.map duo) = auto 0 ps := rowGo_auto ps 0 (by decide)
  have e2 : (ps.map duo).all isPairD = ((gx ps).all isL && (gy ps).all isL) := by
    unfold gx gy
    rw [← all_okS, ← all_okS]
    induction ps with
    | nil => rfl
    | cons p ps ih =>
      have ip : isPairD (duo p) = (okS p.1 && okS p.2) := by
        show (isSignD (signD p.1) && isSignD (signD p.2)) = _
        rw [isSign_sign, isSign_sign]
      have ih := ih (rowGo_auto ps 0 (by decide))
      simp only [List.map_cons, List.all_cons, ih, ip]
      cases okS p.1 <;> cases okS p.2 <;> simp
  show ((ps.map duo).all isPairD && rowGo "both" (ps.map duo)) = _
  rw [e1, e2, auto_sp]
theorem eqv_duos : ∀ ps qs : List (Nat × Nat), PyData.eqvAll (ps.map duo) (qs.map duo) = decide (ps = qs)
  | [], [] => rfl
  | [], q :: qs => by simp [PyData.eqvAll]
  | p :: ps, [] => by simp [PyData.eqvAll]
  | (a, b) :: ps, (c, d) :: qs => by
    rw [List.map_cons, List.map_cons, PyData.eqvAll, eqv_duos ps qs]
    have e : PyData.eqv (duo (a, b)) (duo (c, d)) = (decide (a = c) && decide (b = d)) := by
      simp only [duo, signD, PyData.eqv, PyData.eqvAll, beq_dec]
      simp
    rw [e, Bool.eq_iff_iff]
    simp [and_assoc]
/-- a pair of two texts of one sign -/
def one : Dt → Bool
  | .str ⟨⟨[_]⟩⟩ => true
  | _ => false
def isDuo : Dt → Bool
  | .tuple [a, b] => one a && one b
  | _ => false
theorem one_of {d : Dt} (h : one d = true) : ∃ c, d = signD c := by
  unfold one at h
  split at h
  · exact ⟨_, rfl⟩
  · cases h
theorem duos_of : ∀ ds : List Dt, ds.all isDuo = true → ∃ ps : List (Nat × Nat), ds = ps.map duo
  | [], _ => ⟨[], rfl⟩
  | d :: ds, h => by
    have h : isDuo d = true ∧ ds.all isDuo = true := by simpa using h
    obtain ⟨ps, rfl⟩ := duos_of ds h.2
    have h1 := h.1
    unfold isDuo at h1
    split at h1
    · rename_i a b _
      have h1 : one a = true ∧ one b = true := by simpa using h1
      obtain ⟨x, rfl⟩ := one_of h1.1
      obtain ⟨y, rfl⟩ := one_of h1.2
      exact ⟨(x, y) :: ps, rfl⟩
    · cases h1
theorem sign_one {d : Dt} (h : isSignD d = true) : one d = true := by
  obtain ⟨z, rfl⟩ := isSign_str h
  obtain ⟨⟨l⟩⟩ := z
  match l, h with
  | [], h =>
    exfalso
    have e : ¬ ((⟨⟨[]⟩⟩ : Str) = "-") := by decide +kernel
    simp [isSignD, isLetterD, e] at h
  | [c], _ => rfl
  | c :: c2 :: l, h =>
    exfalso
    have e : ¬ ((⟨⟨c :: c2 :: l⟩⟩ : Str) = "-") := fun z => by
      have e2 : ("-" : Str) = ⟨⟨[45]⟩⟩ := rfl
      rw [e2] at z
      injection z with z
      injection z with z
      injection z with _ z
      cases z
    simp [isSignD, isLetterD, e] at h
theorem row_duos {ds : List Dt} (h : rowD (.tuple ds) = true) : ds.all isDuo = true := by
  have h : ds.all isPairD = true ∧ rowGo "both" ds = true := by simpa [rowD] using h
  rw [List.all_eq_true]
  intro d hd
  obtain ⟨a, b, rfl, ha, hb⟩ := pair_of_is (List.all_eq_true.mp h.1 d hd)
  show (one (.str a) && one (.str b)) = true
  rw [sign_one ha, sign_one hb]
  rfl
abbrev bodyLaw : SS → SO := mSeq (mIfS (mOr (mNot (toB (mIsi "tuple" (mBor 1)))) (mCmp fNeA (mB (mBu fLen (mConsB (mBor 1) mNilB))) (mB (mC (.int 2))))) (mRet (mC (.bool false))) .nx)
    (mIfS (mCmp fNeA (mB (mLc (mItems (mVar 1)) [4] (gNm 4) (mOr (mNot (toB (mIsi "str" (mBor 4)))) (mCmp fNeA (mB (mBu fLen (mConsB (mBor 4) mNilB))) (mB (mC (.int 1))))) (mVar 4))) (mB (mLst mNil))) (mRet (mC (.bool false))) .nx)
theorem one_test (d0 d1 d : Dt) (ho : okT d = true) : mOr (mNot (toB (mIsi "str" (mBor 4)))) (mCmp fNeA (mB (mBu fLen (mConsB (mBor 4) mNilB))) (mB (mC (.int 1)))) [some (.v d0), some (.v d1), none, none, some (.v d)] = .ok (!one d) [some (.v d0), some (.v d1), none, none, some (.v d)] := by
  cases d with
  | str z =>
    have hz := okT_len ho
    obtain ⟨⟨l⟩⟩ := z
    match l, hz with
    | [], hz => simp [mC, mVar, mBor, mB, mNil, mCons, mNilB, mConsB, mTup, mLst, fit, mFz, mOw, NV.sv, mSeq, mRet, mIfS, mDrop, mSet, mPar, ownL, mAppend, gNm, gNilV, gConsV, gTupV, mAsg, signs, mItems, itemsD, mRng1, mRng2, mEnum, mZip, mFor, mLc, mYes, mIf, mAnd, mOr, mNot, toB, vAnd, vOr, vNot, mBl, mCmp, mChain, two, alt, mBin, mNeg, outF, startS, mRes, mResK, opsGet, mBu, mOu, alt1, mIsi, mPart, mPart0, mSl, mSlL, mRevL, mDict0, mM1, mM0, mMn, mTupZip, mRev, EO.bind, EO.lift, EO.st, Opd.get, EO.calm, wipeS, restS, isN, fIs, fIsNot, one1, two12, two21, isi_str, is_str, fLen, neA_int, one, hz, show (⟨⟨[]⟩⟩ : Str).length = 0 from rfl, show 0 ≤ sizeLine by decide, show 1 ≤ sizeLine by decide, show 2 ≤ sizeLine by decide, show 3 ≤ sizeLine by decide, show 4 ≤ sizeLine by decide, show 5 ≤ sizeLine by decide, show 6 ≤ sizeLine by decide, show 7 ≤ sizeLine by decide, show 8 ≤ sizeLine by decide, show 9 ≤ sizeLine by decide, show 13 ≤ sizeLine by decide, show 17 ≤ sizeLine by decide, show 21 ≤ sizeLine by decide, show 26 ≤ sizeLine by decide]
    | [c], hz => simp [mC, mVar, mBor, mB, mNil, mCons, mNilB, mConsB, mTup, mLst, fit, mFz, mOw, NV.sv, mSeq, mRet, mIfS, mDrop, mSet, mPar, ownL, mAppend, gNm, gNilV, gConsV, gTupV, mAsg, signs, mItems, itemsD, mRng1, mRng2, mEnum, mZip, mFor, mLc, mYes, mIf, mAnd, mOr, mNot, toB, vAnd, vOr, vNot, mBl, mCmp, mChain, two, alt, mBin, mNeg, outF, startS, mRes, mResK, opsGet, mBu, mOu, alt1, mIsi, mPart, mPart0, mSl, mSlL, mRevL, mDict0, mM1, mM0, mMn, mTupZip, mRev, EO.bind, EO.lift, EO.st, Opd.get, EO.calm, wipeS, restS, isN, fIs, fIsNot, one1, two12, two21, isi_str, is_str, fLen, neA_int, one, hz, show (⟨⟨[c]⟩⟩ : Str).length = 1 from rfl, show 0 ≤ sizeLine by decide, show 1 ≤ sizeLine by decide, show 2 ≤ sizeLine by decide, show 3 ≤ sizeLine by decide, show 4 ≤ sizeLine by decide, show 5 ≤ sizeLine by decide, show 6 ≤ sizeLine by decide, show 7 ≤ sizeLine by decide, show 8 ≤ sizeLine by decide, show 9 ≤ sizeLine by decide, show 13 ≤ sizeLine by decide, show 17 ≤ sizeLine by decide, show 21 ≤ sizeLine by decide, show 26 ≤ sizeLine by decide]
    | c :: c2 :: l, hz =>
      have hl : ¬ (((⟨⟨c :: c2 :: l⟩⟩ : Str).length : Int) = 1) := by
        show ¬ (((l.length + 1 + 1 : Nat) : Int) = 1)
        omega
      simp [mC, mVar, mBor, mB, mNil, mCons, mNilB, mConsB, mTup, mLst, fit, mFz, mOw, NV.sv, mSeq, mRet, mIfS, mDrop, mSet, mPar, ownL, mAppend, gNm, gNilV, gConsV, gTupV, mAsg, signs, mItems, itemsD, mRng1, mRng2, mEnum, mZip, mFor, mLc, mYes, mIf, mAnd, mOr, mNot, toB, vAnd, vOr, vNot, mBl, mCmp, mChain, two, alt, mBin, mNeg, outF, startS, mRes, mResK, opsGet, mBu, mOu, alt1, mIsi, mPart, mPart0, mSl, mSlL, mRevL, mDict0, mM1, mM0, mMn, mTupZip, mRev, EO.bind, EO.lift, EO.st, Opd.get, EO.calm, wipeS, restS, isN, fIs, fIsNot, one1, two12, two21, isi_str, is_str, fLen, neA_int, one, hz, hl, show 0 ≤ sizeLine by decide, show 1 ≤ sizeLine by decide, show 2 ≤ sizeLine by decide, show 3 ≤ sizeLine by decide, show 4 ≤ sizeLine by decide, show 5 ≤ sizeLine by decide, show 6 ≤ sizeLine by decide, show 7 ≤ sizeLine by decide, show 8 ≤ sizeLine by decide, show 9 ≤ sizeLine by decide, show 13 ≤ sizeLine by decide, show 17 ≤ sizeLine by decide, show 21 ≤ sizeLine by decide, show 26 ≤ sizeLine by decide]
  | _ => simp [mC, mVar, mBor, mB, mNil, mCons, mNilB, mConsB, mTup, mLst, fit, mFz, mOw, NV.sv, mSeq, mRet, mIfS, mDrop, mSet, mPar, ownL, mAppend, gNm, gNilV, gConsV, gTupV, mAsg, signs, mItems, itemsD, mRng1, mRng2, mEnum, mZip, mFor, mLc, mYes, mIf, mAnd, mOr, mNot, toB, vAnd, vOr, vNot, mBl, mCmp, mChain, two, alt, mBin, mNeg, outF, startS, mRes, mResK, opsGet, mBu, mOu, alt1, mIsi, mPart, mPart0, mSl, mSlL, mRevL, mDict0, mM1, mM0, mMn, mTupZip, mRev, EO.bind, EO.lift, EO.st, Opd.get, EO.calm, wipeS, restS, isN, fIs, fIsNot, one1, two12, two21, isi_str, is_str, one]
theorem law_body (d0 d : Dt) (ho : okP d = true) : bodyLaw [some (.v d0), some (.v d), none, none, none] = if isDuo d = true then .nx [some (.v d0), some (.v d), none, none, none] else .rt (.bool false) [some (.v d0), some (.v d), none, none, none] := by
  cases d with
  | tuple l =>
    match l, ho with
    | [], _ => simp [bodyLaw, mC, mVar, mBor, mB, mNil, mCons, mNilB, mConsB, mTup, mLst, fit, mFz, mOw, NV.sv, mSeq, mRet, mIfS, mDrop, mSet, mPar, ownL, mAppend, gNm, gNilV, gConsV, gTupV, mAsg, signs, mItems, itemsD, mRng1, mRng2, mEnum, mZip, mFor, mLc, mYes, mIf, mAnd, mOr, mNot, toB, vAnd, vOr, vNot, mBl, mCmp, mChain, two, alt, mBin, mNeg, outF, startS, mRes, mResK, opsGet, mBu, mOu, alt1, mIsi, mPart, mPart0, mSl, mSlL, mRevL, mDict0, mM1, mM0, mMn, mTupZip, mRev, EO.bind, EO.lift, EO.st, Opd.get, EO.calm, wipeS, restS, isN, fIs, fIsNot, one1, two12, two21, isi_tuple, is_tuple, fLen, neA_int, isDuo]
    | [a], _ => simp [bodyLaw, mC, mVar, mBor, mB, mNil, mCons, mNilB, mConsB, mTup, mLst, fit, mFz, mOw, NV.sv, mSeq, mRet, mIfS, mDrop, mSet, mPar, ownL, mAppend, gNm, gNilV, gConsV, gTupV, mAsg, signs, mItems, itemsD, mRng1, mRng2, mEnum, mZip, mFor, mLc, mYes, mIf, mAnd, mOr, mNot, toB, vAnd, vOr, vNot, mBl, mCmp, mChain, two, alt, mBin, mNeg, outF, startS, mRes, mResK, opsGet, mBu, mOu, alt1, mIsi, mPart, mPart0, mSl, mSlL, mRevL, mDict0, mM1, mM0, mMn, mTupZip, mRev, EO.bind, EO.lift, EO.st, Opd.get, EO.calm, wipeS, restS, isN, fIs, fIsNot, one1, two12, two21, isi_tuple, is_tuple, fLen, neA_int, isDuo]
    | [a, b], ho =>
      have ho : okT a = true ∧ okT b = true := by simpa [okP] using ho
      have t := one_test d0 (.tuple [a, b])
      have e := lcGo_pure (vs := [4]) (g := gNm 4) (mt := mOr (mNot (toB (mIsi "str" (mBor 4)))) (mCmp fNeA (mB (mBu fLen (mConsB (mBor 4) mNilB))) (mB (mC (.int 1))))) (me := mVar 4) (s0 := [some (.v d0), some (.v (.tuple [a, b])), none, none, none]) (fun d => [some (.v d0), some (.v (.tuple [a, b])), none, none, some (.v d)]) (fun d => !one d) (fun d => d) [a, b] [] (fun d _ => rfl) (fun d hd => t d (by
        rcases List.mem_cons.mp hd with rfl | hd
        · exact ho.1
        · rcases List.mem_cons.mp hd with rfl | hd
          · exact ho.2
          · cases hd)) (fun d _ _ => rfl) (fun d _ => rfl) (show 2 ≤ sizeLine by decide)
      rw [List.nil_append, List.map_id'] at e
      unfold bodyLaw
      generalize (mOr (mNot (toB (mIsi "str" (mBor 4)))) (mCmp fNeA (mB (mBu fLen (mConsB (mBor 4) mNilB))) (mB (mC (.int 1))))) = A at e ⊢
      have dd : isDuo (.tuple [a, b]) = (one a && one b) := rfl
      rw [dd]
      cases h1 : one a <;> cases h2 : one b <;> simp [h1, h2] at e <;> simp [mC, mVar, mBor, mB, mNil, mCons, mNilB, mConsB, mTup, mLst, fit, mFz, mOw, NV.sv, mSeq, mRet, mIfS, mDrop, mSet, mPar, ownL, mAppend, gNm, gNilV, gConsV, gTupV, mAsg, signs, mItems, itemsD, mRng1, mRng2, mEnum, mZip, mFor, mLc, mYes, mIf, mAnd, mOr, mNot, toB, vAnd, vOr, vNot, mBl, mCmp, mChain, two, alt, mBin, mNeg, outF, startS, mRes, mResK, opsGet, mBu, mOu, alt1, mIsi, mPart, mPart0, mSl, mSlL, mRevL, mDict0, mM1, mM0, mMn, mTupZip, mRev, EO.bind, EO.lift, EO.st, Opd.get, EO.calm, wipeS, restS, isN, fIs, fIsNot, one1, two12, two21, isi_tuple, is_tuple, fLen, neA_int, e, neA_nil, show 0 ≤ sizeLine by decide, show 1 ≤ sizeLine by decide, show 2 ≤ sizeLine by decide, show 3 ≤ sizeLine by decide, show 4 ≤ sizeLine by decide, show 5 ≤ sizeLine by decide, show 6 ≤ sizeLine by decide, show 7 ≤ sizeLine by decide, show 8 ≤ sizeLine by decide, show 9 ≤ sizeLine by decide, show 13 ≤ sizeLine by decide, show 17 ≤ sizeLine by decide, show 21 ≤ sizeLine by decide, show 26 ≤ sizeLine by decide]
    | a :: b :: c :: l, _ =>
      have hl : ¬ (((a :: b :: c :: l).length : Int) = 2) := by
        show ¬ (((l.length + 1 + 1 + 1 : Nat) : Int) = 2)
        omega
      have q : fNeA (.int ((a :: b :: c :: l).length : Int)) (.int 2) = some true := by rw [neA_int, decide_eq_false hl]; rfl
      generalize hL : a :: b :: c :: l = L at q
      have nd : isDuo (.tuple L) = false := by rw [← hL]; rfl
      simp [bodyLaw, mC, mVar, mBor, mB, mNil, mCons, mNilB, mConsB, mTup, mLst, fit, mFz, mOw, NV.sv, mSeq, mRet, mIfS, mDrop, mSet, mPar, ownL, mAppend, gNm, gNilV, gConsV, gTupV, mAsg, signs, mItems, itemsD, mRng1, mRng2, mEnum, mZip, mFor, mLc, mYes, mIf, mAnd, mOr, mNot, toB, vAnd, vOr, vNot, mBl, mCmp, mChain, two, alt, mBin, mNeg, outF, startS, mRes, mResK, opsGet, mBu, mOu, alt1, mIsi, mPart, mPart0, mSl, mSlL, mRevL, mDict0, mM1, mM0, mMn, mTupZip, mRev, EO.bind, EO.lift, EO.st, Opd.get, EO.calm, wipeS, restS, isN, fIs, fIsNot, one1, two12, two21, isi_tuple, is_tuple, fLen, q, nd]
  | _ => simp [bodyLaw, mC, mVar, mBor, mB, mNil, mCons, mNilB, mConsB, mTup, mLst, fit, mFz, mOw, NV.sv, mSeq, mRet, mIfS, mDrop, mSet, mPar, ownL, mAppend, gNm, gNilV, gConsV, gTupV, mAsg, signs, mItems, itemsD, mRng1, mRng2, mEnum, mZip, mFor, mLc, mYes, mIf, mAnd, mOr, mNot, toB, vAnd, vOr, vNot, mBl, mCmp, mChain, two, alt, mBin, mNeg, outF, startS, mRes, mResK, opsGet, mBu, mOu, alt1, mIsi, mPart, mPart0, mSl, mSlL, mRevL, mDict0, mM1, mM0, mMn, mTupZip, mRev, EO.bind, EO.lift, EO.st, Opd.get, EO.calm, wipeS, restS, isN, fIs, fIsNot, one1, two12, two21, isi_tuple, is_tuple, isDuo]
theorem law_loop : ∀ (ds : List Dt) (d0 : Dt) (y : Option Dt), ds.all okP = true →
    (ds.all isDuo = true → ∃ y' : Option Dt, forGo (gNm 1) bodyLaw ds [some (.v d0), y.map SV.v, none, none, none] = .nx [some (.v d0), y'.map SV.v, none, none, none]) ∧
    (ds.all isDuo = false → ∃ ss, forGo (gNm 1) bodyLaw ds [some (.v d0), y.map SV.v, none, none, none] = .rt (.bool false) ss)
  | [], d0, y, _ => ⟨fun _ => ⟨y, rfl⟩, fun h => by simp at h⟩
  | d :: ds, d0, y, h => by
    have h : okP d = true ∧ ds.all okP = true := by simpa using h
    have ih := law_loop ds d0 (some d) h.2
    have g : gNm 1 d [some (.v d0), y.map SV.v, none, none, none] = some [some (.v d0), some (.v d), none, none, none] := rfl
    rw [forGo, g]
    dsimp only
    rw [law_body d0 d h.1]
    by_cases hd : isDuo d = true
    · rw [if_pos hd, List.all_cons, hd, Bool.true_and]
      exact ih
    · rw [if_neg hd]
      have hd : isDuo d = false := by simpa using hd
      rw [List.all_cons, hd, Bool.false_and]
      exact ⟨fun z => (nomatch z), fun _ => ⟨_, rfl⟩⟩
theorem okT_txt {l : List Nat} (h1 : l.length ≤ 1000) (h2 : ∀ c ∈ l, c < 1114112) : okT (.str (txt l)) = true := by
  have e : PyData.strOk (txt l) = true := by
    unfold PyData.strOk txt
    simpa using h2
  simp only [okT, e, Bool.and_true, decide_eq_true_eq, txt_len]
  exact h1
theorem okP_lt {p : Nat × Nat} (h : okP (duo p) = true) : p.1 < 1114112 ∧ p.2 < 1114112 := by
  have h : okT (signD p.1) = true ∧ okT (signD p.2) = true := by simpa [okP, duo] using h
  have g : ∀ c, okT (signD c) = true → c < 1114112 := fun c hc => by
    have := okT_ok (z := ⟨#[c]⟩) hc
    unfold PyData.strOk at this
    simpa using this
  exact ⟨g _ h.1, g _ h.2⟩
theorem strOk1 {c : Nat} (h : c < 1114112) : PyData.strOk ⟨#[c]⟩ = true := by
  unfold PyData.strOk
  simpa using h
theorem shaped_duos (ps : List (Nat × Nat)) (h : ∀ p ∈ ps, p.1 < 1114112 ∧ p.2 < 1114112) : SeqAt.shaped (.tuple (ps.map duo)) = true := by
  have e1 : PyData.canLayAll0 (ps.map duo) = true := by
    induction ps with
    | nil => rfl
    | cons p ps ih =>
      obtain ⟨h1, h2⟩ := h p (by simp)
      simp only [List.map_cons, PyData.canLayAll0, ih fun q hq => h q (by simp [hq]), duo, signD, PyData.canLay0, strOk1 h1, strOk1 h2, Bool.and_self]
  have e2 : PyData.depthAll (ps.map duo) ≤ 3 := by
    clear e1 h
    induction ps with
    | nil => simp [PyData.depthAll]
    | cons p ps ih =>
      have : PyData.depth (duo p) ≤ 3 := by simp [duo, signD, PyData.depth, PyData.depthAll]
      simp only [List.map_cons, PyData.depthAll]
      omega
  unfold SeqAt.shaped
  rw [show PyData.canLay0 (.tuple (ps.map duo)) = true from by simpa [PyData.canLay0] using e1, Bool.true_and, decide_eq_true_eq]
  simp only [PyData.depth]
  omega
theorem eqA_duos (ps qs : List (Nat × Nat)) (h : ∀ p ∈ ps, p.1 < 1114112 ∧ p.2 < 1114112) (g : ∀ p ∈ qs, p.1 < 1114112 ∧ p.2 < 1114112) : fEqA (.tuple (ps.map duo)) (.tuple (qs.map duo)) = some (decide (ps = qs)) := by
  unfold fEqA alt
  cases qs with
  | nil =>
    show some (ps.map duo).isEmpty = _
    cases ps <;> rfl
  | cons q qs =>
    show fEq (.tuple (ps.map duo)) (.tuple ((q :: qs).map duo)) = _
    unfold fEq
    rw [if_pos ⟨shaped_duos ps h, shaped_duos _ g⟩]
    simp only [PyData.eqv, eqv_duos]
theorem sp_lt : ∀ (xs ys : List Nat), (∀ c ∈ xs, c < 1114112) → (∀ c ∈ ys, c < 1114112) → ∀ p ∈ sp xs ys, p.1 < 1114112 ∧ p.2 < 1114112
  | [], ys, _, h, p, hp => by
    obtain ⟨y, hy, rfl⟩ := List.mem_map.mp hp
    exact ⟨show (45 : Nat) < 1114112 by decide, h y hy⟩
  | x :: xs, [], g, h, p, hp => by
    rcases List.mem_cons.mp hp with rfl | hp
    · exact ⟨g x (by simp), show (45 : Nat) < 1114112 by decide⟩
    · exact sp_lt xs [] (fun c hc => g c (by simp [hc])) h p hp
  | x :: xs, y :: ys, g, h, p, hp => by
    rcases List.mem_cons.mp hp with rfl | hp
    · exact ⟨g x (by simp), h y (by simp)⟩
    · exact sp_lt xs ys (fun c hc => g c (by simp [hc])) (fun c hc => h c (by simp [hc])) p hp
theorem ne_dash {c : Nat} (hc : c < 1114112) : fNeA (.str ⟨#[c]⟩) (.str "-") = some (decide (c ≠ 45)) := by
  rw [neA_str (strOk1 hc) dash_ok]
  by_cases h : c = 45
  · rw [decide_eq_true ((one_dash c).mpr h), decide_eq_false (fun z => z h)]
    rfl
  · rw [decide_eq_false (fun z => h ((one_dash c).mp z)), decide_eq_true h]
    rfl
theorem pick_fst : ∀ ps : List (Nat × Nat), (∀ p ∈ ps, p.1 < 1114112 ∧ p.2 < 1114112) → ((ps.map duo).filter fun d => (fNeA ((fIx d (.int 0)).getD .none) (.str "-")).getD false).map (fun d => (fIx d (.int 0)).getD .none) = (gx ps).map signD
  | [], _ => rfl
  | p :: ps, lt => by
    have i0 : (fIx (duo p) (.int 0)).getD .none = .str ⟨#[p.1]⟩ := rfl
    have q1 := ne_dash (lt p (by simp)).1
    have ih := pick_fst ps fun r hr => lt r (by simp [hr])
    obtain ⟨a, b⟩ := p
    rw [gx_cons]
    simp only at i0 q1
    rw [List.map_cons, List.filter_cons]
    have e : (fNeA ((fIx (duo (a, b)) (.int 0)).getD .none) (.str "-")).getD false = decide (a ≠ 45) := by rw [i0, q1]; rfl
    rw [e]
    by_cases h : a = 45
    · rw [if_pos h, if_neg (by simp [h])]
      exact ih
    · rw [if_neg h, if_pos (by simp [h]), List.map_cons, ih, i0]
      rfl
theorem pick_snd : ∀ ps : List (Nat × Nat), (∀ p ∈ ps, p.1 < 1114112 ∧ p.2 < 1114112) → ((ps.map duo).filter fun d => (fNeA ((fIx d (.int 1)).getD .none) (.str "-")).getD false).map (fun d => (fIx d (.int 1)).getD .none) = (gy ps).map signD
  | [], _ => rfl
  | p :: ps, lt => by
    have i0 : (fIx (duo p) (.int 1)).getD .none = .str ⟨#[p.2]⟩ := rfl
    have q1 := ne_dash (lt p (by simp)).2
    have ih := pick_snd ps fun r hr => lt r (by simp [hr])
    obtain ⟨a, b⟩ := p
    rw [gy_cons]
    simp only at i0 q1
    rw [List.map_cons, List.filter_cons]
    have e : (fNeA ((fIx (duo (a, b)) (.int 1)).getD .none) (.str "-")).getD false = decide (b ≠ 45) := by rw [i0, q1]; rfl
    rw [e]
    by_cases h : b = 45
    · rw [if_pos h, if_neg (by simp [h])]
      exact ih
    · rw [if_neg h, if_pos (by simp [h]), List.map_cons, ih, i0]
      rfl
theorem v_law_is_row {d : Dt} (ho : okR d = true) : G__law_is_row [d] = .ok (.bool (rowD d)) := by
  unfold G__law_is_row
  cases d with
  | tuple ds =>
    have ho : ds.all okP = true ∧ ds.length ≤ 1000 := by simpa [okR] using ho
    have q := law_loop ds (.tuple ds) none ho.1
    cases hd : ds.all isDuo with
    | false =>
      obtain ⟨ss, q⟩ := q.2 hd
      have r : rowD (.tuple ds) = false := by
        cases hr : rowD (.tuple ds) with
        | false => rfl
        | true => rw [row_duos hr] at hd; cases hd
      rw [r]
      unfold m__law_is_row
      generalize hB : bodyLaw = B at q
      have hB : (mSeq (mIfS (mOr (mNot (toB (mIsi "tuple" (mBor 1)))) (mCmp fNeA (mB (mBu fLen (mConsB (mBor 1) mNilB))) (mB (mC (.int 2))))) (mRet (mC (.bool false))) .nx) (mIfS (mCmp fNeA (mB (mLc (mItems (mVar 1)) [4] (gNm 4) (mOr (mNot (toB (mIsi "str" (mBor 4)))) (mCmp fNeA (mB (mBu fLen (mConsB (mBor 4) mNilB))) (mB (mC (.int 1))))) (mVar 4))) (mB (mLst mNil))) (mRet (mC (.bool false))) .nx)) = B := hB
      rw [hB]
      simp at q
      simp [N__law_is_row, outF, startS, mSeq, mIfS, mNot, toB, mIsi, mBor, EO.bind, EO.st, EO.lift, Opd.get, isi_tuple, is_tuple, mFor, mItems, mVar, itemsD, q]
    | true =>
      obtain ⟨y', q⟩ := q.1 hd
      obtain ⟨ps, rfl⟩ := duos_of ds hd
      have lt : ∀ p ∈ ps, p.1 < 1114112 ∧ p.2 < 1114112 := fun p hp => okP_lt (List.all_eq_true.mp ho.1 _ (List.mem_map.mpr ⟨p, hp, rfl⟩))
      have lp : ps.length ≤ 1000 := by simpa using ho.2
      have ne : ∀ c, c < 1114112 → fNeA (.str ⟨#[c]⟩) (.str "-") = some (decide (c ≠ 45)) := fun c hc => ne_dash hc
      have e1 := lcGo_pure (vs := [1]) (g := gNm 1) (mt := mCmp fNeA (mB (mBin fIx (mBor 1) (mB (mC (.int 0))))) (mB (mC (.str "-")))) (me := mBin fIx (mBor 1) (mB (mC (.int 0)))) (s0 := [some (.v (.tuple (ps.map duo))), none, none, none, none]) (fun d => [some (.v (.tuple (ps.map duo))), some (.v d), none, none, none]) (fun d => (fNeA ((fIx d (.int 0)).getD .none) (.str "-")).getD false) (fun d => (fIx d (.int 0)).getD .none) (ps.map duo) [] (fun d _ => rfl) (fun d hd => by
          obtain ⟨p, hp, rfl⟩ := List.mem_map.mp hd
          have q1 := ne p.1 (lt p hp).1
          have i0 := sp_ix0 p
          simp only [signD] at i0
          simp [mC, mVar, mBor, mB, mNil, mCons, mNilB, mConsB, mTup, mLst, fit, mFz, mOw, NV.sv, mSeq, mRet, mIfS, mDrop, mSet, mPar, ownL, mAppend, gNm, gNilV, gConsV, gTupV, mAsg, signs, mItems, itemsD, mRng1, mRng2, mEnum, mZip, mFor, mLc, mYes, mIf, mAnd, mOr, mNot, toB, vAnd, vOr, vNot, mBl, mCmp, mChain, two, alt, mBin, mNeg, outF, startS, mRes, mResK, opsGet, mBu, mOu, alt1, mIsi, mPart, mPart0, mSl, mSlL, mRevL, mDict0, mM1, mM0, mMn, mTupZip, mRev, EO.bind, EO.lift, EO.st, Opd.get, EO.calm, wipeS, restS, isN, fIs, fIsNot, one1, two12, two21, i0, q1]) (fun d hd _ => by
          obtain ⟨p, hp, rfl⟩ := List.mem_map.mp hd
          rfl) (fun d _ => rfl) (by
          have : (1000 : Nat) ≤ sizeLine := by decide
          rw [List.length_nil, List.length_map]
          omega)
      have e2 := lcGo_pure (vs := [1]) (g := gNm 1) (mt := mCmp fNeA (mB (mBin fIx (mBor 1) (mB (mC (.int 1))))) (mB (mC (.str "-")))) (me := mBin fIx (mBor 1) (mB (mC (.int 1)))) (s0 := [some (.v (.tuple (ps.map duo))), none, none, none, none]) (fun d => [some (.v (.tuple (ps.map duo))), some (.v d), none, none, none]) (fun d => (fNeA ((fIx d (.int 1)).getD .none) (.str "-")).getD false) (fun d => (fIx d (.int 1)).getD .none) (ps.map duo) [] (fun d _ => rfl) (fun d hd => by
          obtain ⟨p, hp, rfl⟩ := List.mem_map.mp hd
          have q1 := ne p.2 (lt p hp).2
          have i0 := sp_ix1 p
          simp only [signD] at i0
          simp [mC, mVar, mBor, mB, mNil, mCons, mNilB, mConsB, mTup, mLst, fit, mFz, mOw, NV.sv, mSeq, mRet, mIfS, mDrop, mSet, mPar, ownL, mAppend, gNm, gNilV, gConsV, gTupV, mAsg, signs, mItems, itemsD, mRng1, mRng2, mEnum, mZip, mFor, mLc, mYes, mIf, mAnd, mOr, mNot, toB, vAnd, vOr, vNot, mBl, mCmp, mChain, two, alt, mBin, mNeg, outF, startS, mRes, mResK, opsGet, mBu, mOu, alt1, mIsi, mPart, mPart0, mSl, mSlL, mRevL, mDict0, mM1, mM0, mMn, mTupZip, mRev, EO.bind, EO.lift, EO.st, Opd.get, EO.calm, wipeS, restS, isN, fIs, fIsNot, one1, two12, two21, i0, q1]) (fun d hd _ => by
          obtain ⟨p, hp, rfl⟩ := List.mem_map.mp hd
          rfl) (fun d _ => rfl) (by
          have : (1000 : Nat) ≤ sizeLine := by decide
          rw [List.length_nil, List.length_map]
          omega)
      have g1 := pick_fst ps lt
      have g2 := pick_snd ps lt
      rw [List.nil_append, g1] at e1
      rw [List.nil_append, g2] at e2
      have lx : (gx ps).length ≤ 1000 := Nat.le_trans (List.length_filter_le _ _) (by rw [List.length_map]; exact lp)
      have ly : (gy ps).length ≤ 1000 := Nat.le_trans (List.length_filter_le _ _) (by rw [List.length_map]; exact lp)
      have kx : ∀ c ∈ gx ps, c < 1114112 := fun c hc => by
        obtain ⟨p, hp, rfl⟩ := List.mem_map.mp (List.mem_filter.mp hc).1
        exact (lt p hp).1
      have ky : ∀ c ∈ gy ps, c < 1114112 := fun c hc => by
        obtain ⟨p, hp, rfl⟩ := List.mem_map.mp (List.mem_filter.mp hc).1
        exact (lt p hp).2
      have j1 := join_fst (gx ps) (by omega)
      have j2 := join_fst (gy ps) (by omega)
      have tl : ∀ l : List Nat, (txt l).cps.toList = l := fun l => by simp [txt]
      have t1 : G__law_is_text [.str (txt (gx ps))] = .ok (.bool ((gx ps).all isL)) := by rw [v_law_is_text (okT_txt lx kx)]; show Res.ok (PyData.bool ((txt (gx ps)).cps.toList.all isL)) = _; rw [tl]
      have t2 : G__law_is_text [.str (txt (gy ps))] = .ok (.bool ((gy ps).all isL)) := by rw [v_law_is_text (okT_txt ly ky)]; show Res.ok (PyData.bool ((txt (gy ps)).cps.toList.all isL)) = _; rw [tl]
      have s1 : G__law_signs [.str (txt (gx ps)), .str (txt (gy ps))] = .ok (.tuple ((sp (gx ps) (gy ps)).map duo)) := by
        rw [v_signs (by rw [txt_len]; exact lx) (by rw [txt_len]; exact ly), tl, tl]
        rfl
      have c1 := eqA_duos (sp (gx ps) (gy ps)) ps (sp_lt _ _ kx ky) lt
      rw [rowD_duo]
      clear g1 g2 lt ne kx ky ho hd
      generalize gx ps = X at *
      generalize gy ps = Y at *
      generalize decide (sp X Y = ps) = cc at *
      generalize (sp X Y).map duo = S at *
      generalize ps.map duo = D at *
      unfold m__law_is_row
      generalize hB : bodyLaw = B at q
      have hB : (mSeq (mIfS (mOr (mNot (toB (mIsi "tuple" (mBor 1)))) (mCmp fNeA (mB (mBu fLen (mConsB (mBor 1) mNilB))) (mB (mC (.int 2))))) (mRet (mC (.bool false))) .nx) (mIfS (mCmp fNeA (mB (mLc (mItems (mVar 1)) [4] (gNm 4) (mOr (mNot (toB (mIsi "str" (mBor 4)))) (mCmp fNeA (mB (mBu fLen (mConsB (mBor 4) mNilB))) (mB (mC (.int 1))))) (mVar 4))) (mB (mLst mNil))) (mRet (mC (.bool false))) .nx)) = B := hB
      rw [hB]
      generalize (mCmp fNeA (mB (mBin fIx (mBor 1) (mB (mC (.int 0))))) (mB (mC (.str "-")))) = A1 at e1 ⊢
      generalize (mCmp fNeA (mB (mBin fIx (mBor 1) (mB (mC (.int 1))))) (mB (mC (.str "-")))) = A2 at e2 ⊢
      generalize (mBin fIx (mBor 1) (mB (mC (.int 0)))) = A3 at e1 ⊢
      generalize (mBin fIx (mBor 1) (mB (mC (.int 1)))) = A4 at e2 ⊢
      cases y' with
      | none =>
        simp at q
        cases hx : X.all isL <;> cases hy : Y.all isL <;> simp only [hx, hy] at t1 t2 <;>
        simp [N__law_is_row, outF, startS, mSeq, mIfS, mNot, toB, mIsi, mBor, EO.bind, EO.st, EO.lift, Opd.get, isi_tuple, is_tuple, mFor, mItems, mVar, itemsD, q, mPar, mFz, mM1, mB, mC, mLc, wipeS, restS, e1, e2, j1, j2, NV.sv, mRet, vAnd, mRes, mCons, mNil, t1, t2, mBl, mCmp, s1, two, c1]
      | some yd =>
        simp at q
        cases hx : X.all isL <;> cases hy : Y.all isL <;> simp only [hx, hy] at t1 t2 <;>
        simp [N__law_is_row, outF, startS, mSeq, mIfS, mNot, toB, mIsi, mBor, EO.bind, EO.st, EO.lift, Opd.get, isi_tuple, is_tuple, mFor, mItems, mVar, itemsD, q, mPar, mFz, mM1, mB, mC, mLc, wipeS, restS, e1, e2, j1, j2, NV.sv, mRet, vAnd, mRes, mCons, mNil, t1, t2, mBl, mCmp, s1, two, c1]
  | _ => simp [m__law_is_row, N__law_is_row, mC, mVar, mBor, mB, mNil, mCons, mNilB, mConsB, mTup, mLst, fit, mFz, mOw, NV.sv, mSeq, mRet, mIfS, mDrop, mSet, mPar, ownL, mAppend, gNm, gNilV, gConsV, gTupV, mAsg, signs, mItems, itemsD, mRng1, mRng2, mEnum, mZip, mFor, mLc, mYes, mIf, mAnd, mOr, mNot, toB, vAnd, vOr, vNot, mBl, mCmp, mChain, two, alt, mBin, mNeg, outF, startS, mRes, mResK, opsGet, mBu, mOu, alt1, mIsi, mPart, mPart0, mSl, mSlL, mRevL, mDict0, mM1, mM0, mMn, mTupZip, mRev, EO.bind, EO.lift, EO.st, Opd.get, EO.calm, wipeS, restS, isN, fIs, fIsNot, one1, two12, two21, isi_tuple, is_tuple, rowD]
section
variable {P : Program} {w : World} {K : PySem.W.Frag} {mg : Str → Option Value} {base : Heap}
theorem go__law_is_row (T : Top K mg) : Go P w K mg base 2 "_law_is_row" s__law_is_row ["_law_it"] (spF K mg 1 G__law_is_row) := go_pure T.d__law_is_row sc__law_is_row (by decide) rfl e__law_is_row fun f cdv A outer s H E C =>
    (ss_cons (s_if (t_not (t_val (v_isi C (bn 0) (by intro _; rfl) T.b_isinstance (by intro _; rfl) T.b_tuple (by decide +kernel)))) (ss_one (s_ret v_bl)) ss_nil)
    (ss_cons (s_for C (i_sq C (nm 0)) (gn C 1) (ss_cons (s_if (t_w (w_or (t_not (t_val (v_isi C (bn 1) (by intro _; rfl) T.b_isinstance (by intro _; rfl) T.b_tuple (by decide +kernel)))) (w_or1 (t_cmp (b_val (v_bu C (u_len C) (bs_cons (bn 1) bs_nil) (by intro _; rfl) T.b_len (by decide +kernel))) (b_val v_int) (c_neA C) rfl)))) (ss_one (s_ret v_bl)) ss_nil)
    (ss_one (s_if (t_cmp (b_val (v_new (o_lc C (fun _ => bo_72_11) (i_sq C (nm 1)) (gn (C.blk cs_72_11) 4) (ts_one (t_w (w_or (t_not (t_val (v_isi (C.blk cs_72_11) (bn 4) (by intro _; rfl) T.b_isinstance (by intro _; rfl) T.b_str (by decide +kernel)))) (w_or1 (t_cmp (b_val (v_bu (C.blk cs_72_11) (u_len (C.blk cs_72_11)) (bs_cons (bn 4) bs_nil) (by intro _; rfl) T.b_len (by decide +kernel))) (b_val v_int) (c_neA (C.blk cs_72_11)) rfl))))) (nm 4)))) (b_val (v_new (o_lst a_nil))) (c_neA C) rfl) (ss_one (s_ret v_bl)) ss_nil))))
    (ss_cons (par2 C 2 3 (n_v (v_m1 F.slot_str_join F.type_str_join (u_join C) (b_val v_str) (b_val (v_new (o_lc C (fun _ => bo_74_30) (i_sq C (nm 0)) (gn (C.blk cs_74_30) 1) (ts_one (t_cmp (b_val (v_ix (C.blk cs_74_30) (bn 1) (b_val v_int))) (b_val v_str) (c_neA (C.blk cs_74_30)) rfl)) (v_ix (C.blk cs_74_30) (bn 1) (b_val v_int))))))) (n_v (v_m1 F.slot_str_join F.type_str_join (u_join C) (b_val v_str) (b_val (v_new (o_lc C (fun _ => bo_74_100) (i_sq C (nm 0)) (gn (C.blk cs_74_100) 1) (ts_one (t_cmp (b_val (v_ix (C.blk cs_74_100) (bn 1) (b_val v_int))) (b_val v_str) (c_neA (C.blk cs_74_100)) rfl)) (v_ix (C.blk cs_74_100) (bn 1) (b_val v_int))))))))
    (ss_one (s_ret (v_and (call C (go__law_is_text T) (by first | decide | omega) rfl (a_cons (nm 2) a_nil) (mCons_len mNil_len)) (v_and (call C (go__law_is_text T) (by first | decide | omega) rfl (a_cons (nm 3) a_nil) (mCons_len mNil_len)) (v_one (v_cmp (b_val (call C (go__law_signs T) (by first | decide | omega) rfl (a_cons (nm 2) (a_cons (nm 3) a_nil)) (mCons_len (mCons_len mNil_len)))) (bn 0) (c_eqA C) rfl)))))))))
end

theorem sc__law_are_told : FnScope ["_law_it", "_law_told", "_law_due", "_law_was"] ["_law_it"] (defScope s__law_are_told) := ⟨rfl, rfl, rfl, by decide +kernel, rfl, by decide +kernel, by decide +kernel⟩
abbrev N__law_are_told : List Str := ["_law_it", "_law_told", "_law_due", "_law_was"]
def m__law_are_told : SS → SO := (mSeq (mPar 2 3 (mOw (mLst (mCons (mRes G__law_is_text (mCons (mVar 0) mNil)) (mCons (mRes G__law_is_row (mCons (mVar 0) mNil)) mNil)))) (mFz (mBu fRepr (mConsB (mBor 0) mNilB))))
    (mSeq (mSet 1 (mOw (mLst (mCons (mRes G_is_text (mCons (mVar 0) mNil)) (mCons (mRes G_is_row (mCons (mVar 0) mNil)) (mCons (mResK (one1 []) G_is_text (mCons (mVar 0) mNil)) (mCons (mResK (one1 []) G_is_row (mCons (mVar 0) mNil)) mNil)))))))
    (mRet (vAnd (mBl (mCmp fEqA (mB (mBu fRepr (mConsB (mBor 1) mNilB))) (mB (mBu fRepr (mConsB (mB (mBin gMulA (mBor 2) (mB (mC (.int 2))))) mNilB))))) (mBl (mCmp fEqA (mB (mBu fRepr (mConsB (mBor 0) mNilB))) (mBor 3)))))))
def G__law_are_told : List Dt → Res Dt := fun ds => outF (m__law_are_told (startS N__law_are_told ds))
theorem e__law_are_told (ds : List Dt) (h : ds.length = 1) : outF (m__law_are_told (startS N__law_are_told ds)) = G__law_are_told ds ∨ G__law_are_told ds = .no := .inl rfl
section
variable {P : Program} {w : World} {K : PySem.W.Frag} {mg : Str → Option Value} {base : Heap}
theorem go__law_are_told (T : Top K mg) : Go P w K mg base 5 "_law_are_told" s__law_are_told ["_law_it"] (spF K mg 1 G__law_are_told) := go_pure T.d__law_are_told sc__law_are_told (by decide) rfl e__law_are_told fun f cdv A outer s H E C =>
    (ss_cons (par2 C 2 3 (n_o (o_lst (a_cons (call C (go__law_is_text T) (by first | decide | omega) rfl (a_cons (nm 0) a_nil) (mCons_len mNil_len)) (a_cons (call C (go__law_is_row T) (by first | decide | omega) rfl (a_cons (nm 0) a_nil) (mCons_len mNil_len)) a_nil)))) (n_v (v_bu C (u_repr C) (bs_cons (bn 0) bs_nil) (by intro _; rfl) T.b_repr (by decide +kernel))))
    (ss_cons (set1 C 1 (n_o (o_lst (a_cons (call C (go_is_text T) (by first | decide | omega) rfl (a_cons (nm 0) a_nil) (mCons_len mNil_len)) (a_cons (call C (go_is_row T) (by first | decide | omega) rfl (a_cons (nm 0) a_nil) (mCons_len mNil_len)) (a_cons (callK C (go_is_text T) (by decide) (fun _ _ F => kb1 F fun _ _ _ _ _ _ _ => rfl) pm1 (k_cons (nm 0) k_nil) (mCons_len mNil_len)) (a_cons (callK C (go_is_row T) (by decide) (fun _ _ F => kb1 F fun _ _ _ _ _ _ _ => rfl) pm1 (k_cons (nm 0) k_nil) (mCons_len mNil_len)) a_nil)))))))
    (ss_one (s_ret (v_and (v_cmp (b_val (v_bu C (u_repr C) (bs_cons (bn 1) bs_nil) (by intro _; rfl) T.b_repr (by decide +kernel))) (b_val (v_bu C (u_repr C) (bs_cons (b_val (v_bin (bn 2) (b_val v_int) (s_mulA C))) bs_nil) (by intro _; rfl) T.b_repr (by decide +kernel))) (c_eqA C) rfl) (v_one (v_cmp (b_val (v_bu C (u_repr C) (bs_cons (bn 0) bs_nil) (by intro _; rfl) T.b_repr (by decide +kernel))) (bn 3) (c_eqA C) rfl)))))))
end

theorem sc_law : FnScope ["_law_script", "_law_deck_here", "_law_turn", "_law_every", "_law_long", "_law_odd_here", "_law_due", "_law_some", "_law_k", "_law_x", "_law_y", "_law_it"] ["_law_script"] (defScope s_law) := ⟨rfl, rfl, rfl, by decide +kernel, rfl, by decide +kernel, by decide +kernel⟩
def cs_111_11 : Scope := { kind := PySem.ScopeKind.function, names := [ (PySem.Str.ofString ".0", PySem.NameKind.local), (PySem.Str.ofString "_law_it", PySem.NameKind.local), (PySem.Str.ofString "_law_are_told", PySem.NameKind.globalImplicit)], isGenerator := false, isCoroutine := false, more := [] : PySem.Scope }
theorem bo_111_11 : BlkOk ["_law_script", "_law_deck_here", "_law_turn", "_law_every", "_law_long", "_law_odd_here", "_law_due", "_law_some", "_law_k", "_law_x", "_law_y", "_law_it"] (defScope s_law) cs_111_11 [("_law_it", 11)] := ⟨rfl, by decide, by decide, by decide, by decide⟩
def cs_117_12 : Scope := { kind := PySem.ScopeKind.function, names := [ (PySem.Str.ofString ".0", PySem.NameKind.local), (PySem.Str.ofString "_law_it", PySem.NameKind.local), (PySem.Str.ofString "is_row", PySem.NameKind.globalImplicit)], isGenerator := false, isCoroutine := false, more := [] : PySem.Scope }
theorem bo_117_12 : BlkOk ["_law_script", "_law_deck_here", "_law_turn", "_law_every", "_law_long", "_law_odd_here", "_law_due", "_law_some", "_law_k", "_law_x", "_law_y", "_law_it"] (defScope s_law) cs_117_12 [("_law_it", 11)] := ⟨rfl, by decide, by decide, by decide, by decide⟩
def cs_120_11 : Scope := { kind := PySem.ScopeKind.function, names := [ (PySem.Str.ofString ".0", PySem.NameKind.local), (PySem.Str.ofString "_law_it", PySem.NameKind.local), (PySem.Str.ofString "_law_are_told", PySem.NameKind.globalImplicit)], isGenerator := false, isCoroutine := false, more := [] : PySem.Scope }
theorem bo_120_11 : BlkOk ["_law_script", "_law_deck_here", "_law_turn", "_law_every", "_law_long", "_law_odd_here", "_law_due", "_law_some", "_law_k", "_law_x", "_law_y", "_law_it"] (defScope s_law) cs_120_11 [("_law_it", 11)] := ⟨rfl, by decide, by decide, by decide, by decide⟩
abbrev N_law : List Str := ["_law_script", "_law_deck_here", "_law_turn", "_law_every", "_law_long", "_law_odd_here", "_law_due", "_law_some", "_law_k", "_law_x", "_law_y", "_law_it"]
def m_law : SS → SO := (mSeq (mFor (mRng1 (mCons (mC (.int 12)) mNil)) (gNm 2) (mSeq (mPar 9 10 (mFz (mDraw 1 G__law_word (mCons (mDraw 1 G__law_pick (mCons (mLst (mCons (mC (.int 3)) (mCons (mC (.int 12)) mNil))) mNil)) mNil))) (mFz (mDraw 1 G__law_word (mCons (mDraw 1 G__law_pick (mCons (mLst (mCons (mC (.int 3)) (mCons (mC (.int 12)) mNil))) mNil)) mNil))))
    (mSeq (mSet 6 (mFz (mRes G__law_signs (mCons (mVar 9) (mCons (mVar 10) mNil)))))
    (mSeq (mIfS (mCmp fNeA (mB (mBu fRepr (mConsB (mB (mLst (mCons (mRes G_row_of (mCons (mVar 9) (mCons (mVar 10) mNil))) (mCons (mResK (two21 []) G_row_of (mCons (mVar 10) (mCons (mVar 9) mNil))) mNil)))) mNilB))) (mB (mBu fRepr (mConsB (mB (mLst (mCons (mVar 6) (mCons (mVar 6) mNil)))) mNilB)))) (mRet (mC (.bool false))) .nx)
    (mSeq (mIfS (mCmp fNeA (mB (mBu fRepr (mConsB (mB (mLst (mCons (mRes G_pair_of (mCons (mVar 6) mNil)) (mCons (mResK (one1 []) G_pair_of (mCons (mVar 6) mNil)) mNil)))) mNilB))) (mB (mBu fRepr (mConsB (mB (mLst (mCons (mTup (mCons (mVar 9) (mCons (mVar 10) mNil))) (mCons (mTup (mCons (mVar 9) (mCons (mVar 10) mNil))) mNil)))) mNilB)))) (mRet (mC (.bool false))) .nx)
    (mSeq (mSet 7 (mOw (mLst (mCons (mVar 6) (mCons (mVar 9) (mCons (mBin gAdd (mBor 9) (mBor 10)) (mCons (mBin gAdd (mBor 6) (mB (mTup (mCons (mTup (mCons (mDraw 1 G__law_pick (mCons (mC (.str "ab-")) mNil)) (mCons (mDraw 1 G__law_pick (mCons (mC (.str "ab-")) mNil)) mNil))) mNil)))) mNil)))))))
    (mSeq (mSet 7 (mOw (mBin gAddL (mBor 7) (mB (mLst (mCons (mBin gAdd (mB (mTup (mCons (mTup (mCons (mC (.str "-")) (mCons (mDraw 1 G__law_pick (mCons (mC (.str "ab-")) mNil)) mNil))) mNil))) (mBor 6)) mNil))))))
    (mSeq (mFor (mRng1 (mCons (mC (.int 8)) mNil)) (gNm 8) (mAppend 7 (mDraw 1 (G__law_bent 4) (mCons (mBin fIx (mBor 7) (mB (mBin gMod (mBor 8) (mB (mC (.int 5)))))) mNil))))
    (mIfS (mCmp fNeA (mB (mLc (mItems (mBin gAddL (mBor 7) (mB (mLst (mCons (mDraw 1 (G__law_bent 4) (mCons (mBin fIx (mBor 7) (mB (mNeg (mC (.int 1))))) mNil)) mNil))))) [11] (gNm 11) (mNot (toB (mRes G__law_are_told (mCons (mVar 11) mNil)))) (mVar 11))) (mB (mLst mNil))) (mRet (mC (.bool false))) .nx)))))))))
    (mSeq (mSet 3 (mFz (mC (.str "abcdefghijklmnopqrstuvwxyz"))))
    (mSeq (mIfS (mOr (mNot (toB (mRes G_is_text (mCons (mVar 3) mNil)))) (mCmp fNeA (mB (mBu fRepr (mConsB (mB (mRes G_row_of (mCons (mVar 3) (mCons (mRev (mBor 3)) mNil)))) mNilB))) (mB (mBu fRepr (mConsB (mB (mRes G__law_signs (mCons (mVar 3) (mCons (mRev (mBor 3)) mNil)))) mNilB))))) (mRet (mC (.bool false))) .nx)
    (mSeq (mSet 4 (mOw (mLst (mCons (mBin gMulA (mB (mTup (mCons (mTup (mCons (mC (.str "a")) (mCons (mC (.str "-")) mNil))) mNil))) (mB (mC (.int 999)))) (mCons (mBin gAdd (mB (mBin gMulA (mB (mTup (mCons (mTup (mCons (mC (.str "a")) (mCons (mC (.str "-")) mNil))) mNil))) (mB (mC (.int 998))))) (mB (mTup (mCons (mTup (mCons (mC (.str "-")) (mCons (mC (.str "a")) mNil))) mNil)))) (mCons (mBin gMulA (mB (mTup (mCons (mTup (mCons (mC (.str "-")) (mCons (mC (.str "z")) mNil))) mNil))) (mB (mC (.int 999)))) mNil))))))
    (mSeq (mIfS (mOr (mCmp fNeA (mB (mBu fRepr (mConsB (mB (mLc (mItems (mVar 4)) [11] (gNm 11) mYes (mRes G_is_row (mCons (mVar 11) mNil)))) mNilB))) (mB (mBu fRepr (mConsB (mB (mLst (mCons (mC (.bool true)) (mCons (mC (.bool false)) (mCons (mC (.bool true)) mNil))))) mNilB)))) (mNot (toB (mRes G_is_row (mCons (mRes G__law_signs (mCons (mVar 3) (mCons (mC (.str "")) mNil))) mNil))))) (mRet (mC (.bool false))) .nx)
    (mSeq (mSet 5 (mOw (mLst (mCons (mC .none) (mCons (mC (.int 0)) (mCons (mC (.bool true)) (mCons (mTup mNil) (mCons (mLst mNil) (mCons mDict0 (mCons (mC (.str "")) (mCons (mC (.str "a-")) (mCons (mC (.str "A")) (mCons (mC (.str "a1")) (mCons (mTup (mCons (mTup (mCons (mC (.str "a")) (mCons (mC (.str "-")) mNil))) (mCons (mTup (mCons (mC (.str "b")) (mCons (mC (.str "c")) mNil))) mNil))) (mCons (mTup (mCons (mTup (mCons (mC (.str "-")) (mCons (mC (.str "-")) mNil))) mNil)) (mCons (mTup (mCons (mC (.str "ab")) mNil)) mNil))))))))))))))))
    (mRet (mBl (mCmp fEqA (mB (mLc (mItems (mVar 5)) [11] (gNm 11) (mNot (toB (mRes G__law_are_told (mCons (mVar 11) mNil)))) (mVar 11))) (mB (mLst mNil)))))))))))
theorem addI (i j : Int) : gAdd (.int i) (.int j) = some (.int (i + j)) := rfl
theorem modI {j : Int} (i : Int) (h : 0 < j) : gMod (.int i) (.int j) = some (.int (i % j)) := by
  show (if 0 < j then some (i % j) else none).map PyData.int = _
  rw [if_pos h]
  rfl
theorem divI {j : Int} (i : Int) (h : 0 < j) (h2 : j < 1073741824) : gDiv (.int i) (.int j) = some (.int (i / j)) := by
  show (if 0 < j ∧ j < 1073741824 then some (i / j) else none).map PyData.int = _
  rw [if_pos ⟨h, h2⟩]
  rfl
theorem gMulA_int {i j z : Int} (h : gMul (.int i) (.int j) = some (.int z)) : gMulA (.int i) (.int j) = some (.int z) := by
  unfold gMulA alt
  rw [h]
theorem mulR {j : Int} (i : Int) (h : -(2 ^ 64) < j) (h2 : j < 2 ^ 64) : gMulA (.int i) (.int j) = some (.int (i * j)) := by
  apply gMulA_int
  simp only [gMul, gInt]
  rw [if_pos (.inr ⟨h, h2⟩)]
  rfl
theorem mulL {i : Int} (j : Int) (h : -(2 ^ 64) < i) (h2 : i < 2 ^ 64) : gMulA (.int i) (.int j) = some (.int (i * j)) := by
  apply gMulA_int
  simp only [gMul, gInt]
  rw [if_pos (.inl ⟨h, h2⟩)]
  rfl
theorem v_law_draw {q : List Int} {b c n : Int} (hn : 0 < n) (hn2 : n < 1073741824) (hc : 0 ≤ c) (hc2 : c < 2 ^ 60) (hq : q.length ≤ 100) : ∃ r q' b', G__law_draw (q, b, c) [.int n] = .ok (.int r, (q', b', c + 1)) ∧ 0 ≤ r ∧ r < n ∧ q'.length ≤ q.length := by
  have sq : q.length ≤ sizeLine := Nat.le_trans hq (by decide)
  have m1 : gMulA (.int 72013) (.int (c + 1)) = some (.int (72013 * (c + 1))) := mulL _ (by decide) (by decide)
  have m2 : gMulA (.int (72013 * (c + 1))) (.int (c + 1)) = some (.int (72013 * (c + 1) * (c + 1))) := mulR _ (by omega) (by omega)
  have m3 : ∀ x : Int, gMulA (.int (x % 2147483587)) (.int 48271) = some (.int (x % 2147483587 * 48271)) := fun x => mulR _ (by decide) (by decide)
  have m4 : ∀ x : Int, gMulA (.int (x % 2147483647)) (.int (x % 2147483647)) = some (.int (x % 2147483647 * (x % 2147483647))) := fun x => mulR _ (by omega) (by omega)
  have m5 : gMulA (.int 69621) (.int (c + 1)) = some (.int (69621 * (c + 1))) := mulL _ (by decide) (by decide)
  have m6 : ∀ x : Int, gMulA (.int x) (.int 39373) = some (.int (x * 39373)) := fun x => mulR _ (by decide) (by decide)
  have p1 : gPow (.int 10) (.int 18) = some (.int 1000000000000000000) := by
    simp only [gPow, gInt]
    rw [if_pos (by decide)]
    rfl
  have d1 : ∀ x : Int, gMod (.int x) (.int 2147483587) = some (.int (x % 2147483587)) := fun x => modI x (by decide)
  have d2 : ∀ x : Int, gMod (.int x) (.int 2147483647) = some (.int (x % 2147483647)) := fun x => modI x (by decide)
  have d3 : ∀ x : Int, gMod (.int x) (.int 2147483549) = some (.int (x % 2147483549)) := fun x => modI x (by decide)
  have d4 : ∀ x : Int, gMod (.int x) (.int 2147483629) = some (.int (x % 2147483629)) := fun x => modI x (by decide)
  have d5 : ∀ x : Int, gDiv (.int x) (.int 64) = some (.int (x / 64)) := fun x => divI x (by decide) (by decide)
  have d6 : ∀ x : Int, gMod (.int x) (.int n) = some (.int (x % n)) := fun x => modI x hn
  have rn : ∀ x : Int, 0 ≤ x % n ∧ x % n < n := fun x => ⟨Int.emod_nonneg _ (by omega), Int.emod_lt_of_pos _ hn⟩
  unfold G__law_draw
  cases hql : q.getLast? with
  | none =>
    have e : q = [] := List.getLast?_eq_none_iff.mp hql
    subst e
    simp [m__law_draw, N__law_draw, startD, outX, dkAny, mDkSet, mDkI, mDkNe, mDkPop, mDkApp, dkOf, mC, mVar, mBor, mB, mNil, mCons, mNilB, mConsB, mTup, mLst, fit, mFz, mOw, NV.sv, mSeq, mRet, mIfS, mDrop, mSet, mPar, ownL, mAppend, gNm, gNilV, gConsV, gTupV, mAsg, signs, mItems, itemsD, mRng1, mRng2, mEnum, mZip, mFor, mLc, mYes, mIf, mAnd, mOr, mNot, toB, vAnd, vOr, vNot, mBl, mCmp, mChain, two, alt, mBin, mNeg, outF, startS, mRes, mResK, opsGet, mBu, mOu, alt1, mIsi, mPart, mPart0, mSl, mSlL, mRevL, mDict0, mM1, mM0, mMn, mTupZip, mRev, EO.bind, EO.lift, EO.st, Opd.get, EO.calm, wipeS, restS, isN, fIs, fIsNot, one1, two12, two21, addI, m1, m2, m3, m4, m5, m6, d1, d2, d3, d4, d5, d6, fInt1]
    exact ⟨_, [], ⟨rfl, rfl⟩, (rn _).1, (rn _).2, rfl⟩
  | some z =>
    have hl : q.dropLast.length + 1 = q.length := by
      have : q ≠ [] := by intro e; subst e; simp at hql
      rw [List.length_dropLast]
      have := List.length_pos_iff.mpr this
      omega
    have ne : q ≠ [] := by intro e; subst e; simp at hql
    have gl : q.getLast ne = z := by
      have := List.getLast?_eq_some_getLast ne
      rw [hql] at this
      exact (Option.some.inj this).symm
    have g1 : fGe (.int z) (.int 1000000000000000000) = some (decide ((1000000000000000000 : Int) ≤ z)) := rfl
    have c1 : 0 < n ∧ n < 1073741824 ∧ q.dropLast.length < sizeLine := ⟨hn, hn2, by omega⟩
    by_cases hz : (1000000000000000000 : Int) ≤ z
    · simp [m__law_draw, N__law_draw, startD, outX, dkAny, mDkSet, mDkI, mDkNe, mDkPop, mDkApp, dkOf, mC, mVar, mBor, mB, mNil, mCons, mNilB, mConsB, mTup, mLst, fit, mFz, mOw, NV.sv, mSeq, mRet, mIfS, mDrop, mSet, mPar, ownL, mAppend, gNm, gNilV, gConsV, gTupV, mAsg, signs, mItems, itemsD, mRng1, mRng2, mEnum, mZip, mFor, mLc, mYes, mIf, mAnd, mOr, mNot, toB, vAnd, vOr, vNot, mBl, mCmp, mChain, two, alt, mBin, mNeg, outF, startS, mRes, mResK, opsGet, mBu, mOu, alt1, mIsi, mPart, mPart0, mSl, mSlL, mRevL, mDict0, mM1, mM0, mMn, mTupZip, mRev, EO.bind, EO.lift, EO.st, Opd.get, EO.calm, wipeS, restS, isN, fIs, fIsNot, one1, two12, two21, addI, m1, m2, m3, m4, m5, m6, d1, d2, d3, d4, d5, d6, fInt1, hql, hz, p1, ne, g1, c1, -List.length_dropLast]
      refine ⟨_, _, ⟨rfl, rfl⟩, (rn _).1, (rn _).2, ?_⟩
      simp
      omega
    · simp [m__law_draw, N__law_draw, startD, outX, dkAny, mDkSet, mDkI, mDkNe, mDkPop, mDkApp, dkOf, mC, mVar, mBor, mB, mNil, mCons, mNilB, mConsB, mTup, mLst, fit, mFz, mOw, NV.sv, mSeq, mRet, mIfS, mDrop, mSet, mPar, ownL, mAppend, gNm, gNilV, gConsV, gTupV, mAsg, signs, mItems, itemsD, mRng1, mRng2, mEnum, mZip, mFor, mLc, mYes, mIf, mAnd, mOr, mNot, toB, vAnd, vOr, vNot, mBl, mCmp, mChain, two, alt, mBin, mNeg, outF, startS, mRes, mResK, opsGet, mBu, mOu, alt1, mIsi, mPart, mPart0, mSl, mSlL, mRevL, mDict0, mM1, mM0, mMn, mTupZip, mRev, EO.bind, EO.lift, EO.st, Opd.get, EO.calm, wipeS, restS, isN, fIs, fIsNot, one1, two12, two21, addI, m1, m2, m3, m4, m5, m6, d1, d2, d3, d4, d5, d6, fInt1, hql, hz, p1, ne, g1, c1, -List.length_dropLast]
      refine ⟨_, _, ⟨rfl, rfl⟩, (rn _).1, (rn _).2, ?_⟩
      simp
def Fine (k : Nat) (D : Dk) : Prop := D.1.length ≤ 100 ∧ 0 ≤ D.2.2 ∧ D.2.2 ≤ (k : Int)
theorem Fine.up {k l : Nat} {D : Dk} (h : Fine k D) (hl : k ≤ l) : Fine l D := ⟨h.1, h.2.1, by have := h.2.2; omega⟩
theorem d_draw {D : Dk} {k : Nat} {n : Int} (h : Fine k D) (hk : k < 1000000) (hn : 0 < n) (hn2 : n < 1073741824) : ∃ r D', G__law_draw D [.int n] = .ok (.int r, D') ∧ 0 ≤ r ∧ r < n ∧ Fine (k + 1) D' := by
  obtain ⟨q, b, c⟩ := D
  obtain ⟨h1, h2, h3⟩ := h
  dsimp at h1 h2 h3
  obtain ⟨r, q', b', e, r1, r2, l⟩ := v_law_draw (b := b) hn hn2 h2 (by omega) h1
  exact ⟨r, (q', b', c + 1), e, r1, r2, by dsimp; omega, by dsimp; omega, by dsimp; omega⟩
theorem atI_in {ds : List Dt} {r : Int} (h : 0 ≤ r) (h2 : r < ds.length) : ∃ d ∈ ds, atI ds r = some d := by
  obtain ⟨n, rfl⟩ := Int.eq_ofNat_of_zero_le h
  have hn : n < ds.length := by omega
  exact ⟨ds[n], List.getElem_mem hn, atI_nat (List.getElem?_eq_getElem hn)⟩
theorem d_pick {D : Dk} {k : Nat} {ds : List Dt} (h : Fine k D) (hk : k < 1000000) (hn : 0 < ds.length) (hn2 : ds.length < 1000000) : ∃ d D', G__law_pick D [.list ds] = .ok (d, D') ∧ d ∈ ds ∧ Fine (k + 1) D' := by
  obtain ⟨r, D', e, r1, r2, f⟩ := d_draw (n := (ds.length : Int)) h hk (by omega) (by omega)
  obtain ⟨d, hd, ed⟩ := atI_in r1 r2
  obtain ⟨q, b, c⟩ := D
  obtain ⟨q', b', c'⟩ := D'
  refine ⟨d, (q', b', c'), ?_, hd, f⟩
  unfold G__law_pick
  have e2 : fIx (.list ds) (.int r) = some d := ed
  have e3 : fLen [.list ds] = some (.int ds.length) := rfl
  simp [m__law_pick, N__law_pick, startD, outX, dkAny, mDraw, e, e2, e3, mC, mVar, mBor, mB, mNil, mCons, mNilB, mConsB, mTup, mLst, fit, mFz, mOw, NV.sv, mSeq, mRet, mIfS, mDrop, mSet, mPar, ownL, mAppend, gNm, gNilV, gConsV, gTupV, mAsg, signs, mItems, itemsD, mRng1, mRng2, mEnum, mZip, mFor, mLc, mYes, mIf, mAnd, mOr, mNot, toB, vAnd, vOr, vNot, mBl, mCmp, mChain, two, alt, mBin, mNeg, outF, startS, mRes, mResK, opsGet, mBu, mOu, alt1, mIsi, mPart, mPart0, mSl, mSlL, mRevL, mDict0, mM1, mM0, mMn, mTupZip, mRev, EO.bind, EO.lift, EO.st, Opd.get, EO.calm, wipeS, restS, isN, fIs, fIsNot, one1, two12, two21]
theorem d_pickS {D : Dk} {k : Nat} {cs : List Nat} (h : Fine k D) (hk : k < 1000000) (hn : 0 < cs.length) (hn2 : cs.length < 1000) : ∃ c D', G__law_pick D [.str (txt cs)] = .ok (signD c, D') ∧ c ∈ cs ∧ Fine (k + 1) D' := by
  obtain ⟨r, D', e, r1, r2, f⟩ := d_draw (n := (cs.length : Int)) h hk (by omega) (by omega)
  obtain ⟨n, rfl⟩ := Int.eq_ofNat_of_zero_le r1
  have hn : n < cs.length := by omega
  have ed : atI cs (n : Int) = some cs[n] := atI_nat (List.getElem?_eq_getElem hn)
  obtain ⟨q, b, c⟩ := D
  obtain ⟨q', b', c'⟩ := D'
  refine ⟨cs[n], (q', b', c'), ?_, List.getElem_mem hn, f⟩
  unfold G__law_pick
  have hl : (txt cs).length = cs.length := rfl
  have e2 : fIx (.str (txt cs)) (.int n) = some (signD cs[n]) := by
    show (if (txt cs).length ≤ sizeLine then (atI cs (n : Int)).map signD else none) = _
    rw [if_pos (Nat.le_trans (show (txt cs).length ≤ 1000 by rw [hl]; omega) (by decide)), ed]
    rfl
  have e3 : fLen [.str (txt cs)] = some (.int cs.length) := by
    show (if (txt cs).length ≤ sizeLine then some (PyData.int (txt cs).length) else none) = _
    rw [if_pos (Nat.le_trans (show (txt cs).length ≤ 1000 by rw [hl]; omega) (by decide)), hl]
  simp [m__law_pick, N__law_pick, startD, outX, dkAny, mDraw, e, e2, e3, mC, mVar, mBor, mB, mNil, mCons, mNilB, mConsB, mTup, mLst, fit, mFz, mOw, NV.sv, mSeq, mRet, mIfS, mDrop, mSet, mPar, ownL, mAppend, gNm, gNilV, gConsV, gTupV, mAsg, signs, mItems, itemsD, mRng1, mRng2, mEnum, mZip, mFor, mLc, mYes, mIf, mAnd, mOr, mNot, toB, vAnd, vOr, vNot, mBl, mCmp, mChain, two, alt, mBin, mNeg, outF, startS, mRes, mResK, opsGet, mBu, mOu, alt1, mIsi, mPart, mPart0, mSl, mSlL, mRevL, mDict0, mM1, mM0, mMn, mTupZip, mRev, EO.bind, EO.lift, EO.st, Opd.get, EO.calm, wipeS, restS, isN, fIs, fIsNot, one1, two12, two21]
theorem abz : (.str "abz" : Dt) = .str (txt [97, 98, 122]) := rfl
def isW (c : Nat) : Bool := c == 97 || c == 98 || c == 122
theorem word_loop (t : Int) : ∀ (items : List Dt) (k : Nat) (D : Dk) (acc : List Dt), Fine k D → k + items.length < 1000000 → acc.length + items.length ≤ 1000 →
    ∃ (cs : List Nat) (D' : Dk), lcGo [2] (gNm 2) mYes (mDraw 0 G__law_pick (mCons (mC (.str "abz")) mNil)) items [some (.dk 0 D.1 D.2.1 D.2.2), some (.v (.int t)), none] acc = .ok (acc ++ cs.map signD) [some (.dk 0 D'.1 D'.2.1 D'.2.2), some (.v (.int t)), none] ∧ cs.length = items.length ∧ cs.all isW = true ∧ Fine (k + items.length) D'
  | [], k, D, acc, h, _, _ => ⟨[], D, by simp [lcGo], rfl, rfl, h⟩
  | d :: items, k, D, acc, h, hk, ha => by
    rw [List.length_cons] at hk ha
    obtain ⟨c, D1, e, hc, f⟩ := d_pickS (cs := [97, 98, 122]) h (by omega) (by decide) (by decide)
    rw [← abz] at e
    have hsz : acc.length < sizeLine := Nat.lt_of_lt_of_le (show acc.length < 1001 by omega) (by decide)
    obtain ⟨cs, D2, e2, l, w, f2⟩ := word_loop t items (k + 1) D1 (acc ++ [signD c]) f (by omega) (by simp; omega)
    refine ⟨c :: cs, D2, ?_, by simp [l], ?_, by rw [List.length_cons]; exact f2.up (by omega)⟩
    · rw [lcGo]
      obtain ⟨q, b, n⟩ := D
      obtain ⟨q1, b1, n1⟩ := D1
      simp [mDraw, e, mC, mVar, mBor, mB, mNil, mCons, mNilB, mConsB, mTup, mLst, fit, mFz, mOw, NV.sv, mSeq, mRet, mIfS, mDrop, mSet, mPar, ownL, mAppend, gNm, gNilV, gConsV, gTupV, mAsg, signs, mItems, itemsD, mRng1, mRng2, mEnum, mZip, mFor, mLc, mYes, mIf, mAnd, mOr, mNot, toB, vAnd, vOr, vNot, mBl, mCmp, mChain, two, alt, mBin, mNeg, outF, startS, mRes, mResK, opsGet, mBu, mOu, alt1, mIsi, mPart, mPart0, mSl, mSlL, mRevL, mDict0, mM1, mM0, mMn, mTupZip, mRev, EO.bind, EO.lift, EO.st, Opd.get, EO.calm, wipeS, restS, isN, fIs, fIsNot, one1, two12, two21, hsz]
      simpa using e2
    · rw [List.all_cons, w]
      simp [isW]
      simp at hc
      rcases hc with h | h | h <;> simp [h]
theorem d_word {D : Dk} {k t : Nat} (h : Fine k D) (hk : k < 100000) (ht : t ≤ 12) : ∃ cs D', G__law_word D [.int t] = .ok (.str (txt cs), D') ∧ cs.length ≤ t ∧ cs.all isW = true ∧ Fine (k + 13) D' := by
  obtain ⟨r, D1, e, r1, r2, f⟩ := d_draw (n := (t : Int) + 1) h (by omega) (by omega) (by omega)
  obtain ⟨n, rfl⟩ := Int.eq_ofNat_of_zero_le r1
  have hr : (rangeD 0 n).length = n := by simp [rangeD]
  obtain ⟨cs, D2, e2, l, w, f2⟩ := word_loop t (rangeD 0 n) (k + 1) D1 [] f (by omega) (by simp [hr]; omega)
  rw [hr] at l f2
  refine ⟨cs, D2, ?_, by omega, w, f2.up (by omega)⟩
  unfold G__law_word
  have s6 : small62 (n : Int) := ⟨by omega, by omega⟩
  have j : fJoin [.str "", .list (cs.map signD)] = some (.str (txt cs)) := join_fst cs (by omega)
  have ea : gAdd (.int t) (.int 1) = some (.int ((t : Int) + 1)) := rfl
  obtain ⟨q, b, c⟩ := D
  obtain ⟨q1, b1, c1⟩ := D1
  obtain ⟨q2, b2, c2⟩ := D2
  dsimp at e2
  unfold m__law_word
  generalize mDraw 0 G__law_pick (mCons (mC (.str "abz")) mNil) = B at e2 ⊢
  simp [N__law_word, startD, outX, dkAny, mDraw, e, mC, mVar, mBor, mB, mNil, mCons, mNilB, mConsB, mTup, mLst, fit, mFz, mOw, NV.sv, mSeq, mRet, mIfS, mDrop, mSet, mPar, ownL, mAppend, gNm, gNilV, gConsV, gTupV, mAsg, signs, mItems, itemsD, mRng1, mRng2, mEnum, mZip, mFor, mLc, mYes, mIf, mAnd, mOr, mNot, toB, vAnd, vOr, vNot, mBl, mCmp, mChain, two, alt, mBin, mNeg, outF, startS, mRes, mResK, opsGet, mBu, mOu, alt1, mIsi, mPart, mPart0, mSl, mSlL, mRevL, mDict0, mM1, mM0, mMn, mTupZip, mRev, EO.bind, EO.lift, EO.st, Opd.get, EO.calm, wipeS, restS, isN, fIs, fIsNot, one1, two12, two21, ea, s6, e2, j]
mutual
/-- no less than the length of what is shown -/
def wt : Dt → Nat
  | .str z => 10 * z.length + 2
  | .none => 10
  | .bool _ => 10
  | .int _ => 10
  | .list ds => wtA ds + 4
  | .tuple ds => wtA ds + 4
  | .dict _ => 2
def wtA : List Dt → Nat
  | [] => 0
  | d :: ds => wt d + 2 + wtA ds
end
mutual
def fn : Dt → Bool
  | .str z => z.cps.toList.all fun c => decide (c < 128)
  | .none => true
  | .bool _ => true
  | .int i => decide (i = 0)
  | .list ds => fnA ds
  | .tuple ds => fnA ds
  | .dict kvs => kvs.isEmpty
def fnA : List Dt → Bool
  | [] => true
  | d :: ds => fn d && fnA ds
end
theorem fnA_all : ∀ ds : List Dt, fnA ds = ds.all fn
  | [] => rfl
  | d :: ds => by rw [fnA, List.all_cons, fnA_all ds]
theorem wtA_app : ∀ xs ys : List Dt, wtA (xs ++ ys) = wtA xs + wtA ys
  | [], ys => by simp [wtA]
  | d :: xs, ys => by
    rw [List.cons_append, wtA, wtA, wtA_app xs ys]
    omega
theorem join_piled (ts : List Str) : (Str.join ", " ts).length ≤ piled ts := by
  by_cases h : ts = []
  · subst h; exact Nat.zero_le _
  · have := join_length_add ts h; omega
theorem len_list (ts : List Str) : (listText ts).length ≤ piled ts + 2 := by
  cases ts with
  | nil => decide
  | cons t ts =>
    have h := textFrom_length_pos ts 1 (("[" : Str) ++ (if (0 : Nat) > 0 then ", " else "" : String) ++ t) (by omega)
    have e : (listText (t :: ts)).length = (textFrom 1 (("[" : Str) ++ (if (0 : Nat) > 0 then ", " else "" : String) ++ t) ts).length + 1 := by
      show (textFrom 0 "[" (t :: ts) ++ "]").length = _
      rw [strLen_append]
      rfl
    rw [e, h, strLen_append]
    have : (("[" : Str) ++ (if (0 : Nat) > 0 then ", " else "" : String)).length = 1 := rfl
    rw [this]
    simp [piled]
    omega
theorem len_tuple (ts : List Str) : (tupleText ts).length ≤ piled ts + 4 := by
  have := join_piled ts
  unfold tupleText
  rw [strLen_append, strLen_append]
  have e : ("(" : Str).length = 1 := rfl
  rw [e]
  split
  · have : (Str.ofString ",)").length = 2 := rfl
    omega
  · have : (Str.ofString ")").length = 1 := rfl
    omega
mutual
theorem shown_wt : ∀ d : Dt, fn d = true → d.shown.length ≤ wt d
  | .str z, h => by
    simp only [fn, List.all_eq_true, decide_eq_true_eq] at h
    have := StrLaws.reprText_len z (fun c hc => Nat.lt_trans (h c hc) (by decide))
    simpa [PyData.shown, wt] using this
  | .none, _ => by simp only [PyData.shown, wt]; decide
  | .bool true, _ => by simp only [PyData.shown, wt]; decide
  | .bool false, _ => by simp only [PyData.shown, wt]; decide
  | .int i, h => by
    have : i = 0 := by simpa [fn] using h
    subst this
    simp only [PyData.shown, wt]
    decide
  | .list ds, h => by
    have h := shown_wtA ds (by simpa [fn] using h)
    have := len_list (PyData.shownAll ds)
    simp only [PyData.shown, wt]
    omega
  | .tuple ds, h => by
    have h := shown_wtA ds (by simpa [fn] using h)
    have := len_tuple (PyData.shownAll ds)
    simp only [PyData.shown, wt]
    omega
  | .dict [], _ => by simp only [PyData.shown, PyData.shownKv, wt]; decide
  | .dict (_ :: _), h => by simp [fn] at h
theorem shown_wtA : ∀ ds : List Dt, fnA ds = true → piled (PyData.shownAll ds) ≤ wtA ds
  | [], _ => by simp only [PyData.shownAll, wtA]; decide
  | d :: ds, h => by
    have h : fn d = true ∧ fnA ds = true := by simpa [fnA] using h
    have h1 := shown_wt d h.1
    have h2 := shown_wtA ds h.2
    simp only [PyData.shownAll, wtA, piled]
    simp only [piled] at h2
    simp
    omega
end
mutual
theorem showable_fn : ∀ d : Dt, fn d = true → d.showable = true
  | .str z, h => by simp only [PyData.showable]
  | .none, _ => by simp only [PyData.showable]
  | .bool _, _ => by simp only [PyData.showable]
  | .int i, h => by
    have : i = 0 := by simpa [fn] using h
    subst this
    simp only [PyData.showable]
    decide
  | .list ds, h => by simp only [PyData.showable]; exact showable_fnA ds (by simpa [fn] using h)
  | .tuple ds, h => by simp only [PyData.showable]; exact showable_fnA ds (by simpa [fn] using h)
  | .dict [], _ => by simp only [PyData.showable, PyData.showableKv]
  | .dict (_ :: _), h => by simp [fn] at h
theorem showable_fnA : ∀ ds : List Dt, fnA ds = true → PyData.showableAll ds = true
  | [], _ => by simp only [PyData.showableAll]
  | d :: ds, h => by
    have h : fn d = true ∧ fnA ds = true := by simpa [fnA] using h
    simp only [PyData.showableAll, showable_fn d h.1, showable_fnA ds h.2, Bool.and_self]
end
theorem repr_fn {d : Dt} (h : fn d = true) (hd : d.depth ≤ 100) (hw : wt d ≤ 1000000) : fRepr [d] = some (.str d.shown) := by
  have c : canRepr d = true := by
    unfold canRepr
    simp only [Bool.and_eq_true, decide_eq_true_eq]
    exact ⟨⟨showable_fn d h, hd⟩, Nat.le_trans (shown_wt d h) (Nat.le_trans hw (by decide))⟩
  show (if canRepr d = true then some (PyData.str d.shown) else none) = _
  rw [if_pos c]
theorem strOk_fn {z : Str} (h : fn (.str z) = true) : PyData.strOk z = true := by
  simp only [fn, List.all_eq_true, decide_eq_true_eq] at h
  unfold PyData.strOk
  rw [← Array.all_toList, List.all_eq_true]
  intro c hc
  have := h c hc
  simp
  omega
theorem okT_fn {d : Dt} (h : fn d = true) (hw : wt d ≤ 4000) : okT d = true := by
  cases d with
  | str z =>
    have := strOk_fn h
    simp only [wt] at hw
    simp [okT, this]
    omega
  | _ => rfl
theorem wt_mem : ∀ {ds : List Dt} {d : Dt}, d ∈ ds → wt d ≤ wtA ds
  | e :: ds, d, h => by
    rw [wtA]
    rcases List.mem_cons.mp h with rfl | h
    · omega
    · have := wt_mem h; omega
theorem wt_pos : ∀ d : Dt, 2 ≤ wt d := fun d => by cases d <;> simp [wt]
theorem wtA_len : ∀ ds : List Dt, 4 * ds.length ≤ wtA ds
  | [] => Nat.zero_le _
  | d :: ds => by
    have := wt_pos d
    have := wtA_len ds
    rw [wtA, List.length_cons]
    omega
theorem okP_fn {d : Dt} (h : fn d = true) (hw : wt d ≤ 4000) : okP d = true := by
  cases d with
  | tuple ds =>
    have h : fnA ds = true := by simpa [fn] using h
    rw [fnA_all, List.all_eq_true] at h
    simp only [wt] at hw
    match ds with
    | [a, b] =>
      have ha := okT_fn (h a (by simp)) (by have := wt_mem (ds := [a, b]) (d := a) (by simp); omega)
      have hb := okT_fn (h b (by simp)) (by have := wt_mem (ds := [a, b]) (d := b) (by simp); omega)
      simp [okP, ha, hb]
    | [] => rfl
    | [_] => rfl
    | _ :: _ :: _ :: _ => rfl
  | _ => rfl
theorem okR_fn {d : Dt} (h : fn d = true) (hw : wt d ≤ 4000) : okR d = true := by
  cases d with
  | tuple ds =>
    have h : fnA ds = true := by simpa [fn] using h
    rw [fnA_all, List.all_eq_true] at h
    simp only [wt] at hw
    have hl := wtA_len ds
    simp only [okR, Bool.and_eq_true, decide_eq_true_eq, List.all_eq_true]
    exact ⟨fun e he => okP_fn (h e he) (by have := wt_mem he; omega), by omega⟩
  | str z => exact okT_fn h hw
  | _ => rfl
theorem rep2 (a b : Bool) : gMulA (.list [.bool a, .bool b]) (.int 2) = some (.list [.bool a, .bool b, .bool a, .bool b]) := by cases a <;> cases b <;> rfl
theorem repr4 (a b : Bool) : fRepr [.list [.bool a, .bool b, .bool a, .bool b]] = some (.str (PyData.list [.bool a, .bool b, .bool a, .bool b]).shown) := repr_fn rfl (by simp [PyData.depth, PyData.depthAll]) (by simp [wt, wtA])
theorem v_told {d : Dt} (h : fn d = true) (hd : d.depth ≤ 100) (hw : wt d ≤ 4000) : G__law_are_told [d] = .ok (.bool true) := by
  have hT := okT_fn h hw
  have hR := okR_fn h hw
  have e1 := v_law_is_text hT
  have e2 := v_law_is_row hR
  have e3 := v_is_text hT
  have e4 := v_is_row hR
  have e5 := repr_fn h hd (Nat.le_trans hw (by decide))
  have e6 := rep2 (isTextD d) (rowD d)
  have e7 := repr4 (isTextD d) (rowD d)
  have s2 : (2 : Nat) ≤ sizeLine := by decide
  have s4 : (4 : Nat) ≤ sizeLine := by decide
  unfold G__law_are_told
  simp [s2, s4, m__law_are_told, N__law_are_told, outF, startS, mC, mVar, mBor, mB, mNil, mCons, mNilB, mConsB, mTup, mLst, fit, mFz, mOw, NV.sv, mSeq, mRet, mIfS, mDrop, mSet, mPar, ownL, mAppend, gNm, gNilV, gConsV, gTupV, mAsg, signs, mItems, itemsD, mRng1, mRng2, mEnum, mZip, mFor, mLc, mYes, mIf, mAnd, mOr, mNot, toB, vAnd, vOr, vNot, mBl, mCmp, mChain, two, alt, mBin, mNeg, outF, startS, mRes, mResK, opsGet, mBu, mOu, alt1, mIsi, mPart, mPart0, mSl, mSlL, mRevL, mDict0, mM1, mM0, mMn, mTupZip, mRev, EO.bind, EO.lift, EO.st, Opd.get, EO.calm, wipeS, restS, isN, fIs, fIsNot, one1, two12, two21, e1, e2, e3, e4, e5, e6, e7, eqA_txt, mResK, one1]
theorem up_ok : ((List.range 128).all fun c => (Unicode.upperOf c).length == 1 && (Unicode.upperOf c).all fun x => decide (x < 128)) = true := by decide +kernel
theorem up_list (z : Str) : (Txt.upper z).cps.toList = z.cps.toList.flatMap Unicode.upperOf := by
  show (PySem.placed z fun _ c => Unicode.upperOf c).toList = _
  unfold PySem.placed
  have m : ∀ l : List Nat, List.mapIdx (fun _ c => (Unicode.upperOf c).toArray) l = l.map fun c => (Unicode.upperOf c).toArray := fun l => by
    apply List.ext_getElem <;> simp
  simp [List.flatMap_def, Function.comp_def, m]
theorem fn_upper {z : Str} (h : fn (.str z) = true) : fn (.str (Txt.upper z)) = true ∧ (Txt.upper z).length = z.length := by
  have u := List.all_eq_true.mp up_ok
  simp only [fn, List.all_eq_true, decide_eq_true_eq] at h
  have g : ∀ l : List Nat, (∀ c ∈ l, c < 128) → (∀ c ∈ l.flatMap Unicode.upperOf, c < 128) ∧ (l.flatMap Unicode.upperOf).length = l.length := by
    intro l
    induction l with
    | nil => intro _; simp
    | cons c l ih =>
      intro hl
      obtain ⟨i1, i2⟩ := ih fun c z => hl c (by simp [z])
      have := u c (by simpa using hl c (by simp))
      simp only [Bool.and_eq_true, beq_iff_eq, List.all_eq_true, decide_eq_true_eq] at this
      rw [List.flatMap_cons]
      refine ⟨fun x hx => ?_, by simp [i2, this.1]; omega⟩
      rcases List.mem_append.mp hx with hx | hx
      · exact this.2 x hx
      · exact i1 x hx
  obtain ⟨g1, g2⟩ := g _ h
  rw [← up_list] at g1 g2
  exact ⟨by simp only [fn, List.all_eq_true, decide_eq_true_eq]; exact g1, g2⟩
abbrev odds : List Dt := [.none, .bool true, .int 0, .str "", .str "-", .str "a", .str "A", .str "ab", .str "1", .str " ", .tuple [.str "a", .str "-"], .tuple [.str "-", .str "-"], .tuple [.str "a"], .tuple [], .list [], .dict [], .list [.str "a", .str "b"]]
theorem add_txt {x y : Str} (h : x.length + y.length ≤ 4000) : gAdd (.str x) (.str y) = some (.str (x ++ y)) := by
  have h : x.length + y.length ≤ sizeLine := Nat.le_trans h (by decide)
  simp only [gAdd, alt, gInt, gAddS, if_pos h]
theorem odds_ok : (odds.all fun o => fn o && decide (o.depth ≤ 1) && decide (wt o ≤ 100)) = true := by decide +kernel
theorem d_odd {D : Dk} {k : Nat} {d : Dt} (h : Fine k D) (hk : k < 100000) (hf : fn d = true) (hw : wt d ≤ 4000) : ∃ o D', G__law_odd D [d] = .ok (o, D') ∧ fn o = true ∧ o.depth ≤ 1 ∧ wt o ≤ 2 * wt d + 100 ∧ Fine (k + 1) D' := by
  have s2 : (2 : Nat) ≤ sizeLine := by decide
  have s17 : (17 : Nat) ≤ sizeLine := by decide
  have s4 : (4 : Nat) ≤ sizeLine := by decide
  have s21 : (21 : Nat) ≤ sizeLine := by decide
  have oo : ∀ o ∈ odds, fn o = true ∧ o.depth ≤ 1 ∧ wt o ≤ 100 := fun o ho => by
    have := List.all_eq_true.mp odds_ok o ho
    simp only [Bool.and_eq_true, decide_eq_true_eq] at this
    exact ⟨this.1.1, this.1.2, this.2⟩
  by_cases hs : ∃ z, d = .str z
  · obtain ⟨z, rfl⟩ := hs
    simp only [wt] at hw
    obtain ⟨o, D', e, ho, f⟩ := d_pick (ds := odds ++ [.str (z ++ z), .str (z ++ "-"), .str (Txt.upper z), .str (z ++ " ")]) h (by omega) (by simp) (by simp)
    refine ⟨o, D', ?_, ?_⟩
    · have a1 : gAdd (.str z) (.str z) = some (.str (z ++ z)) := by
        exact add_txt (by omega)
      have a2 : ∀ y : Str, y.length = 1 → gAdd (.str z) (.str y) = some (.str (z ++ y)) := fun y hy => by
        exact add_txt (by omega)
      have a3 := a2 "-" rfl
      have a4 := a2 " " rfl
      have a5 : fUpper [.str z] = some (.str (Txt.upper z)) := by
        show (if z.length ≤ 5592405 then some (PyData.str (Txt.upper z)) else none) = _
        rw [if_pos (by omega)]
      obtain ⟨q, b, c⟩ := D
      obtain ⟨q', b', c'⟩ := D'
      unfold G__law_odd
      simp only [List.cons_append, List.nil_append] at e
      simp [m__law_odd, N__law_odd, startD, outX, dkAny, mDraw, mC, mVar, mBor, mB, mNil, mCons, mNilB, mConsB, mTup, mLst, fit, mFz, mOw, NV.sv, mSeq, mRet, mIfS, mDrop, mSet, mPar, ownL, mAppend, gNm, gNilV, gConsV, gTupV, mAsg, signs, mItems, itemsD, mRng1, mRng2, mEnum, mZip, mFor, mLc, mYes, mIf, mAnd, mOr, mNot, toB, vAnd, vOr, vNot, mBl, mCmp, mChain, two, alt, mBin, mNeg, outF, startS, mRes, mResK, opsGet, mBu, mOu, alt1, mIsi, mPart, mPart0, mSl, mSlL, mRevL, mDict0, mM1, mM0, mMn, mTupZip, mRev, EO.bind, EO.lift, EO.st, Opd.get, EO.calm, wipeS, restS, isN, fIs, fIsNot, one1, two12, two21, show 0 ≤ sizeLine by decide, show 1 ≤ sizeLine by decide, show 2 ≤ sizeLine by decide, show 3 ≤ sizeLine by decide, show 4 ≤ sizeLine by decide, show 5 ≤ sizeLine by decide, show 6 ≤ sizeLine by decide, show 7 ≤ sizeLine by decide, show 8 ≤ sizeLine by decide, show 9 ≤ sizeLine by decide, show 13 ≤ sizeLine by decide, show 17 ≤ sizeLine by decide, show 21 ≤ sizeLine by decide, show 26 ≤ sizeLine by decide, s2, s4, s17, s21, isi_str, is_str, a1, a3, a4, a5, gAddL, e]
    · have fz := hf
      simp only [fn] at fz
      have cat : ∀ y : Str, fn (.str y) = true → fn (.str (z ++ y)) = true := fun y hy => by
        simp only [fn] at hy ⊢
        have : (z ++ y).cps.toList = z.cps.toList ++ y.cps.toList := Array.toList_append
        rw [this, List.all_append, fz, hy]
        rfl
      obtain ⟨u1, u2⟩ := fn_upper hf
      rcases List.mem_append.mp ho with ho | ho
      · obtain ⟨x1, x2, x3⟩ := oo o ho
        exact ⟨x1, x2, by omega, f⟩
      · simp only [List.mem_cons, List.not_mem_nil, or_false] at ho
        simp only [wt]
        rcases ho with rfl | rfl | rfl | rfl
        · exact ⟨cat z hf, by simp [PyData.depth], by rw [wt, strLen_append]; omega, f⟩
        · exact ⟨cat "-" (by decide +kernel), by simp [PyData.depth], by rw [wt, strLen_append, show (Str.ofString "-").length = 1 from rfl]; omega, f⟩
        · exact ⟨u1, by simp [PyData.depth], by rw [wt, u2]; omega, f⟩
        · exact ⟨cat " " (by decide +kernel), by simp [PyData.depth], by rw [wt, strLen_append, show (Str.ofString " ").length = 1 from rfl]; omega, f⟩
  · obtain ⟨o, D', e, ho, f⟩ := d_pick (ds := odds) h (by omega) (by simp) (by simp)
    obtain ⟨x1, x2, x3⟩ := oo o ho
    refine ⟨o, D', ?_, x1, x2, by omega, f⟩
    have ns : is_str d = false := by
      cases d with
      | str z => exact absurd ⟨z, rfl⟩ hs
      | _ => rfl
    obtain ⟨q, b, c⟩ := D
    obtain ⟨q', b', c'⟩ := D'
    unfold G__law_odd
    simp [m__law_odd, N__law_odd, startD, outX, dkAny, mDraw, mC, mVar, mBor, mB, mNil, mCons, mNilB, mConsB, mTup, mLst, fit, mFz, mOw, NV.sv, mSeq, mRet, mIfS, mDrop, mSet, mPar, ownL, mAppend, gNm, gNilV, gConsV, gTupV, mAsg, signs, mItems, itemsD, mRng1, mRng2, mEnum, mZip, mFor, mLc, mYes, mIf, mAnd, mOr, mNot, toB, vAnd, vOr, vNot, mBl, mCmp, mChain, two, alt, mBin, mNeg, outF, startS, mRes, mResK, opsGet, mBu, mOu, alt1, mIsi, mPart, mPart0, mSl, mSlL, mRevL, mDict0, mM1, mM0, mMn, mTupZip, mRev, EO.bind, EO.lift, EO.st, Opd.get, EO.calm, wipeS, restS, isN, fIs, fIsNot, one1, two12, two21, show 0 ≤ sizeLine by decide, show 1 ≤ sizeLine by decide, show 2 ≤ sizeLine by decide, show 3 ≤ sizeLine by decide, show 4 ≤ sizeLine by decide, show 5 ≤ sizeLine by decide, show 6 ≤ sizeLine by decide, show 7 ≤ sizeLine by decide, show 8 ≤ sizeLine by decide, show 9 ≤ sizeLine by decide, show 13 ≤ sizeLine by decide, show 17 ≤ sizeLine by decide, show 21 ≤ sizeLine by decide, show 26 ≤ sizeLine by decide, s2, s4, s17, s21, isi_str, ns, e]
theorem depA_app : ∀ xs ys : List Dt, PyData.depthAll (xs ++ ys) = max (PyData.depthAll xs) (PyData.depthAll ys)
  | [], ys => by simp [PyData.depthAll]
  | d :: xs, ys => by
    rw [List.cons_append, PyData.depthAll, PyData.depthAll, depA_app xs ys]
    omega
theorem depA_rev : ∀ xs : List Dt, PyData.depthAll xs.reverse = PyData.depthAll xs
  | [] => rfl
  | d :: xs => by
    rw [List.reverse_cons, depA_app, depA_rev xs, PyData.depthAll, PyData.depthAll, PyData.depthAll]
    omega
theorem wtA_rev : ∀ xs : List Dt, wtA xs.reverse = wtA xs
  | [] => rfl
  | d :: xs => by
    rw [List.reverse_cons, wtA_app, wtA_rev xs, wtA, wtA, wtA]
    omega
theorem fnA_app (xs ys : List Dt) : fnA (xs ++ ys) = (fnA xs && fnA ys) := by rw [fnA_all, fnA_all, fnA_all, List.all_append]
theorem fnA_rev (xs : List Dt) : fnA xs.reverse = fnA xs := by rw [fnA_all, fnA_all, List.all_reverse]
theorem cut_to (xs ys : List Dt) (n : Nat) (h : n = xs.length) : cutG (xs ++ ys) none (some (n : Int)) = xs := by
  subst h
  unfold cutG
  rw [HT.sIx_nat, HT.sIx_none]
  have : min xs.length (xs ++ ys).length = xs.length := by simp
  rw [this]
  simp
theorem cut_from (xs ys : List Dt) (n : Nat) (h : n = xs.length) : cutG (xs ++ ys) (some (n : Int)) none = ys := by
  subst h
  unfold cutG
  rw [HT.sIx_nat, HT.sIx_none]
  have : min xs.length (xs ++ ys).length = xs.length := by simp
  rw [this]
  simp
theorem d_bent : ∀ (j : Nat) (D : Dk) (k : Nat) (d : Dt), Fine k D → k + 4 * j < 100000 → fn d = true → wt d ≤ 4000 → d.depth < j →
    ∃ o D', G__law_bent j D [d] = .ok (o, D') ∧ fn o = true ∧ o.depth ≤ d.depth + 1 ∧ wt o ≤ 2 * wt d + 100 ∧ Fine (k + 4 * j) D'
  | 0, D, k, d, _, _, _, _, hj => by omega
  | j + 1, D, k, d, h, hk, hf, hw, hj => by
    by_cases hs : ∃ ds, d = .tuple ds ∧ ds ≠ []
    · obtain ⟨ds, rfl, hne⟩ := hs
      have fd : fnA ds = true := by simpa [fn] using hf
      have hwd : wt (.tuple ds) = wtA ds + 4 := by simp only [wt]
      have hdd : PyData.depth (.tuple ds) = PyData.depthAll ds + 1 := by simp only [PyData.depth]
      have hlen := wtA_len ds
      have hpos := List.length_pos_iff.mpr hne
      obtain ⟨r1, D1, e1, a1, b1, f1⟩ := d_draw (n := 5) h (by omega) (by decide) (by decide)
      by_cases hz : r1 = 0
      · subst hz
        obtain ⟨o, D2, e2, x1, x2, x3, f2⟩ := d_odd (d := .tuple ds) f1 (by omega) hf hw
        refine ⟨o, D2, ?_, x1, by omega, x3, f2.up (by omega)⟩
        obtain ⟨q, b, c⟩ := D
        obtain ⟨q1, b1, c1⟩ := D1
        obtain ⟨q2, b2, c2⟩ := D2
        have ne : ds.isEmpty = false := by simpa using hne
        unfold G__law_bent
        simp [m__law_bent, N__law_bent, startD, outX, dkAny, mDraw, mC, mVar, mBor, mB, mNil, mCons, mNilB, mConsB, mTup, mLst, fit, mFz, mOw, NV.sv, mSeq, mRet, mIfS, mDrop, mSet, mPar, ownL, mAppend, gNm, gNilV, gConsV, gTupV, mAsg, signs, mItems, itemsD, mRng1, mRng2, mEnum, mZip, mFor, mLc, mYes, mIf, mAnd, mOr, mNot, toB, vAnd, vOr, vNot, mBl, mCmp, mChain, two, alt, mBin, mNeg, outF, startS, mRes, mResK, opsGet, mBu, mOu, alt1, mIsi, mPart, mPart0, mSl, mSlL, mRevL, mDict0, mM1, mM0, mMn, mTupZip, mRev, EO.bind, EO.lift, EO.st, Opd.get, EO.calm, wipeS, restS, isN, fIs, fIsNot, one1, two12, two21, show 0 ≤ sizeLine by decide, show 1 ≤ sizeLine by decide, show 2 ≤ sizeLine by decide, show 3 ≤ sizeLine by decide, show 4 ≤ sizeLine by decide, show 5 ≤ sizeLine by decide, show 6 ≤ sizeLine by decide, show 7 ≤ sizeLine by decide, show 8 ≤ sizeLine by decide, show 9 ≤ sizeLine by decide, show 13 ≤ sizeLine by decide, show 17 ≤ sizeLine by decide, show 21 ≤ sizeLine by decide, show 26 ≤ sizeLine by decide, isi_tuple, is_tuple, e1, e2, eqA_nilT, eqA_int, ne]
      · have hne0 : ds.isEmpty = false := by simpa using hne
        obtain ⟨r2, D2, e2, a2, b2', f2⟩ := d_draw (n := (ds.length : Int)) f1 (by omega) (by omega) (by omega)
        obtain ⟨r3, D3, e3, a3, b3', f3⟩ := d_draw (n := 8) f2 (by omega) (by decide) (by decide)
        obtain ⟨n, rfl⟩ := Int.eq_ofNat_of_zero_le a2
        have hn : n < ds.length := by omega
        obtain ⟨xs, x, ys, hds, hxl⟩ : ∃ xs x ys, ds = xs ++ x :: ys ∧ xs.length = n := by
          refine ⟨ds.take n, ds[n], ds.drop (n + 1), ?_, by rw [List.length_take]; omega⟩
          rw [← List.drop_eq_getElem_cons hn, List.take_append_drop]
        have hz5 : fEqA (.int r1) (.int 0) = some false := by rw [eqA_int, decide_eq_false hz]
        have hL : fLen [.tuple ds] = some (.int (ds.length : Nat)) := rfl
        have sl1 : fSl (.tuple ds) none (some (n : Int)) = some (.tuple xs) := by
          show some (PyData.tuple (cutG _ _ _)) = _
          rw [hds, cut_to _ _ n hxl.symm]
        have sl2 : fSl (.tuple ds) (some (n : Int)) none = some (.tuple (x :: ys)) := by
          show some (PyData.tuple (cutG _ _ _)) = _
          rw [hds, cut_from _ _ n hxl.symm]
        have assoc : xs ++ x :: ys = (xs ++ [x]) ++ ys := by simp
        have sl3 : fSl (.tuple ds) none (some ((n : Int) + 1)) = some (.tuple (xs ++ [x])) := by
          show some (PyData.tuple (cutG _ _ _)) = _
          rw [hds, assoc, show ((n : Int) + 1) = ((n + 1 : Nat) : Int) by omega, cut_to _ _ (n + 1) (by simp [hxl])]
        have sl4 : fSl (.tuple ds) (some ((n : Int) + 1)) none = some (.tuple ys) := by
          show some (PyData.tuple (cutG _ _ _)) = _
          rw [hds, assoc, show ((n : Int) + 1) = ((n + 1 : Nat) : Int) by omega, cut_from _ _ (n + 1) (by simp [hxl])]
        have ix : fIx (.tuple ds) (.int (n : Int)) = some x := by
          show atI ds _ = _
          exact atI_nat (by rw [hds, List.getElem?_append_right (by omega), hxl]; simp)
        have ad1 : gAdd (.int (n : Int)) (.int 1) = some (.int ((n : Int) + 1)) := rfl
        have addT : ∀ us vs : List Dt, us.length + vs.length ≤ 4000 → gAdd (.tuple us) (.tuple vs) = some (.tuple (us ++ vs)) := fun us vs hl => by
          have hl : us.length + vs.length ≤ sizeLine := Nat.le_trans hl (by decide)
          simp only [gAdd, alt, gInt, gAddS, gAddT, if_pos hl]
        have lens : ds.length = xs.length + ys.length + 1 := by rw [hds]; simp; omega
        have wx : wtA ds = wtA xs + (wt x + 2 + wtA ys) := by rw [hds, wtA_app, wtA]
        have fx : fnA xs = true ∧ fn x = true ∧ fnA ys = true := by
          rw [hds, fnA_app, fnA] at fd
          simpa using fd
        have dx : PyData.depthAll ds = max (PyData.depthAll xs) (max (PyData.depth x) (PyData.depthAll ys)) := by rw [hds, depA_app, PyData.depthAll]
        have s1 : (1 : Nat) ≤ sizeLine := by decide
        obtain ⟨q, b, c⟩ := D
        obtain ⟨q1, b1', c1⟩ := D1
        obtain ⟨q2, b2, c2⟩ := D2
        by_cases w0 : r3 = 0
        · subst w0
          refine ⟨.tuple (xs ++ ys), D3, ?_, ?_, ?_, ?_, f3.up (by omega)⟩
          · obtain ⟨q3, b3, c3⟩ := D3
            have ad := addT xs ys (by omega)
            unfold G__law_bent
            simp [m__law_bent, N__law_bent, startD, outX, dkAny, mDraw, mC, mVar, mBor, mB, mNil, mCons, mNilB, mConsB, mTup, mLst, fit, mFz, mOw, NV.sv, mSeq, mRet, mIfS, mDrop, mSet, mPar, ownL, mAppend, gNm, gNilV, gConsV, gTupV, mAsg, signs, mItems, itemsD, mRng1, mRng2, mEnum, mZip, mFor, mLc, mYes, mIf, mAnd, mOr, mNot, toB, vAnd, vOr, vNot, mBl, mCmp, mChain, two, alt, mBin, mNeg, outF, startS, mRes, mResK, opsGet, mBu, mOu, alt1, mIsi, mPart, mPart0, mSl, mSlL, mRevL, mDict0, mM1, mM0, mMn, mTupZip, mRev, EO.bind, EO.lift, EO.st, Opd.get, EO.calm, wipeS, restS, isN, fIs, fIsNot, one1, two12, two21, show 0 ≤ sizeLine by decide, show 1 ≤ sizeLine by decide, show 2 ≤ sizeLine by decide, show 3 ≤ sizeLine by decide, show 4 ≤ sizeLine by decide, show 5 ≤ sizeLine by decide, show 6 ≤ sizeLine by decide, show 7 ≤ sizeLine by decide, show 8 ≤ sizeLine by decide, show 9 ≤ sizeLine by decide, show 13 ≤ sizeLine by decide, show 17 ≤ sizeLine by decide, show 21 ≤ sizeLine by decide, show 26 ≤ sizeLine by decide, isi_tuple, is_tuple, e1, eqA_nilT, hne, hz5, hL, e2, e3, eqA_int, sl1, sl2, sl3, sl4, ad1, ad]
          · simp [fn, fnA_app, fx]
          · simp only [PyData.depth, depA_app, dx]; omega
          · simp only [wt, wtA_app, wx]; omega
        · by_cases w1 : r3 = 1
          · subst w1
            refine ⟨.tuple ((xs ++ [x]) ++ x :: ys), D3, ?_, ?_, ?_, ?_, f3.up (by omega)⟩
            · obtain ⟨q3, b3, c3⟩ := D3
              have ad := addT (xs ++ [x]) (x :: ys) (by simp; omega)
              unfold G__law_bent
              simp [m__law_bent, N__law_bent, startD, outX, dkAny, mDraw, mC, mVar, mBor, mB, mNil, mCons, mNilB, mConsB, mTup, mLst, fit, mFz, mOw, NV.sv, mSeq, mRet, mIfS, mDrop, mSet, mPar, ownL, mAppend, gNm, gNilV, gConsV, gTupV, mAsg, signs, mItems, itemsD, mRng1, mRng2, mEnum, mZip, mFor, mLc, mYes, mIf, mAnd, mOr, mNot, toB, vAnd, vOr, vNot, mBl, mCmp, mChain, two, alt, mBin, mNeg, outF, startS, mRes, mResK, opsGet, mBu, mOu, alt1, mIsi, mPart, mPart0, mSl, mSlL, mRevL, mDict0, mM1, mM0, mMn, mTupZip, mRev, EO.bind, EO.lift, EO.st, Opd.get, EO.calm, wipeS, restS, isN, fIs, fIsNot, one1, two12, two21, show 0 ≤ sizeLine by decide, show 1 ≤ sizeLine by decide, show 2 ≤ sizeLine by decide, show 3 ≤ sizeLine by decide, show 4 ≤ sizeLine by decide, show 5 ≤ sizeLine by decide, show 6 ≤ sizeLine by decide, show 7 ≤ sizeLine by decide, show 8 ≤ sizeLine by decide, show 9 ≤ sizeLine by decide, show 13 ≤ sizeLine by decide, show 17 ≤ sizeLine by decide, show 21 ≤ sizeLine by decide, show 26 ≤ sizeLine by decide, isi_tuple, is_tuple, e1, eqA_nilT, hne, hz5, hL, e2, e3, eqA_int, sl1, sl2, sl3, sl4, ad1, ad, -List.append_assoc]
            · simp [fn, fnA_app, fnA, fx]
            · simp only [PyData.depth, depA_app, PyData.depthAll, dx]; omega
            · simp only [wt, wtA_app, wtA, wx]; omega
          · by_cases w2 : r3 = 2
            · subst w2
              refine ⟨.tuple ds.reverse, D3, ?_, ?_, ?_, ?_, f3.up (by omega)⟩
              · obtain ⟨q3, b3, c3⟩ := D3
                unfold G__law_bent
                simp [m__law_bent, N__law_bent, startD, outX, dkAny, mDraw, mC, mVar, mBor, mB, mNil, mCons, mNilB, mConsB, mTup, mLst, fit, mFz, mOw, NV.sv, mSeq, mRet, mIfS, mDrop, mSet, mPar, ownL, mAppend, gNm, gNilV, gConsV, gTupV, mAsg, signs, mItems, itemsD, mRng1, mRng2, mEnum, mZip, mFor, mLc, mYes, mIf, mAnd, mOr, mNot, toB, vAnd, vOr, vNot, mBl, mCmp, mChain, two, alt, mBin, mNeg, outF, startS, mRes, mResK, opsGet, mBu, mOu, alt1, mIsi, mPart, mPart0, mSl, mSlL, mRevL, mDict0, mM1, mM0, mMn, mTupZip, mRev, EO.bind, EO.lift, EO.st, Opd.get, EO.calm, wipeS, restS, isN, fIs, fIsNot, one1, two12, two21, show 0 ≤ sizeLine by decide, show 1 ≤ sizeLine by decide, show 2 ≤ sizeLine by decide, show 3 ≤ sizeLine by decide, show 4 ≤ sizeLine by decide, show 5 ≤ sizeLine by decide, show 6 ≤ sizeLine by decide, show 7 ≤ sizeLine by decide, show 8 ≤ sizeLine by decide, show 9 ≤ sizeLine by decide, show 13 ≤ sizeLine by decide, show 17 ≤ sizeLine by decide, show 21 ≤ sizeLine by decide, show 26 ≤ sizeLine by decide, isi_tuple, is_tuple, e1, eqA_nilT, hne, hz5, hL, e2, e3, eqA_int, sl1, sl2, sl3, sl4, ad1, fRev]
              · rw [fn, fnA_rev]; exact fd
              · simp only [PyData.depth, depA_rev, dx]; omega
              · simp only [wt, wtA_rev, wx]; omega
            · by_cases w3 : r3 = 3
              · subst w3
                refine ⟨.list ds, D3, ?_, ?_, ?_, ?_, f3.up (by omega)⟩
                · obtain ⟨q3, b3, c3⟩ := D3
                  unfold G__law_bent
                  simp [m__law_bent, N__law_bent, startD, outX, dkAny, mDraw, mC, mVar, mBor, mB, mNil, mCons, mNilB, mConsB, mTup, mLst, fit, mFz, mOw, NV.sv, mSeq, mRet, mIfS, mDrop, mSet, mPar, ownL, mAppend, gNm, gNilV, gConsV, gTupV, mAsg, signs, mItems, itemsD, mRng1, mRng2, mEnum, mZip, mFor, mLc, mYes, mIf, mAnd, mOr, mNot, toB, vAnd, vOr, vNot, mBl, mCmp, mChain, two, alt, mBin, mNeg, outF, startS, mRes, mResK, opsGet, mBu, mOu, alt1, mIsi, mPart, mPart0, mSl, mSlL, mRevL, mDict0, mM1, mM0, mMn, mTupZip, mRev, EO.bind, EO.lift, EO.st, Opd.get, EO.calm, wipeS, restS, isN, fIs, fIsNot, one1, two12, two21, show 0 ≤ sizeLine by decide, show 1 ≤ sizeLine by decide, show 2 ≤ sizeLine by decide, show 3 ≤ sizeLine by decide, show 4 ≤ sizeLine by decide, show 5 ≤ sizeLine by decide, show 6 ≤ sizeLine by decide, show 7 ≤ sizeLine by decide, show 8 ≤ sizeLine by decide, show 9 ≤ sizeLine by decide, show 13 ≤ sizeLine by decide, show 17 ≤ sizeLine by decide, show 21 ≤ sizeLine by decide, show 26 ≤ sizeLine by decide, isi_tuple, is_tuple, e1, eqA_nilT, hne, hz5, hL, e2, e3, eqA_int, sl1, sl2, sl3, sl4, ad1, fList]
                · rw [fn]; exact fd
                · simp only [PyData.depth, dx]; omega
                · simp only [wt, wx]; omega
              · obtain ⟨o, D4, e4, x1, x2, x3, f4⟩ := d_bent j D3 (k + 3) x (f3.up (by omega)) (by omega) fx.2.1 (by omega) (by omega)
                refine ⟨.tuple ((xs ++ [o]) ++ ys), D4, ?_, ?_, ?_, ?_, f4.up (by omega)⟩
                · obtain ⟨q3, b3, c3⟩ := D3
                  obtain ⟨q4, b4, c4⟩ := D4
                  have ad := addT xs [o] (by simp; omega)
                  have ad' := addT (xs ++ [o]) ys (by simp; omega)
                  unfold G__law_bent
                  simp [m__law_bent, N__law_bent, startD, outX, dkAny, mDraw, mC, mVar, mBor, mB, mNil, mCons, mNilB, mConsB, mTup, mLst, fit, mFz, mOw, NV.sv, mSeq, mRet, mIfS, mDrop, mSet, mPar, ownL, mAppend, gNm, gNilV, gConsV, gTupV, mAsg, signs, mItems, itemsD, mRng1, mRng2, mEnum, mZip, mFor, mLc, mYes, mIf, mAnd, mOr, mNot, toB, vAnd, vOr, vNot, mBl, mCmp, mChain, two, alt, mBin, mNeg, outF, startS, mRes, mResK, opsGet, mBu, mOu, alt1, mIsi, mPart, mPart0, mSl, mSlL, mRevL, mDict0, mM1, mM0, mMn, mTupZip, mRev, EO.bind, EO.lift, EO.st, Opd.get, EO.calm, wipeS, restS, isN, fIs, fIsNot, one1, two12, two21, show 0 ≤ sizeLine by decide, show 1 ≤ sizeLine by decide, show 2 ≤ sizeLine by decide, show 3 ≤ sizeLine by decide, show 4 ≤ sizeLine by decide, show 5 ≤ sizeLine by decide, show 6 ≤ sizeLine by decide, show 7 ≤ sizeLine by decide, show 8 ≤ sizeLine by decide, show 9 ≤ sizeLine by decide, show 13 ≤ sizeLine by decide, show 17 ≤ sizeLine by decide, show 21 ≤ sizeLine by decide, show 26 ≤ sizeLine by decide, isi_tuple, is_tuple, e1, eqA_nilT, hne, hz5, hL, e2, e3, eqA_int, w0, w1, w2, w3, sl1, sl2, sl3, sl4, ad1, ad, ad', ix, e4, -List.append_assoc]
                · simp [fn, fnA_app, fnA, fx, x1]
                · simp only [PyData.depth, depA_app, PyData.depthAll, dx] at *; omega
                · simp only [wt, wtA_app, wtA, wx] at *; omega
    · obtain ⟨o, D2, e2, x1, x2, x3, f2⟩ := d_odd (d := d) h (by omega) hf hw
      refine ⟨o, D2, ?_, x1, by omega, x3, f2.up (by omega)⟩
      obtain ⟨q, b, c⟩ := D
      obtain ⟨q2, b2, c2⟩ := D2
      cases d with
      | tuple ds =>
        have : ds = [] := by
          by_cases e : ds = []
          · exact e
          · exact absurd ⟨ds, rfl, e⟩ hs
        subst this
        unfold G__law_bent
        simp [m__law_bent, N__law_bent, startD, outX, dkAny, mDraw, mC, mVar, mBor, mB, mNil, mCons, mNilB, mConsB, mTup, mLst, fit, mFz, mOw, NV.sv, mSeq, mRet, mIfS, mDrop, mSet, mPar, ownL, mAppend, gNm, gNilV, gConsV, gTupV, mAsg, signs, mItems, itemsD, mRng1, mRng2, mEnum, mZip, mFor, mLc, mYes, mIf, mAnd, mOr, mNot, toB, vAnd, vOr, vNot, mBl, mCmp, mChain, two, alt, mBin, mNeg, outF, startS, mRes, mResK, opsGet, mBu, mOu, alt1, mIsi, mPart, mPart0, mSl, mSlL, mRevL, mDict0, mM1, mM0, mMn, mTupZip, mRev, EO.bind, EO.lift, EO.st, Opd.get, EO.calm, wipeS, restS, isN, fIs, fIsNot, one1, two12, two21, show 0 ≤ sizeLine by decide, show 1 ≤ sizeLine by decide, show 2 ≤ sizeLine by decide, show 3 ≤ sizeLine by decide, show 4 ≤ sizeLine by decide, show 5 ≤ sizeLine by decide, show 6 ≤ sizeLine by decide, show 7 ≤ sizeLine by decide, show 8 ≤ sizeLine by decide, show 9 ≤ sizeLine by decide, show 13 ≤ sizeLine by decide, show 17 ≤ sizeLine by decide, show 21 ≤ sizeLine by decide, show 26 ≤ sizeLine by decide, isi_tuple, is_tuple, e2, eqA_nilT]
      | _ =>
        unfold G__law_bent
        simp [m__law_bent, N__law_bent, startD, outX, dkAny, mDraw, mC, mVar, mBor, mB, mNil, mCons, mNilB, mConsB, mTup, mLst, fit, mFz, mOw, NV.sv, mSeq, mRet, mIfS, mDrop, mSet, mPar, ownL, mAppend, gNm, gNilV, gConsV, gTupV, mAsg, signs, mItems, itemsD, mRng1, mRng2, mEnum, mZip, mFor, mLc, mYes, mIf, mAnd, mOr, mNot, toB, vAnd, vOr, vNot, mBl, mCmp, mChain, two, alt, mBin, mNeg, outF, startS, mRes, mResK, opsGet, mBu, mOu, alt1, mIsi, mPart, mPart0, mSl, mSlL, mRevL, mDict0, mM1, mM0, mMn, mTupZip, mRev, EO.bind, EO.lift, EO.st, Opd.get, EO.calm, wipeS, restS, isN, fIs, fIsNot, one1, two12, two21, show 0 ≤ sizeLine by decide, show 1 ≤ sizeLine by decide, show 2 ≤ sizeLine by decide, show 3 ≤ sizeLine by decide, show 4 ≤ sizeLine by decide, show 5 ≤ sizeLine by decide, show 6 ≤ sizeLine by decide, show 7 ≤ sizeLine by decide, show 8 ≤ sizeLine by decide, show 9 ≤ sizeLine by decide, show 13 ≤ sizeLine by decide, show 17 ≤ sizeLine by decide, show 21 ≤ sizeLine by decide, show 26 ≤ sizeLine by decide, isi_tuple, is_tuple, e2]
theorem seq_nx {m n : SS → SO} {ss ss1 : SS} {o : SO} (h : m ss = .nx ss1) (g : n ss1 = o) : mSeq m n ss = o := by
  unfold mSeq
  rw [h]
  exact g
theorem txt_cps (l : List Nat) : (txt l).cps.toList = l := by simp [txt]
theorem isW_isL {c : Nat} (h : isW c = true) : c < 128 ∧ c ≠ 45 := by
  simp only [isW, Bool.or_eq_true, beq_iff_eq] at h
  omega
theorem fn_sign {c : Nat} (h : c < 128) : fn (signD c) = true := by simp [signD, fn, h]
theorem fn_txt {l : List Nat} (h : ∀ c ∈ l, c < 128) : fn (.str (txt l)) = true := by
  simp only [fn, txt_cps, List.all_eq_true, decide_eq_true_eq]
  exact h
theorem wt_txt (l : List Nat) : wt (.str (txt l)) = 10 * l.length + 2 := by rw [wt, txt_len]
theorem duos_fine (ps : List (Nat × Nat)) (h : ∀ p ∈ ps, p.1 < 128 ∧ p.2 < 128) : fnA (ps.map duo) = true ∧ PyData.depthAll (ps.map duo) ≤ 1 ∧ wtA (ps.map duo) = 34 * ps.length := by
  induction ps with
  | nil => exact ⟨rfl, by simp [PyData.depthAll], rfl⟩
  | cons p ps ih =>
    obtain ⟨i1, i2, i3⟩ := ih fun q hq => h q (by simp [hq])
    obtain ⟨h1, h2⟩ := h p (by simp)
    refine ⟨?_, ?_, ?_⟩
    · simp only [List.map_cons, fnA, i1, duo, fn, fn_sign h1, fn_sign h2, Bool.and_self]
    · have : PyData.depth (duo p) ≤ 1 := by simp [duo, signD, PyData.depth, PyData.depthAll]
      simp only [List.map_cons, PyData.depthAll]
      omega
    · have : wt (duo p) = 32 := by simp [duo, signD, wt, wtA]; rfl
      simp only [List.map_cons, wtA, i3, this, List.length_cons]
      omega
theorem sp_lt128 : ∀ (xs ys : List Nat), (∀ c ∈ xs, c < 128) → (∀ c ∈ ys, c < 128) → ∀ p ∈ sp xs ys, p.1 < 128 ∧ p.2 < 128
  | [], ys, _, h, p, hp => by
    obtain ⟨y, hy, rfl⟩ := List.mem_map.mp hp
    exact ⟨show (45 : Nat) < 128 by decide, h y hy⟩
  | x :: xs, [], g, h, p, hp => by
    rcases List.mem_cons.mp hp with rfl | hp
    · exact ⟨g x (by simp), show (45 : Nat) < 128 by decide⟩
    · exact sp_lt128 xs [] (fun c hc => g c (by simp [hc])) h p hp
  | x :: xs, y :: ys, g, h, p, hp => by
    rcases List.mem_cons.mp hp with rfl | hp
    · exact ⟨g x (by simp), h y (by simp)⟩
    · exact sp_lt128 xs ys (fun c hc => g c (by simp [hc])) (fun c hc => h c (by simp [hc])) p hp
/-- fine data of some size -/
def Nice (n w : Nat) (d : Dt) : Prop := fn d = true ∧ d.depth ≤ n ∧ wt d ≤ w
theorem Nice.up {n m w v : Nat} {d : Dt} (h : Nice n w d) (h1 : n ≤ m) (h2 : w ≤ v) : Nice m v d := ⟨h.1, Nat.le_trans h.2.1 h1, Nat.le_trans h.2.2 h2⟩
theorem Nice.repr {n w : Nat} {d : Dt} (h : Nice n w d) (h1 : n ≤ 100) (h2 : w ≤ 1000000) : fRepr [d] = some (.str d.shown) := repr_fn h.1 (Nat.le_trans h.2.1 h1) (Nat.le_trans h.2.2 h2)
theorem nice_sg {xs ys : List Nat} {n : Nat} (hx : ∀ c ∈ xs, c < 128) (hy : ∀ c ∈ ys, c < 128) (lx : xs.length ≤ n) (ly : ys.length ≤ n) : Nice 2 (34 * n + 4) (.tuple (sg xs ys)) := by
  obtain ⟨h1, h2, h3⟩ := duos_fine (sp xs ys) (sp_lt128 xs ys hx hy)
  refine ⟨by rw [fn]; exact h1, ?_, ?_⟩
  · simp only [PyData.depth]; unfold sg; omega
  · have := sp_len xs ys
    simp only [wt]
    unfold sg
    omega
theorem nice_txt {l : List Nat} {n : Nat} (h : ∀ c ∈ l, c < 128) (hl : l.length ≤ n) : Nice 0 (10 * n + 2) (.str (txt l)) := ⟨fn_txt h, by simp [PyData.depth], by rw [wt_txt]; omega⟩
theorem nice_list : ∀ {ds : List Dt} {n w : Nat}, (∀ d ∈ ds, Nice n w d) → Nice (n + 1) ((w + 2) * ds.length + 4) (.list ds) := fun {ds n w} h => by
  have g : fnA ds = true ∧ PyData.depthAll ds ≤ n ∧ wtA ds ≤ (w + 2) * ds.length := by
    induction ds with
    | nil => exact ⟨rfl, by simp [PyData.depthAll], by simp [wtA]⟩
    | cons d ds ih =>
      obtain ⟨i1, i2, i3⟩ := ih fun e he => h e (by simp [he])
      obtain ⟨h1, h2, h3⟩ := h d (by simp)
      refine ⟨by simp [fnA, i1, h1], by simp only [PyData.depthAll]; omega, ?_⟩
      simp only [wtA, List.length_cons, Nat.mul_add]
      omega
  exact ⟨by rw [fn]; exact g.1, by simp only [PyData.depth]; omega, by simp only [wt]; omega⟩
theorem nice_tuple : ∀ {ds : List Dt} {n w : Nat}, (∀ d ∈ ds, Nice n w d) → Nice (n + 1) ((w + 2) * ds.length + 4) (.tuple ds) := fun {ds n w} h => by
  obtain ⟨h1, h2, h3⟩ := nice_list h
  exact ⟨by rw [fn]; rw [fn] at h1; exact h1, by simpa only [PyData.depth] using h2, by simpa only [wt] using h3⟩
theorem neA_txt (x y : Str) : fNeA (.str x) (.str y) = some (!decide (x = y)) := rfl
theorem d_wordP {D : Dk} {k : Nat} (h : Fine k D) (hk : k < 90000) : ∃ cs D1 D2 d, G__law_pick D [.list [.int 3, .int 12]] = .ok (d, D1) ∧ G__law_word D1 [d] = .ok (.str (txt cs), D2) ∧ cs.length ≤ 12 ∧ cs.all isW = true ∧ Fine (k + 14) D2 := by
  obtain ⟨d, D1, e, hd, f⟩ := d_pick (ds := [.int 3, .int 12]) h (by omega) (by decide) (by decide)
  obtain ⟨t, ht, rfl⟩ : ∃ t : Nat, t ≤ 12 ∧ d = .int (t : Int) := by
    rcases List.mem_cons.mp hd with rfl | hd
    · exact ⟨3, by decide, rfl⟩
    · rcases List.mem_cons.mp hd with rfl | hd
      · exact ⟨12, by decide, rfl⟩
      · cases hd
  obtain ⟨cs, D2, e2, l, w, f2⟩ := d_word f (by omega) ht
  exact ⟨cs, D1, D2, _, e, e2, by omega, w, f2.up (by omega)⟩
theorem abd : (.str "ab-" : Dt) = .str (txt [97, 98, 45]) := rfl
theorem d_pickA {D : Dk} {k : Nat} (h : Fine k D) (hk : k < 90000) : ∃ c D', G__law_pick D [.str "ab-"] = .ok (signD c, D') ∧ c < 128 ∧ Fine (k + 1) D' := by
  obtain ⟨c, D', e, hc, f⟩ := d_pickS (cs := [97, 98, 45]) h (by omega) (by decide) (by decide)
  refine ⟨c, D', e, ?_, f⟩
  simp at hc
  omega
/-- the slots of the law while its loop runs -/
abbrev slw (a : Addr) (D : Dk) (s2 s6 s7 s8 s9 s10 : Option SV) : SS := [none, some (.dk a D.1 D.2.1 D.2.2), s2, none, none, none, s6, s7, s8, s9, s10, none]
abbrev bodyBent : SS → SO := mAppend 7 (mDraw 1 (G__law_bent 4) (mCons (mBin fIx (mBor 7) (mB (mBin gMod (mBor 8) (mB (mC (.int 5)))))) mNil))
theorem bent_loop (a : Addr) (s2 s6 s9 s10 : Option SV) (bs : List Dt) (hb : bs.length = 5) (nb : ∀ d ∈ bs, Nice 2 500 d) : ∀ (its : List Nat) (D : Dk) (k : Nat) (more : List Dt) (s8 : Option SV), Fine k D → k + 16 * its.length < 90000 → more.length + its.length ≤ 100 → (∀ d ∈ more, Nice 3 1100 d) →
    ∃ D' more' s8', forGo (gNm 8) bodyBent (its.map fun i => .int ((i : Nat) : Int)) (slw a D s2 s6 (some (.o (.list (bs ++ more)))) s8 s9 s10) = .nx (slw a D' s2 s6 (some (.o (.list (bs ++ more')))) s8' s9 s10) ∧ Fine (k + 16 * its.length) D' ∧ more'.length = more.length + its.length ∧ (∀ d ∈ more', Nice 3 1100 d)
  | [], D, k, more, s8, h, _, _, hm => ⟨D, more, s8, rfl, h, rfl, hm⟩
  | i :: its, D, k, more, s8, h, hk, hl, hm => by
    rw [List.length_cons] at hk hl
    have m5 : gMod (.int (i : Int)) (.int 5) = some (.int ((i : Int) % 5)) := modI _ (by decide)
    obtain ⟨n, hn, en⟩ : ∃ n : Nat, n < 5 ∧ (i : Int) % 5 = (n : Int) := ⟨i % 5, Nat.mod_lt _ (by decide), by omega⟩
    rw [en] at m5
    have hn' : n < bs.length := by omega
    have ix : fIx (.list (bs ++ more)) (.int (n : Int)) = some bs[n] := by
      show atI _ _ = _
      exact atI_nat (by rw [List.getElem?_append_left hn', List.getElem?_eq_getElem hn'])
    obtain ⟨n1, n2, n3⟩ := nb bs[n] (List.getElem_mem hn')
    obtain ⟨o, D1, e, x1, x2, x3, f⟩ := d_bent 4 D k bs[n] h (by omega) n1 (by omega) (by omega)
    obtain ⟨D2, more', s8', e2, f2, l2, m2⟩ := bent_loop a s2 s6 s9 s10 bs hb nb its D1 (k + 16) (more ++ [o]) (some (.v (.int (i : Int)))) (f.up (by omega)) (by omega) (by simp; omega) (fun d hd => by
      rcases List.mem_append.mp hd with hd | hd
      · exact hm d hd
      · have : d = o := by simpa using hd
        subst this
        exact ⟨x1, by omega, by omega⟩)
    refine ⟨D2, more', s8', ?_, by rw [List.length_cons]; exact f2.up (by omega), by rw [l2, List.length_append, List.length_cons, List.length_cons]; simp; omega, m2⟩
    have hsz : (bs ++ more).length < sizeLine := Nat.lt_of_lt_of_le (show _ < 1000 by simp; omega) (by decide)
    have g : gNm 8 (.int (i : Int)) (slw a D s2 s6 (some (.o (.list (bs ++ more)))) s8 s9 s10) = some (slw a D s2 s6 (some (.o (.list (bs ++ more)))) (some (.v (.int (i : Int)))) s9 s10) := rfl
    have b : bodyBent (slw a D s2 s6 (some (.o (.list (bs ++ more)))) (some (.v (.int (i : Int)))) s9 s10) = .nx (slw a D1 s2 s6 (some (.o (.list (bs ++ (more ++ [o]))))) (some (.v (.int (i : Int)))) s9 s10) := by
      obtain ⟨q, b, c⟩ := D
      obtain ⟨q1, b1, c1⟩ := D1
      generalize bs[n] = bn at *
      generalize hS : bs ++ more = S at *
      simp [bodyBent, slw, mDraw, mC, mVar, mBor, mB, mNil, mCons, mNilB, mConsB, mTup, mLst, fit, mFz, mOw, NV.sv, mSeq, mRet, mIfS, mDrop, mSet, mPar, ownL, mAppend, gNm, gNilV, gConsV, gTupV, mAsg, signs, mItems, itemsD, mRng1, mRng2, mEnum, mZip, mFor, mLc, mYes, mIf, mAnd, mOr, mNot, toB, vAnd, vOr, vNot, mBl, mCmp, mChain, two, alt, mBin, mNeg, outF, startS, mRes, mResK, opsGet, mBu, mOu, alt1, mIsi, mPart, mPart0, mSl, mSlL, mRevL, mDict0, mM1, mM0, mMn, mTupZip, mRev, EO.bind, EO.lift, EO.st, Opd.get, EO.calm, wipeS, restS, isN, fIs, fIsNot, one1, two12, two21, m5, ix, e, hsz]
      rw [← hS, List.append_assoc]
    rw [List.map_cons, forGo, g]
    dsimp only
    rw [b]
    exact e2
abbrev bodyTurn : SS → SO := (mSeq (mPar 9 10 (mFz (mDraw 1 G__law_word (mCons (mDraw 1 G__law_pick (mCons (mLst (mCons (mC (.int 3)) (mCons (mC (.int 12)) mNil))) mNil)) mNil))) (mFz (mDraw 1 G__law_word (mCons (mDraw 1 G__law_pick (mCons (mLst (mCons (mC (.int 3)) (mCons (mC (.int 12)) mNil))) mNil)) mNil))))
    (mSeq (mSet 6 (mFz (mRes G__law_signs (mCons (mVar 9) (mCons (mVar 10) mNil)))))
    (mSeq (mIfS (mCmp fNeA (mB (mBu fRepr (mConsB (mB (mLst (mCons (mRes G_row_of (mCons (mVar 9) (mCons (mVar 10) mNil))) (mCons (mResK (two21 []) G_row_of (mCons (mVar 10) (mCons (mVar 9) mNil))) mNil)))) mNilB))) (mB (mBu fRepr (mConsB (mB (mLst (mCons (mVar 6) (mCons (mVar 6) mNil)))) mNilB)))) (mRet (mC (.bool false))) .nx)
    (mSeq (mIfS (mCmp fNeA (mB (mBu fRepr (mConsB (mB (mLst (mCons (mRes G_pair_of (mCons (mVar 6) mNil)) (mCons (mResK (one1 []) G_pair_of (mCons (mVar 6) mNil)) mNil)))) mNilB))) (mB (mBu fRepr (mConsB (mB (mLst (mCons (mTup (mCons (mVar 9) (mCons (mVar 10) mNil))) (mCons (mTup (mCons (mVar 9) (mCons (mVar 10) mNil))) mNil)))) mNilB)))) (mRet (mC (.bool false))) .nx)
    (mSeq (mSet 7 (mOw (mLst (mCons (mVar 6) (mCons (mVar 9) (mCons (mBin gAdd (mBor 9) (mBor 10)) (mCons (mBin gAdd (mBor 6) (mB (mTup (mCons (mTup (mCons (mDraw 1 G__law_pick (mCons (mC (.str "ab-")) mNil)) (mCons (mDraw 1 G__law_pick (mCons (mC (.str "ab-")) mNil)) mNil))) mNil)))) mNil)))))))
    (mSeq (mSet 7 (mOw (mBin gAddL (mBor 7) (mB (mLst (mCons (mBin gAdd (mB (mTup (mCons (mTup (mCons (mC (.str "-")) (mCons (mDraw 1 G__law_pick (mCons (mC (.str "ab-")) mNil)) mNil))) mNil))) (mBor 6)) mNil))))))
    (mSeq (mFor (mRng1 (mCons (mC (.int 8)) mNil)) (gNm 8) (mAppend 7 (mDraw 1 (G__law_bent 4) (mCons (mBin fIx (mBor 7) (mB (mBin gMod (mBor 8) (mB (mC (.int 5)))))) mNil))))
    (mIfS (mCmp fNeA (mB (mLc (mItems (mBin gAddL (mBor 7) (mB (mLst (mCons (mDraw 1 (G__law_bent 4) (mCons (mBin fIx (mBor 7) (mB (mNeg (mC (.int 1))))) mNil)) mNil))))) [11] (gNm 11) (mNot (toB (mRes G__law_are_told (mCons (mVar 11) mNil)))) (mVar 11))) (mB (mLst mNil))) (mRet (mC (.bool false))) .nx))))))))
abbrev restLaw : SS → SO := (mSeq (mSet 3 (mFz (mC (.str "abcdefghijklmnopqrstuvwxyz"))))
    (mSeq (mIfS (mOr (mNot (toB (mRes G_is_text (mCons (mVar 3) mNil)))) (mCmp fNeA (mB (mBu fRepr (mConsB (mB (mRes G_row_of (mCons (mVar 3) (mCons (mRev (mBor 3)) mNil)))) mNilB))) (mB (mBu fRepr (mConsB (mB (mRes G__law_signs (mCons (mVar 3) (mCons (mRev (mBor 3)) mNil)))) mNilB))))) (mRet (mC (.bool false))) .nx)
    (mSeq (mSet 4 (mOw (mLst (mCons (mBin gMulA (mB (mTup (mCons (mTup (mCons (mC (.str "a")) (mCons (mC (.str "-")) mNil))) mNil))) (mB (mC (.int 999)))) (mCons (mBin gAdd (mB (mBin gMulA (mB (mTup (mCons (mTup (mCons (mC (.str "a")) (mCons (mC (.str "-")) mNil))) mNil))) (mB (mC (.int 998))))) (mB (mTup (mCons (mTup (mCons (mC (.str "-")) (mCons (mC (.str "a")) mNil))) mNil)))) (mCons (mBin gMulA (mB (mTup (mCons (mTup (mCons (mC (.str "-")) (mCons (mC (.str "z")) mNil))) mNil))) (mB (mC (.int 999)))) mNil))))))
    (mSeq (mIfS (mOr (mCmp fNeA (mB (mBu fRepr (mConsB (mB (mLc (mItems (mVar 4)) [11] (gNm 11) mYes (mRes G_is_row (mCons (mVar 11) mNil)))) mNilB))) (mB (mBu fRepr (mConsB (mB (mLst (mCons (mC (.bool true)) (mCons (mC (.bool false)) (mCons (mC (.bool true)) mNil))))) mNilB)))) (mNot (toB (mRes G_is_row (mCons (mRes G__law_signs (mCons (mVar 3) (mCons (mC (.str "")) mNil))) mNil))))) (mRet (mC (.bool false))) .nx)
    (mSeq (mSet 5 (mOw (mLst (mCons (mC .none) (mCons (mC (.int 0)) (mCons (mC (.bool true)) (mCons (mTup mNil) (mCons (mLst mNil) (mCons mDict0 (mCons (mC (.str "")) (mCons (mC (.str "a-")) (mCons (mC (.str "A")) (mCons (mC (.str "a1")) (mCons (mTup (mCons (mTup (mCons (mC (.str "a")) (mCons (mC (.str "-")) mNil))) (mCons (mTup (mCons (mC (.str "b")) (mCons (mC (.str "c")) mNil))) mNil))) (mCons (mTup (mCons (mTup (mCons (mC (.str "-")) (mCons (mC (.str "-")) mNil))) mNil)) (mCons (mTup (mCons (mC (.str "ab")) mNil)) mNil))))))))))))))))
    (mRet (mBl (mCmp fEqA (mB (mLc (mItems (mVar 5)) [11] (gNm 11) (mNot (toB (mRes G__law_are_told (mCons (mVar 11) mNil)))) (mVar 11))) (mB (mLst mNil))))))))))
theorem told_lc {items : List Dt} {ss : SS} (h : ∀ d ∈ items, Nice 50 4000 d) (hl : items.length ≤ 1000) (h11 : ss[11]? = some none) :
    lcGo [11] (gNm 11) (mNot (toB (mRes G__law_are_told (mCons (mVar 11) mNil)))) (mVar 11) items ss [] = .ok [] ss := by
  have hlt : 11 < ss.length := (List.getElem?_eq_some_iff.mp h11).1
  have e := lcGo_pure (vs := [11]) (g := gNm 11) (mt := mNot (toB (mRes G__law_are_told (mCons (mVar 11) mNil)))) (me := mVar 11) (s0 := ss) (fun d => ss.set 11 (some (.v d))) (fun _ => false) (fun d => d) items [] (fun d _ => by
      show (if 11 < ss.length then some (ss.set 11 (some (.v d))) else none) = _
      rw [if_pos hlt]) (fun d hd => by
      obtain ⟨h1, h2, h3⟩ := h d hd
      have t := v_told h1 (by omega) h3
      have g : (ss.set 11 (some (SV.v d)))[11]? = some (some (.v d)) := by rw [List.getElem?_set_self hlt]
      simp [mNot, toB, mRes, mCons, mNil, mVar, EO.bind, EO.lift, g, t]) (fun d _ hp => by cases hp) (fun d _ => by
      show ((ss.set 11 (some (SV.v d))).set 11 none) = ss
      rw [List.set_set]
      refine List.ext_getElem? fun j => ?_
      by_cases hj : j = 11
      · subst hj
        rw [List.getElem?_set_self hlt, h11]
      · rw [List.getElem?_set_ne (Ne.symm hj)]) (by rw [List.length_nil]; exact Nat.le_trans (show 0 + items.length ≤ 1000 by omega) (by decide))
  rw [e]
  simp
theorem law_turn (a : Addr) (D : Dk) (k : Nat) (t : Int) (s6 s7 s8 s9 s10 : Option SV) (h : Fine k D) (hk : k < 80000) : ∃ D' s6' s7' s8' s9' s10', bodyTurn (slw a D (some (.v (.int t))) s6 s7 s8 s9 s10) = .nx (slw a D' (some (.v (.int t))) s6' s7' s8' s9' s10') ∧ Fine (k + 200) D' := by
  obtain ⟨xs, D1, D2, d1, e1, e2, lx, wx, f2⟩ := d_wordP h (by omega)
  obtain ⟨ys, D3, D4, d2, e3, e4, ly, wy, f4⟩ := d_wordP f2 (by omega)
  have xw : ∀ c ∈ xs, c < 128 ∧ c ≠ 45 := fun c hc => isW_isL (List.all_eq_true.mp wx c hc)
  have yw : ∀ c ∈ ys, c < 128 ∧ c ≠ 45 := fun c hc => isW_isL (List.all_eq_true.mp wy c hc)
  have kx : ∀ c ∈ xs, c < 128 := fun c hc => (xw c hc).1
  have ky : ∀ c ∈ ys, c < 128 := fun c hc => (yw c hc).1
  have sg1 : G__law_signs [.str (txt xs), .str (txt ys)] = .ok (.tuple (sg xs ys)) := by
    rw [v_signs (by rw [txt_len]; omega) (by rw [txt_len]; omega), txt_cps, txt_cps]
  have ro1 : G_row_of [.str (txt xs), .str (txt ys)] = .ok (.tuple (sg xs ys)) := by
    rw [v_row_of (by rw [txt_len]; omega) (by rw [txt_len]; omega), txt_cps, txt_cps]
  have pa1 := v_pair_of (xs := xs) (ys := ys) (by omega) (by omega) (fun c hc => (xw c hc).2) (fun c hc => (yw c hc).2)
  have nS := nice_sg kx ky lx ly
  have nX := nice_txt kx lx
  have nY := nice_txt ky ly
  have r1 : fRepr [.list [.tuple (sg xs ys), .tuple (sg xs ys)]] = some (.str (PyData.list [.tuple (sg xs ys), .tuple (sg xs ys)]).shown) := (nice_list (ds := [.tuple (sg xs ys), .tuple (sg xs ys)]) (fun d hd => by
    have : d = .tuple (sg xs ys) := by simpa using hd
    rw [this]; exact nS)).repr (by decide) (by simp)
  have nP : Nice 1 (124 * 2 + 4) (.tuple [.str (txt xs), .str (txt ys)]) := nice_tuple (fun d hd => by
    rcases List.mem_cons.mp hd with rfl | hd
    · exact nX
    · have : d = .str (txt ys) := by simpa using hd
      rw [this]; exact nY)
  have r2 : fRepr [.list [.tuple [.str (txt xs), .str (txt ys)], .tuple [.str (txt xs), .str (txt ys)]]] = some (.str (PyData.list [.tuple [.str (txt xs), .str (txt ys)], .tuple [.str (txt xs), .str (txt ys)]]).shown) := (nice_list (ds := [.tuple [.str (txt xs), .str (txt ys)], .tuple [.str (txt xs), .str (txt ys)]]) (fun d hd => by
    have : d = .tuple [.str (txt xs), .str (txt ys)] := by simpa using hd
    rw [this]; exact nP)).repr (by decide) (by simp)
  obtain ⟨c1, D5, e5, kc1, f5⟩ := d_pickA f4 (by omega)
  obtain ⟨c2, D6, e6, kc2, f6⟩ := d_pickA f5 (by omega)
  obtain ⟨c3, D7, e7, kc3, f7⟩ := d_pickA f6 (by omega)
  have axy : gAdd (.str (txt xs)) (.str (txt ys)) = some (.str (txt (xs ++ ys))) := by
    rw [add_txt (by rw [txt_len, txt_len]; omega), txt_app]
  have addT : ∀ us vs : List Dt, us.length + vs.length ≤ 4000 → gAdd (.tuple us) (.tuple vs) = some (.tuple (us ++ vs)) := fun us vs hl => by
    have hl : us.length + vs.length ≤ sizeLine := Nat.le_trans hl (by decide)
    simp only [gAdd, alt, gInt, gAddS, gAddT, if_pos hl]
  have lS : (sg xs ys).length ≤ 12 := by rw [sg_len]; omega
  have a1 := addT (sg xs ys) [.tuple [signD c1, signD c2]] (by simp; omega)
  have a2 := addT [.tuple [.str "-", signD c3]] (sg xs ys) (by simp; omega)
  obtain ⟨L1, hL1⟩ : ∃ L1, L1 = sg xs ys ++ [.tuple [signD c1, signD c2]] := ⟨_, rfl⟩
  obtain ⟨L2, hL2⟩ : ∃ L2, L2 = [.tuple [.str "-", signD c3]] ++ sg xs ys := ⟨_, rfl⟩
  rw [← hL1] at a1
  rw [← hL2] at a2
  have nD : ∀ d ∈ sg xs ys, Nice 1 32 d := fun d hd => by
    obtain ⟨p, hp, rfl⟩ := List.mem_map.mp hd
    obtain ⟨p1, p2⟩ := sp_lt128 xs ys kx ky p hp
    exact ⟨by simp only [duo, fn, fnA, fn_sign p1, fn_sign p2, Bool.and_self], by simp [duo, signD, PyData.depth, PyData.depthAll], by simp [duo, signD, wt, wtA, show (⟨#[p.1]⟩ : Str).length = 1 from rfl, show (⟨#[p.2]⟩ : Str).length = 1 from rfl]⟩
  have nd2 : ∀ u v, u < 128 → v < 128 → Nice 1 32 (.tuple [signD u, signD v]) := fun u v hu hv => by
    refine ⟨by simp only [fn, fnA, fn_sign hu, fn_sign hv, Bool.and_self], by simp [signD, PyData.depth, PyData.depthAll], by simp [signD, wt, wtA, show (⟨#[u]⟩ : Str).length = 1 from rfl, show (⟨#[v]⟩ : Str).length = 1 from rfl]⟩
  have len1 : L1.length ≤ 13 := by rw [hL1]; simp; omega
  have len2 : L2.length ≤ 13 := by rw [hL2]; simp; omega
  have n1 : Nice 2 (34 * L1.length + 4) (.tuple L1) := nice_tuple (n := 1) (w := 32) (fun d hd => by
    rw [hL1] at hd
    rcases List.mem_append.mp hd with hd | hd
    · exact nD d hd
    · have : d = .tuple [signD c1, signD c2] := by simpa using hd
      rw [this]; exact nd2 c1 c2 kc1 kc2)
  have n2 : Nice 2 (34 * L2.length + 4) (.tuple L2) := nice_tuple (n := 1) (w := 32) (fun d hd => by
    rw [hL2] at hd
    rcases List.mem_append.mp hd with hd | hd
    · have : d = .tuple [.str "-", signD c3] := by simpa using hd
      rw [this]; exact nd2 45 c3 (by decide) kc3
    · exact nD d hd)
  have nXY : Nice 0 (10 * 24 + 2) (.str (txt (xs ++ ys))) := nice_txt (fun c hc => by
    rcases List.mem_append.mp hc with hc | hc
    · exact kx c hc
    · exact ky c hc) (by simp; omega)
  obtain ⟨bs, hbs⟩ : ∃ bs : List Dt, bs = [.tuple (sg xs ys), .str (txt xs), .str (txt (xs ++ ys)), .tuple L1, .tuple L2] := ⟨_, rfl⟩
  have lb : bs.length = 5 := by rw [hbs]; rfl
  have nb : ∀ d ∈ bs, Nice 2 500 d := fun d hd => by
    rw [hbs] at hd
    simp only [List.mem_cons, List.not_mem_nil, or_false] at hd
    rcases hd with rfl | rfl | rfl | rfl | rfl
    · exact nS.up (by decide) (by decide)
    · exact nX.up (by decide) (by decide)
    · exact nXY.up (by decide) (by decide)
    · exact n1.up (by decide) (by omega)
    · exact n2.up (by decide) (by omega)
  obtain ⟨D8, more, s8', e8, f8, lm, nm⟩ := bent_loop a (some (.v (.int t))) (some (.v (.tuple (sg xs ys)))) (some (.v (.str (txt xs)))) (some (.v (.str (txt ys)))) bs lb nb (List.range 8) D7 (k + 31) [] s8 (f7.up (by omega)) (by simp; omega) (by simp) (fun d hd => by cases hd)
  have lm : more.length = 8 := by simpa using lm
  obtain ⟨last, hlast⟩ : ∃ last, (bs ++ more)[12]? = some last := ⟨_, List.getElem?_eq_getElem (by simp [lb, lm])⟩
  have nl : Nice 3 1100 last := by
    rw [List.getElem?_append_right (by omega), lb] at hlast
    exact nm last (List.mem_of_getElem? hlast)
  have ixl : fIx (.list (bs ++ more)) (.int (-1)) = some last := by
    show atI (bs ++ more) (-1) = _
    have : (bs ++ more).length = 13 := by simp [lb, lm]
    unfold atI
    rw [this]
    exact hlast
  obtain ⟨o, D9, e9, x1, x2, x3, f9⟩ := d_bent 4 D8 (k + 31 + 16 * 8) last (f8.up (by simp)) (by omega) nl.1 (by have := nl.2.2; omega) (by have := nl.2.1; omega)
  have no : Nice 50 4000 o := ⟨x1, by have := nl.2.1; omega, by have := nl.2.2; omega⟩
  have all : ∀ d ∈ bs ++ more ++ [o], Nice 50 4000 d := fun d hd => by
    rcases List.mem_append.mp hd with hd | hd
    · rcases List.mem_append.mp hd with hd | hd
      · exact (nb d hd).up (by decide) (by decide)
      · exact (nm d hd).up (by decide) (by decide)
    · have : d = o := by simpa using hd
      rw [this]; exact no
  have adL : gAddL (.list (bs ++ more)) (.list [o]) = some (.list (bs ++ more ++ [o])) := by
    have : (bs ++ more).length + [o].length ≤ sizeLine := Nat.le_trans (show _ ≤ 100 by simp [lb, lm]) (by decide)
    simp only [gAddL, if_pos this]
  have lall : (bs ++ more ++ [o]).length ≤ 1000 := by simp [lb, lm]
  refine ⟨D9, some (.v (.tuple (sg xs ys))), some (.o (.list (bs ++ more))), s8', some (.v (.str (txt xs))), some (.v (.str (txt ys))), ?_, f9.up (by omega)⟩
  obtain ⟨q, b, c⟩ := D
  obtain ⟨q1, b1, cc1⟩ := D1
  obtain ⟨q2, b2, cc2⟩ := D2
  obtain ⟨q3, b3, cc3⟩ := D3
  obtain ⟨q4, b4, cc4⟩ := D4
  obtain ⟨q5, b5, cc5⟩ := D5
  obtain ⟨q6, b6, cc6⟩ := D6
  obtain ⟨q7, b7, cc7⟩ := D7
  refine seq_nx (ss1 := slw a (q4, b4, cc4) (some (.v (.int t))) s6 s7 s8 (some (.v (.str (txt xs)))) (some (.v (.str (txt ys))))) (by simp [slw, mDraw, mC, mVar, mBor, mB, mNil, mCons, mNilB, mConsB, mTup, mLst, fit, mFz, mOw, NV.sv, mSeq, mRet, mIfS, mDrop, mSet, mPar, ownL, mAppend, gNm, gNilV, gConsV, gTupV, mAsg, signs, mItems, itemsD, mRng1, mRng2, mEnum, mZip, mFor, mLc, mYes, mIf, mAnd, mOr, mNot, toB, vAnd, vOr, vNot, mBl, mCmp, mChain, two, alt, mBin, mNeg, outF, startS, mRes, mResK, opsGet, mBu, mOu, alt1, mIsi, mPart, mPart0, mSl, mSlL, mRevL, mDict0, mM1, mM0, mMn, mTupZip, mRev, EO.bind, EO.lift, EO.st, Opd.get, EO.calm, wipeS, restS, isN, fIs, fIsNot, one1, two12, two21, show 0 ≤ sizeLine by decide, show 1 ≤ sizeLine by decide, show 2 ≤ sizeLine by decide, show 3 ≤ sizeLine by decide, show 4 ≤ sizeLine by decide, show 5 ≤ sizeLine by decide, show 6 ≤ sizeLine by decide, show 7 ≤ sizeLine by decide, show 8 ≤ sizeLine by decide, show 9 ≤ sizeLine by decide, show 13 ≤ sizeLine by decide, show 17 ≤ sizeLine by decide, show 21 ≤ sizeLine by decide, show 26 ≤ sizeLine by decide, e1, e2, e3, e4]) ?_
  refine seq_nx (ss1 := slw a (q4, b4, cc4) (some (.v (.int t))) (some (.v (.tuple (sg xs ys)))) s7 s8 (some (.v (.str (txt xs)))) (some (.v (.str (txt ys))))) (by simp [slw, mC, mVar, mBor, mB, mNil, mCons, mNilB, mConsB, mTup, mLst, fit, mFz, mOw, NV.sv, mSeq, mRet, mIfS, mDrop, mSet, mPar, ownL, mAppend, gNm, gNilV, gConsV, gTupV, mAsg, signs, mItems, itemsD, mRng1, mRng2, mEnum, mZip, mFor, mLc, mYes, mIf, mAnd, mOr, mNot, toB, vAnd, vOr, vNot, mBl, mCmp, mChain, two, alt, mBin, mNeg, outF, startS, mRes, mResK, opsGet, mBu, mOu, alt1, mIsi, mPart, mPart0, mSl, mSlL, mRevL, mDict0, mM1, mM0, mMn, mTupZip, mRev, EO.bind, EO.lift, EO.st, Opd.get, EO.calm, wipeS, restS, isN, fIs, fIsNot, one1, two12, two21, sg1]) ?_
  refine seq_nx (ss1 := slw a (q4, b4, cc4) (some (.v (.int t))) (some (.v (.tuple (sg xs ys)))) s7 s8 (some (.v (.str (txt xs)))) (some (.v (.str (txt ys))))) (by simp [slw, mC, mVar, mBor, mB, mNil, mCons, mNilB, mConsB, mTup, mLst, fit, mFz, mOw, NV.sv, mSeq, mRet, mIfS, mDrop, mSet, mPar, ownL, mAppend, gNm, gNilV, gConsV, gTupV, mAsg, signs, mItems, itemsD, mRng1, mRng2, mEnum, mZip, mFor, mLc, mYes, mIf, mAnd, mOr, mNot, toB, vAnd, vOr, vNot, mBl, mCmp, mChain, two, alt, mBin, mNeg, outF, startS, mRes, mResK, opsGet, mBu, mOu, alt1, mIsi, mPart, mPart0, mSl, mSlL, mRevL, mDict0, mM1, mM0, mMn, mTupZip, mRev, EO.bind, EO.lift, EO.st, Opd.get, EO.calm, wipeS, restS, isN, fIs, fIsNot, one1, two12, two21, show 0 ≤ sizeLine by decide, show 1 ≤ sizeLine by decide, show 2 ≤ sizeLine by decide, show 3 ≤ sizeLine by decide, show 4 ≤ sizeLine by decide, show 5 ≤ sizeLine by decide, show 6 ≤ sizeLine by decide, show 7 ≤ sizeLine by decide, show 8 ≤ sizeLine by decide, show 9 ≤ sizeLine by decide, show 13 ≤ sizeLine by decide, show 17 ≤ sizeLine by decide, show 21 ≤ sizeLine by decide, show 26 ≤ sizeLine by decide, ro1, r1, neA_txt]) ?_
  refine seq_nx (ss1 := slw a (q4, b4, cc4) (some (.v (.int t))) (some (.v (.tuple (sg xs ys)))) s7 s8 (some (.v (.str (txt xs)))) (some (.v (.str (txt ys))))) (by simp [slw, mC, mVar, mBor, mB, mNil, mCons, mNilB, mConsB, mTup, mLst, fit, mFz, mOw, NV.sv, mSeq, mRet, mIfS, mDrop, mSet, mPar, ownL, mAppend, gNm, gNilV, gConsV, gTupV, mAsg, signs, mItems, itemsD, mRng1, mRng2, mEnum, mZip, mFor, mLc, mYes, mIf, mAnd, mOr, mNot, toB, vAnd, vOr, vNot, mBl, mCmp, mChain, two, alt, mBin, mNeg, outF, startS, mRes, mResK, opsGet, mBu, mOu, alt1, mIsi, mPart, mPart0, mSl, mSlL, mRevL, mDict0, mM1, mM0, mMn, mTupZip, mRev, EO.bind, EO.lift, EO.st, Opd.get, EO.calm, wipeS, restS, isN, fIs, fIsNot, one1, two12, two21, show 0 ≤ sizeLine by decide, show 1 ≤ sizeLine by decide, show 2 ≤ sizeLine by decide, show 3 ≤ sizeLine by decide, show 4 ≤ sizeLine by decide, show 5 ≤ sizeLine by decide, show 6 ≤ sizeLine by decide, show 7 ≤ sizeLine by decide, show 8 ≤ sizeLine by decide, show 9 ≤ sizeLine by decide, show 13 ≤ sizeLine by decide, show 17 ≤ sizeLine by decide, show 21 ≤ sizeLine by decide, show 26 ≤ sizeLine by decide, pa1, r2, neA_txt]) ?_
  refine seq_nx (ss1 := slw a (q6, b6, cc6) (some (.v (.int t))) (some (.v (.tuple (sg xs ys)))) (some (.o (.list [.tuple (sg xs ys), .str (txt xs), .str (txt (xs ++ ys)), .tuple L1]))) s8 (some (.v (.str (txt xs)))) (some (.v (.str (txt ys))))) (by simp [slw, mDraw, mC, mVar, mBor, mB, mNil, mCons, mNilB, mConsB, mTup, mLst, fit, mFz, mOw, NV.sv, mSeq, mRet, mIfS, mDrop, mSet, mPar, ownL, mAppend, gNm, gNilV, gConsV, gTupV, mAsg, signs, mItems, itemsD, mRng1, mRng2, mEnum, mZip, mFor, mLc, mYes, mIf, mAnd, mOr, mNot, toB, vAnd, vOr, vNot, mBl, mCmp, mChain, two, alt, mBin, mNeg, outF, startS, mRes, mResK, opsGet, mBu, mOu, alt1, mIsi, mPart, mPart0, mSl, mSlL, mRevL, mDict0, mM1, mM0, mMn, mTupZip, mRev, EO.bind, EO.lift, EO.st, Opd.get, EO.calm, wipeS, restS, isN, fIs, fIsNot, one1, two12, two21, show 0 ≤ sizeLine by decide, show 1 ≤ sizeLine by decide, show 2 ≤ sizeLine by decide, show 3 ≤ sizeLine by decide, show 4 ≤ sizeLine by decide, show 5 ≤ sizeLine by decide, show 6 ≤ sizeLine by decide, show 7 ≤ sizeLine by decide, show 8 ≤ sizeLine by decide, show 9 ≤ sizeLine by decide, show 13 ≤ sizeLine by decide, show 17 ≤ sizeLine by decide, show 21 ≤ sizeLine by decide, show 26 ≤ sizeLine by decide, e5, e6, axy, a1]) ?_
  refine seq_nx (ss1 := slw a (q7, b7, cc7) (some (.v (.int t))) (some (.v (.tuple (sg xs ys)))) (some (.o (.list bs))) s8 (some (.v (.str (txt xs)))) (some (.v (.str (txt ys))))) (by rw [hbs]; simp [slw, mDraw, mC, mVar, mBor, mB, mNil, mCons, mNilB, mConsB, mTup, mLst, fit, mFz, mOw, NV.sv, mSeq, mRet, mIfS, mDrop, mSet, mPar, ownL, mAppend, gNm, gNilV, gConsV, gTupV, mAsg, signs, mItems, itemsD, mRng1, mRng2, mEnum, mZip, mFor, mLc, mYes, mIf, mAnd, mOr, mNot, toB, vAnd, vOr, vNot, mBl, mCmp, mChain, two, alt, mBin, mNeg, outF, startS, mRes, mResK, opsGet, mBu, mOu, alt1, mIsi, mPart, mPart0, mSl, mSlL, mRevL, mDict0, mM1, mM0, mMn, mTupZip, mRev, EO.bind, EO.lift, EO.st, Opd.get, EO.calm, wipeS, restS, isN, fIs, fIsNot, one1, two12, two21, show 0 ≤ sizeLine by decide, show 1 ≤ sizeLine by decide, show 2 ≤ sizeLine by decide, show 3 ≤ sizeLine by decide, show 4 ≤ sizeLine by decide, show 5 ≤ sizeLine by decide, show 6 ≤ sizeLine by decide, show 7 ≤ sizeLine by decide, show 8 ≤ sizeLine by decide, show 9 ≤ sizeLine by decide, show 13 ≤ sizeLine by decide, show 17 ≤ sizeLine by decide, show 21 ≤ sizeLine by decide, show 26 ≤ sizeLine by decide, e7, a2, gAddL]) ?_
  have hr : rangeD 0 8 = (List.range 8).map fun i => .int ((i : Nat) : Int) := by
    unfold rangeD
    exact List.map_congr_left fun i _ => by rw [Int.zero_add]
  refine seq_nx (ss1 := slw a D8 (some (.v (.int t))) (some (.v (.tuple (sg xs ys)))) (some (.o (.list (bs ++ more)))) s8' (some (.v (.str (txt xs)))) (some (.v (.str (txt ys))))) ?_ ?_
  · rw [List.append_nil] at e8
    have s6 : small62 8 := ⟨by decide, by decide⟩
    show mFor (mRng1 (mCons (mC (.int 8)) mNil)) (gNm 8) bodyBent _ = _
    simp only [mFor, mRng1, mCons, mC, mNil, EO.bind, EO.st, s6, if_true]
    show forGo (gNm 8) bodyBent (rangeD 0 8) _ = _
    rw [hr]
    exact e8
  · obtain ⟨q8, b8, cc8⟩ := D8
    obtain ⟨q9, b9, cc9⟩ := D9
    have z := told_lc (ss := slw a (q9, b9, cc9) (some (.v (.int t))) (some (.v (.tuple (sg xs ys)))) (some (.o (.list (bs ++ more)))) s8' (some (.v (.str (txt xs)))) (some (.v (.str (txt ys))))) all lall rfl
    generalize bs ++ more = S at *
    unfold slw at z
    simp only [slw]
    generalize (mNot (toB (mRes G__law_are_told (mCons (mVar 11) mNil)))) = A at z ⊢
    simp [mDraw, mC, mVar, mBor, mB, mNil, mCons, mNilB, mConsB, mTup, mLst, fit, mFz, mOw, NV.sv, mSeq, mRet, mIfS, mDrop, mSet, mPar, ownL, mAppend, gNm, gNilV, gConsV, gTupV, mAsg, signs, mItems, itemsD, mRng1, mRng2, mEnum, mZip, mFor, mLc, mYes, mIf, mAnd, mOr, mNot, toB, vAnd, vOr, vNot, mBl, mCmp, mChain, two, alt, mBin, mNeg, outF, startS, mRes, mResK, opsGet, mBu, mOu, alt1, mIsi, mPart, mPart0, mSl, mSlL, mRevL, mDict0, mM1, mM0, mMn, mTupZip, mRev, EO.bind, EO.lift, EO.st, Opd.get, EO.calm, wipeS, restS, isN, fIs, fIsNot, one1, two12, two21, show 0 ≤ sizeLine by decide, show 1 ≤ sizeLine by decide, show 2 ≤ sizeLine by decide, show 3 ≤ sizeLine by decide, show 4 ≤ sizeLine by decide, show 5 ≤ sizeLine by decide, show 6 ≤ sizeLine by decide, show 7 ≤ sizeLine by decide, show 8 ≤ sizeLine by decide, show 9 ≤ sizeLine by decide, show 13 ≤ sizeLine by decide, show 17 ≤ sizeLine by decide, show 21 ≤ sizeLine by decide, show 26 ≤ sizeLine by decide, ixl, e9, adL, z, neA_nil]
theorem told_lc2 {items : List Dt} {ss : SS} {s : Option SV} (h : ∀ d ∈ items, Nice 50 4000 d) (hl : items.length ≤ 1000) (h11 : ss[11]? = some none) :
    lcGo [11] (gNm 11) (mNot (toB (mRes G__law_are_told (mCons (mVar 11) mNil)))) (mVar 11) items ss [] = .ok [] ss := told_lc h hl h11
theorem row_long : rowD (.tuple (List.replicate 999 (.tuple [.str "a", .str "-"]))) = true := by decide +kernel
theorem row_long3 : rowD (.tuple (List.replicate 999 (.tuple [.str "-", .str "z"]))) = true := by decide +kernel
theorem row_long2 : rowD (.tuple (List.replicate 998 (.tuple [.str "a", .str "-"]) ++ [.tuple [.str "-", .str "a"]])) = false := by decide +kernel
theorem okr_long : okR (.tuple (List.replicate 999 (.tuple [.str "a", .str "-"]))) = true := by decide +kernel
theorem okr_long3 : okR (.tuple (List.replicate 999 (.tuple [.str "-", .str "z"]))) = true := by decide +kernel
theorem okr_long2 : okR (.tuple (List.replicate 998 (.tuple [.str "a", .str "-"]) ++ [.tuple [.str "-", .str "a"]])) = true := by decide +kernel
theorem repT (d : Dt) (k : Nat) (h2 : 2 ≤ k) (hk : k ≤ 1000) : gMulA (.tuple [d]) (.int (k : Int)) = some (.tuple (List.replicate k d)) := by
  have e : gRepT (.tuple [d]) (.int (k : Int)) = some (.tuple (List.replicate k d)) := by
    show (if [d] ≠ [] ∧ 2 ≤ (k : Int) ∧ (k : Int) ≤ 1000 ∧ [d].length ≤ 1000 then some (PyData.tuple (List.replicate (k : Int).toNat [d]).flatten) else none) = _
    rw [if_pos ⟨by simp, by omega, by omega, by simp⟩, Int.toNat_natCast]
    congr 2
    clear h2 hk
    induction k with
    | zero => rfl
    | succ k ih => rw [List.replicate_succ, List.flatten_cons, ih, List.replicate_succ]; rfl
  have e1 : gMul (.tuple [d]) (.int (k : Int)) = none := rfl
  have e2 : gRepL (.tuple [d]) (.int (k : Int)) = none := rfl
  show (match gMul (.tuple [d]) (.int (k : Int)) with
    | some z => some z
    | none => match gRepL (.tuple [d]) (.int (k : Int)) with
      | some z => some z
      | none => gRepT (.tuple [d]) (.int (k : Int))) = _
  rw [e1, e2]
  exact e
theorem law_rest (a : Addr) (D : Dk) (s2 s6 s7 s8 s9 s10 : Option SV) : ∃ ss, restLaw (slw a D s2 s6 s7 s8 s9 s10) = .rt (.bool true) ss := by
  obtain ⟨q, b, c⟩ := D
  have tE : G_is_text [.str "abcdefghijklmnopqrstuvwxyz"] = .ok (.bool true) := by
    rw [v_is_text (by decide +kernel)]
    rw [show isTextD (.str "abcdefghijklmnopqrstuvwxyz") = true from by decide +kernel]
  obtain ⟨E, hE⟩ : ∃ E : Str, E = "abcdefghijklmnopqrstuvwxyz" := ⟨_, rfl⟩
  have lE : E.length = 26 := by rw [hE]; decide +kernel
  obtain ⟨E2, hE2⟩ : ∃ E2 : Str, E2 = revS E := ⟨_, rfl⟩
  have lE2 : E2.length = 26 := by rw [hE2, hE]; decide +kernel
  have kE : ∀ c ∈ E.cps.toList, c < 128 := by rw [hE]; decide +kernel
  have kE2 : ∀ c ∈ E2.cps.toList, c < 128 := by rw [hE2, hE]; decide +kernel
  have rv : fRev (.str E) = some (.str E2) := by
    show (if (revS E).length ≤ sizeLine then some (PyData.str (revS E)) else none) = _
    rw [← hE2, if_pos (by rw [lE2]; decide)]
  have ro := v_row_of (x := E) (y := E2) (by omega) (by omega)
  have sg1 := v_signs (x := E) (y := E2) (by omega) (by omega)
  have nS := nice_sg (n := 26) kE kE2 (by show E.length ≤ 26; omega) (by show E2.length ≤ 26; omega)
  have rS := nS.repr (by decide) (by decide)
  rw [← hE] at tE
  obtain ⟨A1, hA1⟩ : ∃ A : List Dt, A = List.replicate 999 (.tuple [.str "a", .str "-"]) := ⟨_, rfl⟩
  obtain ⟨A2, hA2⟩ : ∃ A : List Dt, A = List.replicate 998 (.tuple [.str "a", .str "-"]) := ⟨_, rfl⟩
  obtain ⟨A3, hA3⟩ : ∃ A : List Dt, A = List.replicate 999 (.tuple [.str "-", .str "z"]) := ⟨_, rfl⟩
  have m1 : gMulA (.tuple [.tuple [.str "a", .str "-"]]) (.int 999) = some (.tuple A1) := by rw [hA1]; exact repT _ 999 (by decide) (by decide)
  have m2 : gMulA (.tuple [.tuple [.str "a", .str "-"]]) (.int 998) = some (.tuple A2) := by rw [hA2]; exact repT _ 998 (by decide) (by decide)
  have m3 : gMulA (.tuple [.tuple [.str "-", .str "z"]]) (.int 999) = some (.tuple A3) := by rw [hA3]; exact repT _ 999 (by decide) (by decide)
  obtain ⟨A4, hA4⟩ : ∃ A : List Dt, A = A2 ++ [.tuple [.str "-", .str "a"]] := ⟨_, rfl⟩
  have m4 : gAdd (.tuple A2) (.tuple [.tuple [.str "-", .str "a"]]) = some (.tuple A4) := by
    have hl : A2.length + [PyData.tuple [.str "-", .str "a"]].length ≤ sizeLine := by rw [hA2, List.length_replicate]; decide
    rw [hA4]
    simp only [gAdd, alt, gInt, gAddS, gAddT, if_pos hl]
  have i1 : G_is_row [.tuple A1] = .ok (.bool true) := by
    rw [v_is_row (by rw [hA1]; exact okr_long), hA1, row_long]
  have i3 : G_is_row [.tuple A3] = .ok (.bool true) := by
    rw [v_is_row (by rw [hA3]; exact okr_long3), hA3, row_long3]
  have i2 : G_is_row [.tuple A4] = .ok (.bool false) := by
    rw [v_is_row (by rw [hA4, hA2]; exact okr_long2), hA4, hA2, row_long2]
  have r3 : fRepr [.list [.bool true, .bool false, .bool true]] = some (.str (PyData.list [.bool true, .bool false, .bool true]).shown) := repr_fn rfl (by simp [PyData.depth, PyData.depthAll]) (by simp [wt, wtA])
  have sg2 : G__law_signs [.str E, .str ""] = .ok (.tuple (sg E.cps.toList [])) := v_signs (by omega) (by decide)
  have i4 : G_is_row [.tuple (sg E.cps.toList [])] = .ok (.bool true) := by
    rw [hE, v_is_row (by decide +kernel)]
    rw [show rowD (.tuple (sg ("abcdefghijklmnopqrstuvwxyz" : Str).cps.toList [])) = true from by decide +kernel]
  obtain ⟨O, hO⟩ : ∃ O : List Dt, O = [.none, .int 0, .bool true, .tuple [], .list [], .dict [], .str "", .str "a-", .str "A", .str "a1", .tuple [.tuple [.str "a", .str "-"], .tuple [.str "b", .str "c"]], .tuple [.tuple [.str "-", .str "-"]], .tuple [.str "ab"]] := ⟨_, rfl⟩
  have nO : ∀ d ∈ O, Nice 50 4000 d := by
    have : (O.all fun d => fn d && decide (d.depth ≤ 50) && decide (wt d ≤ 4000)) = true := by rw [hO]; decide +kernel
    intro d hd
    have := List.all_eq_true.mp this d hd
    simp only [Bool.and_eq_true, decide_eq_true_eq] at this
    exact ⟨this.1.1, this.1.2, this.2⟩
  refine ⟨[none, some (.dk a q b c), s2, some (.v (.str E)), some (.v (.list [.tuple A1, .tuple A4, .tuple A3])), some (.v (.list O)), s6, s7, s8, s9, s10, none], seq_nx (ss1 := [none, some (.dk a q b c), s2, some (.v (.str E)), none, none, s6, s7, s8, s9, s10, none]) (by rw [hE]; simp [slw, mC, mVar, mBor, mB, mNil, mCons, mNilB, mConsB, mTup, mLst, fit, mFz, mOw, NV.sv, mSeq, mRet, mIfS, mDrop, mSet, mPar, ownL, mAppend, gNm, gNilV, gConsV, gTupV, mAsg, signs, mItems, itemsD, mRng1, mRng2, mEnum, mZip, mFor, mLc, mYes, mIf, mAnd, mOr, mNot, toB, vAnd, vOr, vNot, mBl, mCmp, mChain, two, alt, mBin, mNeg, outF, startS, mRes, mResK, opsGet, mBu, mOu, alt1, mIsi, mPart, mPart0, mSl, mSlL, mRevL, mDict0, mM1, mM0, mMn, mTupZip, mRev, EO.bind, EO.lift, EO.st, Opd.get, EO.calm, wipeS, restS, isN, fIs, fIsNot, one1, two12, two21]) ?_⟩
  refine seq_nx (ss1 := [none, some (.dk a q b c), s2, some (.v (.str E)), none, none, s6, s7, s8, s9, s10, none]) (by simp [mC, mVar, mBor, mB, mNil, mCons, mNilB, mConsB, mTup, mLst, fit, mFz, mOw, NV.sv, mSeq, mRet, mIfS, mDrop, mSet, mPar, ownL, mAppend, gNm, gNilV, gConsV, gTupV, mAsg, signs, mItems, itemsD, mRng1, mRng2, mEnum, mZip, mFor, mLc, mYes, mIf, mAnd, mOr, mNot, toB, vAnd, vOr, vNot, mBl, mCmp, mChain, two, alt, mBin, mNeg, outF, startS, mRes, mResK, opsGet, mBu, mOu, alt1, mIsi, mPart, mPart0, mSl, mSlL, mRevL, mDict0, mM1, mM0, mMn, mTupZip, mRev, EO.bind, EO.lift, EO.st, Opd.get, EO.calm, wipeS, restS, isN, fIs, fIsNot, one1, two12, two21, show 0 ≤ sizeLine by decide, show 1 ≤ sizeLine by decide, show 2 ≤ sizeLine by decide, show 3 ≤ sizeLine by decide, show 4 ≤ sizeLine by decide, show 5 ≤ sizeLine by decide, show 6 ≤ sizeLine by decide, show 7 ≤ sizeLine by decide, show 8 ≤ sizeLine by decide, show 9 ≤ sizeLine by decide, show 13 ≤ sizeLine by decide, show 17 ≤ sizeLine by decide, show 21 ≤ sizeLine by decide, show 26 ≤ sizeLine by decide, tE, rv, ro, sg1, rS, neA_txt]) ?_
  refine seq_nx (ss1 := [none, some (.dk a q b c), s2, some (.v (.str E)), some (.o (.list [.tuple A1, .tuple A4, .tuple A3])), none, s6, s7, s8, s9, s10, none]) (by simp [mC, mVar, mBor, mB, mNil, mCons, mNilB, mConsB, mTup, mLst, fit, mFz, mOw, NV.sv, mSeq, mRet, mIfS, mDrop, mSet, mPar, ownL, mAppend, gNm, gNilV, gConsV, gTupV, mAsg, signs, mItems, itemsD, mRng1, mRng2, mEnum, mZip, mFor, mLc, mYes, mIf, mAnd, mOr, mNot, toB, vAnd, vOr, vNot, mBl, mCmp, mChain, two, alt, mBin, mNeg, outF, startS, mRes, mResK, opsGet, mBu, mOu, alt1, mIsi, mPart, mPart0, mSl, mSlL, mRevL, mDict0, mM1, mM0, mMn, mTupZip, mRev, EO.bind, EO.lift, EO.st, Opd.get, EO.calm, wipeS, restS, isN, fIs, fIsNot, one1, two12, two21, show 0 ≤ sizeLine by decide, show 1 ≤ sizeLine by decide, show 2 ≤ sizeLine by decide, show 3 ≤ sizeLine by decide, show 4 ≤ sizeLine by decide, show 5 ≤ sizeLine by decide, show 6 ≤ sizeLine by decide, show 7 ≤ sizeLine by decide, show 8 ≤ sizeLine by decide, show 9 ≤ sizeLine by decide, show 13 ≤ sizeLine by decide, show 17 ≤ sizeLine by decide, show 21 ≤ sizeLine by decide, show 26 ≤ sizeLine by decide, m1, m2, m3, m4]) ?_
  refine seq_nx (ss1 := [none, some (.dk a q b c), s2, some (.v (.str E)), some (.v (.list [.tuple A1, .tuple A4, .tuple A3])), none, s6, s7, s8, s9, s10, none]) (by simp [mC, mVar, mBor, mB, mNil, mCons, mNilB, mConsB, mTup, mLst, fit, mFz, mOw, NV.sv, mSeq, mRet, mIfS, mDrop, mSet, mPar, ownL, mAppend, gNm, gNilV, gConsV, gTupV, mAsg, signs, mItems, itemsD, mRng1, mRng2, mEnum, mZip, mFor, mLc, mYes, mIf, mAnd, mOr, mNot, toB, vAnd, vOr, vNot, mBl, mCmp, mChain, two, alt, mBin, mNeg, outF, startS, mRes, mResK, opsGet, mBu, mOu, alt1, mIsi, mPart, mPart0, mSl, mSlL, mRevL, mDict0, mM1, mM0, mMn, mTupZip, mRev, EO.bind, EO.lift, EO.st, Opd.get, EO.calm, wipeS, restS, isN, fIs, fIsNot, one1, two12, two21, show 0 ≤ sizeLine by decide, show 1 ≤ sizeLine by decide, show 2 ≤ sizeLine by decide, show 3 ≤ sizeLine by decide, show 4 ≤ sizeLine by decide, show 5 ≤ sizeLine by decide, show 6 ≤ sizeLine by decide, show 7 ≤ sizeLine by decide, show 8 ≤ sizeLine by decide, show 9 ≤ sizeLine by decide, show 13 ≤ sizeLine by decide, show 17 ≤ sizeLine by decide, show 21 ≤ sizeLine by decide, show 26 ≤ sizeLine by decide, lcGo, EO.calm, show 0 < sizeLine by decide, show 1 < sizeLine by decide, show 2 < sizeLine by decide, i1, i2, i3, r3, neA_txt, sg2, i4]) ?_
  refine seq_nx (ss1 := [none, some (.dk a q b c), s2, some (.v (.str E)), some (.v (.list [.tuple A1, .tuple A4, .tuple A3])), some (.o (.list O)), s6, s7, s8, s9, s10, none]) (by rw [hO]; simp [mC, mVar, mBor, mB, mNil, mCons, mNilB, mConsB, mTup, mLst, fit, mFz, mOw, NV.sv, mSeq, mRet, mIfS, mDrop, mSet, mPar, ownL, mAppend, gNm, gNilV, gConsV, gTupV, mAsg, signs, mItems, itemsD, mRng1, mRng2, mEnum, mZip, mFor, mLc, mYes, mIf, mAnd, mOr, mNot, toB, vAnd, vOr, vNot, mBl, mCmp, mChain, two, alt, mBin, mNeg, outF, startS, mRes, mResK, opsGet, mBu, mOu, alt1, mIsi, mPart, mPart0, mSl, mSlL, mRevL, mDict0, mM1, mM0, mMn, mTupZip, mRev, EO.bind, EO.lift, EO.st, Opd.get, EO.calm, wipeS, restS, isN, fIs, fIsNot, one1, two12, two21, show 0 ≤ sizeLine by decide, show 1 ≤ sizeLine by decide, show 2 ≤ sizeLine by decide, show 3 ≤ sizeLine by decide, show 4 ≤ sizeLine by decide, show 5 ≤ sizeLine by decide, show 6 ≤ sizeLine by decide, show 7 ≤ sizeLine by decide, show 8 ≤ sizeLine by decide, show 9 ≤ sizeLine by decide, show 13 ≤ sizeLine by decide, show 17 ≤ sizeLine by decide, show 21 ≤ sizeLine by decide, show 26 ≤ sizeLine by decide]) ?_
  have z := told_lc (ss := [none, some (.dk a q b c), s2, some (.v (.str E)), some (.v (.list [.tuple A1, .tuple A4, .tuple A3])), some (.v (.list O)), s6, s7, s8, s9, s10, none]) nO (by rw [hO]; decide) rfl
  generalize (mNot (toB (mRes G__law_are_told (mCons (mVar 11) mNil)))) = A at z ⊢
  simp [mC, mVar, mBor, mB, mNil, mCons, mNilB, mConsB, mTup, mLst, fit, mFz, mOw, NV.sv, mSeq, mRet, mIfS, mDrop, mSet, mPar, ownL, mAppend, gNm, gNilV, gConsV, gTupV, mAsg, signs, mItems, itemsD, mRng1, mRng2, mEnum, mZip, mFor, mLc, mYes, mIf, mAnd, mOr, mNot, toB, vAnd, vOr, vNot, mBl, mCmp, mChain, two, alt, mBin, mNeg, outF, startS, mRes, mResK, opsGet, mBu, mOu, alt1, mIsi, mPart, mPart0, mSl, mSlL, mRevL, mDict0, mM1, mM0, mMn, mTupZip, mRev, EO.bind, EO.lift, EO.st, Opd.get, EO.calm, wipeS, restS, isN, fIs, fIsNot, one1, two12, two21, show 0 ≤ sizeLine by decide, show 1 ≤ sizeLine by decide, show 2 ≤ sizeLine by decide, show 3 ≤ sizeLine by decide, show 4 ≤ sizeLine by decide, show 5 ≤ sizeLine by decide, show 6 ≤ sizeLine by decide, show 7 ≤ sizeLine by decide, show 8 ≤ sizeLine by decide, show 9 ≤ sizeLine by decide, show 13 ≤ sizeLine by decide, show 17 ≤ sizeLine by decide, show 21 ≤ sizeLine by decide, show 26 ≤ sizeLine by decide, z, eqA_nil]
theorem law_loop12 (a : Addr) : ∀ (its : List Nat) (D : Dk) (k : Nat) (s2 s6 s7 s8 s9 s10 : Option SV), Fine k D → k + 200 * its.length < 80000 →
    ∃ D' s2' s6' s7' s8' s9' s10', forGo (gNm 2) bodyTurn (its.map fun i => .int ((i : Nat) : Int)) (slw a D s2 s6 s7 s8 s9 s10) = .nx (slw a D' s2' s6' s7' s8' s9' s10')
  | [], D, k, s2, s6, s7, s8, s9, s10, _, _ => ⟨D, s2, s6, s7, s8, s9, s10, rfl⟩
  | i :: its, D, k, s2, s6, s7, s8, s9, s10, h, hk => by
    rw [List.length_cons] at hk
    obtain ⟨D', s6', s7', s8', s9', s10', e, f⟩ := law_turn a D k (i : Int) s6 s7 s8 s9 s10 h (by omega)
    have g : gNm 2 (.int (i : Int)) (slw a D s2 s6 s7 s8 s9 s10) = some (slw a D (some (.v (.int (i : Int)))) s6 s7 s8 s9 s10) := rfl
    obtain ⟨D2, t2, t6, t7, t8, t9, t10, e2⟩ := law_loop12 a its D' (k + 200) (some (.v (.int (i : Int)))) s6' s7' s8' s9' s10' f (by omega)
    refine ⟨D2, t2, t6, t7, t8, t9, t10, ?_⟩
    rw [List.map_cons, forGo, g]
    dsimp only
    rw [e]
    exact e2
theorem good_law (a : Addr) (ns : List Int) (h : ns.length ≤ 63) : ∃ ss, m_law (startW a N_law ns.reverse (blend ns.reverse)) = .rt (.bool true) ss := by
  have hr : rangeD 0 12 = (List.range 12).map fun i => .int ((i : Nat) : Int) := by
    unfold rangeD
    exact List.map_congr_left fun i _ => by rw [Int.zero_add]
  obtain ⟨D, s2, s6, s7, s8, s9, s10, e⟩ := law_loop12 a (List.range 12) (ns.reverse, blend ns.reverse, 0) 0 none none none none none none ⟨by show ns.reverse.length ≤ 100; rw [List.length_reverse]; omega, Int.le_refl 0, Int.le_refl 0⟩ (by decide)
  obtain ⟨ss, e2⟩ := law_rest a D s2 s6 s7 s8 s9 s10
  refine ⟨ss, ?_⟩
  show mSeq (mFor (mRng1 (mCons (mC (.int 12)) mNil)) (gNm 2) bodyTurn) restLaw _ = _
  refine seq_nx ?_ e2
  have s6 : small62 12 := ⟨by decide, by decide⟩
  simp only [mFor, mRng1, mCons, mC, mNil, EO.bind, EO.st, s6, if_true]
  show forGo (gNm 2) bodyTurn (rangeD 0 12) _ = _
  rw [hr]
  exact e
section
variable {P : Program} {w : World} {K : PySem.W.Frag} {mg : Str → Option Value} {base : Heap}
theorem go_law (T : Top K mg) : Go P w K mg base 9 "law" s_law ["_law_script"] (spL K) := by
  obtain ⟨f, fd, F, hm, hb⟩ := T.d_law.ex
  obtain ⟨f1, fd1, F1, hm1, hb1, M⟩ := (go__law_deck (P := P) (w := w) (base := base) T).ex
  exact ⟨f, fd, F, hm, hb, fn_law F sc_law (by decide) (by decide) rfl M (by decide) hm1 F1.kp hb1 rfl rfl (fun _ _ _ _ _ _ => .inl rfl) (fun _ _ _ _ _ _ => by first | exact .inl rfl | exact .inr rfl) (fun _ _ _ _ _ _ => rfl) (fun cdv A outer s H E C =>
    (ss_cons (s_for C (i_rng1 C (a_cons v_int a_nil) (by intro _; rfl) T.b_range) (gn C 2) (ss_cons (par2 C 9 10 (n_v (draw C 1 (go__law_word T) (by first | decide | omega) (a_cons (draw C 1 (go__law_pick T) (by first | decide | omega) (a_cons (v_new (o_lst (a_cons v_int (a_cons v_int a_nil)))) a_nil) (fun ss ds ss' h => congrArg (· + 1) ((mCons_len mNil_len) ss ds ss' h))) a_nil) (fun ss ds ss' h => congrArg (· + 1) ((mCons_len mNil_len) ss ds ss' h)))) (n_v (draw C 1 (go__law_word T) (by first | decide | omega) (a_cons (draw C 1 (go__law_pick T) (by first | decide | omega) (a_cons (v_new (o_lst (a_cons v_int (a_cons v_int a_nil)))) a_nil) (fun ss ds ss' h => congrArg (· + 1) ((mCons_len mNil_len) ss ds ss' h))) a_nil) (fun ss ds ss' h => congrArg (· + 1) ((mCons_len mNil_len) ss ds ss' h)))))
    (ss_cons (set1 C 6 (n_v (call C (go__law_signs T) (by first | decide | omega) rfl (a_cons (nm 9) (a_cons (nm 10) a_nil)) (mCons_len (mCons_len mNil_len)))))
    (ss_cons (s_if (t_cmp (b_val (v_bu C (u_repr C) (bs_cons (b_val (v_new (o_lst (a_cons (call C (go_row_of T) (by first | decide | omega) rfl (a_cons (nm 9) (a_cons (nm 10) a_nil)) (mCons_len (mCons_len mNil_len))) (a_cons (callK C (go_row_of T) (by decide) (fun _ _ F => kb2r F fun _ _ _ _ _ _ _ _ => rfl) pm21 (k_cons (nm 10) (k_cons (nm 9) k_nil)) (mCons_len (mCons_len mNil_len))) a_nil))))) bs_nil) (by intro _; rfl) T.b_repr (by decide +kernel))) (b_val (v_bu C (u_repr C) (bs_cons (b_val (v_new (o_lst (a_cons (nm 6) (a_cons (nm 6) a_nil))))) bs_nil) (by intro _; rfl) T.b_repr (by decide +kernel))) (c_neA C) rfl) (ss_one (s_ret v_bl)) ss_nil)
    (ss_cons (s_if (t_cmp (b_val (v_bu C (u_repr C) (bs_cons (b_val (v_new (o_lst (a_cons (call C (go_pair_of T) (by first | decide | omega) rfl (a_cons (nm 6) a_nil) (mCons_len mNil_len)) (a_cons (callK C (go_pair_of T) (by decide) (fun _ _ F => kb1 F fun _ _ _ _ _ _ _ => rfl) pm1 (k_cons (nm 6) k_nil) (mCons_len mNil_len)) a_nil))))) bs_nil) (by intro _; rfl) T.b_repr (by decide +kernel))) (b_val (v_bu C (u_repr C) (bs_cons (b_val (v_new (o_lst (a_cons (v_tup (a_cons (nm 9) (a_cons (nm 10) a_nil))) (a_cons (v_tup (a_cons (nm 9) (a_cons (nm 10) a_nil))) a_nil))))) bs_nil) (by intro _; rfl) T.b_repr (by decide +kernel))) (c_neA C) rfl) (ss_one (s_ret v_bl)) ss_nil)
    (ss_cons (set1 C 7 (n_o (o_lst (a_cons (nm 6) (a_cons (nm 9) (a_cons (v_bin (bn 9) (bn 10) (s_add C)) (a_cons (v_bin (bn 6) (b_val (v_tup (a_cons (v_tup (a_cons (draw C 1 (go__law_pick T) (by first | decide | omega) (a_cons v_str a_nil) (fun ss ds ss' h => congrArg (· + 1) ((mCons_len mNil_len) ss ds ss' h))) (a_cons (draw C 1 (go__law_pick T) (by first | decide | omega) (a_cons v_str a_nil) (fun ss ds ss' h => congrArg (· + 1) ((mCons_len mNil_len) ss ds ss' h))) a_nil))) a_nil))) (s_add C)) a_nil)))))))
    (ss_cons (set1 C 7 (n_o (o_addL (bn 7) (b_val (v_new (o_lst (a_cons (v_bin (b_val (v_tup (a_cons (v_tup (a_cons v_str (a_cons (draw C 1 (go__law_pick T) (by first | decide | omega) (a_cons v_str a_nil) (fun ss ds ss' h => congrArg (· + 1) ((mCons_len mNil_len) ss ds ss' h))) a_nil))) a_nil))) (bn 6) (s_add C)) a_nil)))))))
    (ss_cons (s_for C (i_rng1 C (a_cons v_int a_nil) (by intro _; rfl) T.b_range) (gn C 8) (ss_one (app1 C 7 (draw C 1 (go__law_bent T 4) (by decide) (a_cons (v_ix C (bn 7) (b_val (v_bin (bn 8) (b_val v_int) s_mod))) a_nil) (fun ss ds ss' h => congrArg (· + 1) ((mCons_len mNil_len) ss ds ss' h))))))
    (ss_one (s_if (t_cmp (b_val (v_new (o_lc C (fun _ => bo_111_11) (i_sq C (v_new (o_addL (bn 7) (b_val (v_new (o_lst (a_cons (draw C 1 (go__law_bent T 4) (by decide) (a_cons (v_ix C (bn 7) (b_val (v_neg v_int))) a_nil) (fun ss ds ss' h => congrArg (· + 1) ((mCons_len mNil_len) ss ds ss' h))) a_nil))))))) (gn (C.blk cs_111_11) 11) (ts_one (t_not (t_val (call (C.blk cs_111_11) (go__law_are_told T) (by first | decide | omega) rfl (a_cons (nm 11) a_nil) (mCons_len mNil_len))))) (nm 11)))) (b_val (v_new (o_lst a_nil))) (c_neA C) rfl) (ss_one (s_ret v_bl)) ss_nil))))))))))
    (ss_cons (set1 C 3 (n_v v_str))
    (ss_cons (s_if (t_w (w_or (t_not (t_val (call C (go_is_text T) (by first | decide | omega) rfl (a_cons (nm 3) a_nil) (mCons_len mNil_len)))) (w_or1 (t_cmp (b_val (v_bu C (u_repr C) (bs_cons (b_val (call C (go_row_of T) (by first | decide | omega) rfl (a_cons (nm 3) (a_cons (v_rev C (bn 3)) a_nil)) (mCons_len (mCons_len mNil_len)))) bs_nil) (by intro _; rfl) T.b_repr (by decide +kernel))) (b_val (v_bu C (u_repr C) (bs_cons (b_val (call C (go__law_signs T) (by first | decide | omega) rfl (a_cons (nm 3) (a_cons (v_rev C (bn 3)) a_nil)) (mCons_len (mCons_len mNil_len)))) bs_nil) (by intro _; rfl) T.b_repr (by decide +kernel))) (c_neA C) rfl)))) (ss_one (s_ret v_bl)) ss_nil)
    (ss_cons (set1 C 4 (n_o (o_lst (a_cons (v_bin (b_val (v_tup (a_cons (v_tup (a_cons v_str (a_cons v_str a_nil))) a_nil))) (b_val v_int) (s_mulA C)) (a_cons (v_bin (b_val (v_bin (b_val (v_tup (a_cons (v_tup (a_cons v_str (a_cons v_str a_nil))) a_nil))) (b_val v_int) (s_mulA C))) (b_val (v_tup (a_cons (v_tup (a_cons v_str (a_cons v_str a_nil))) a_nil))) (s_add C)) (a_cons (v_bin (b_val (v_tup (a_cons (v_tup (a_cons v_str (a_cons v_str a_nil))) a_nil))) (b_val v_int) (s_mulA C)) a_nil))))))
    (ss_cons (s_if (t_w (w_or (t_cmp (b_val (v_bu C (u_repr C) (bs_cons (b_val (v_new (o_lc C (fun _ => bo_117_12) (i_sq C (nm 4)) (gn (C.blk cs_117_12) 11) ts_nil (call (C.blk cs_117_12) (go_is_row T) (by first | decide | omega) rfl (a_cons (nm 11) a_nil) (mCons_len mNil_len))))) bs_nil) (by intro _; rfl) T.b_repr (by decide +kernel))) (b_val (v_bu C (u_repr C) (bs_cons (b_val (v_new (o_lst (a_cons v_bl (a_cons v_bl (a_cons v_bl a_nil)))))) bs_nil) (by intro _; rfl) T.b_repr (by decide +kernel))) (c_neA C) rfl) (w_or1 (t_not (t_val (call C (go_is_row T) (by first | decide | omega) rfl (a_cons (call C (go__law_signs T) (by first | decide | omega) rfl (a_cons (nm 3) (a_cons v_str a_nil)) (mCons_len (mCons_len mNil_len))) a_nil) (mCons_len mNil_len))))))) (ss_one (s_ret v_bl)) ss_nil)
    (ss_cons (set1 C 5 (n_o (o_lst (a_cons v_non (a_cons v_int (a_cons v_bl (a_cons (v_tup a_nil) (a_cons (v_new (o_lst a_nil)) (a_cons (v_new o_dict0) (a_cons v_str (a_cons v_str (a_cons v_str (a_cons v_str (a_cons (v_tup (a_cons (v_tup (a_cons v_str (a_cons v_str a_nil))) (a_cons (v_tup (a_cons v_str (a_cons v_str a_nil))) a_nil))) (a_cons (v_tup (a_cons (v_tup (a_cons v_str (a_cons v_str a_nil))) a_nil)) (a_cons (v_tup (a_cons v_str a_nil)) a_nil))))))))))))))))
    (ss_one (s_ret (v_cmp (b_val (v_new (o_lc C (fun _ => bo_120_11) (i_sq C (nm 5)) (gn (C.blk cs_120_11) 11) (ts_one (t_not (t_val (call (C.blk cs_120_11) (go__law_are_told T) (by first | decide | omega) rfl (a_cons (nm 11) a_nil) (mCons_len mNil_len))))) (nm 11)))) (b_val (v_new (o_lst a_nil))) (c_eqA C) rfl)))))))))) good_law⟩
end


theorem all_mk {l : PySem.W.OpenLaw} {w : World} {K : PySem.W.Frag} {h : Heap} {mg : Str → Option Value} {fa : Addr} (X : K.In h) (G : h.Ns mainGlobals mg) (hfa : mg "law" = some (.ref fa))
    {f0 : Addr} {od0 an0 : Option Addr} {sl0 : Array (Option Value)} {oc0 kV0 dc0 pm0 cd0 ct0 : Value}
    (a0 : PySem.W.nsIn K mainGlobals "_law_deck" = some (some (.ref f0))) (l0 : K.lookup f0 = some ⟨oc0, od0, .func (PySem.W.fnOf "_law_deck" "_law_deck" (defArgs s__law_deck) (defBody s__law_deck) (defScope s__law_deck) .none kV0 dc0 pm0 an0 cd0 ct0), sl0⟩) (c0 : PySem.W.codeIn K cd0 "_law_deck" = true) (k0 : PySem.W.keepIn K (.ref f0) = true)
    {f1 : Addr} {od1 an1 : Option Addr} {sl1 : Array (Option Value)} {oc1 kV1 dc1 pm1 cd1 ct1 : Value}
    (a1 : PySem.W.nsIn K mainGlobals "_law_signs" = some (some (.ref f1))) (l1 : K.lookup f1 = some ⟨oc1, od1, .func (PySem.W.fnOf "_law_signs" "_law_signs" (defArgs s__law_signs) (defBody s__law_signs) (defScope s__law_signs) .none kV1 dc1 pm1 an1 cd1 ct1), sl1⟩) (c1 : PySem.W.codeIn K cd1 "_law_signs" = true) (k1 : PySem.W.keepIn K (.ref f1) = true)
    {f2 : Addr} {od2 an2 : Option Addr} {sl2 : Array (Option Value)} {oc2 kV2 dc2 pm2 cd2 ct2 : Value}
    (a2 : PySem.W.nsIn K mainGlobals "_law_draw" = some (some (.ref f2))) (l2 : K.lookup f2 = some ⟨oc2, od2, .func (PySem.W.fnOf "_law_draw" "_law_draw" (defArgs s__law_draw) (defBody s__law_draw) (defScope s__law_draw) .none kV2 dc2 pm2 an2 cd2 ct2), sl2⟩) (c2 : PySem.W.codeIn K cd2 "_law_draw" = true) (k2 : PySem.W.keepIn K (.ref f2) = true)
    {f3 : Addr} {od3 an3 : Option Addr} {sl3 : Array (Option Value)} {oc3 kV3 dc3 pm3 cd3 ct3 : Value}
    (a3 : PySem.W.nsIn K mainGlobals "_law_pick" = some (some (.ref f3))) (l3 : K.lookup f3 = some ⟨oc3, od3, .func (PySem.W.fnOf "_law_pick" "_law_pick" (defArgs s__law_pick) (defBody s__law_pick) (defScope s__law_pick) .none kV3 dc3 pm3 an3 cd3 ct3), sl3⟩) (c3 : PySem.W.codeIn K cd3 "_law_pick" = true) (k3 : PySem.W.keepIn K (.ref f3) = true)
    {f4 : Addr} {od4 an4 : Option Addr} {sl4 : Array (Option Value)} {oc4 kV4 dc4 pm4 cd4 ct4 : Value}
    (a4 : PySem.W.nsIn K mainGlobals "_law_word" = some (some (.ref f4))) (l4 : K.lookup f4 = some ⟨oc4, od4, .func (PySem.W.fnOf "_law_word" "_law_word" (defArgs s__law_word) (defBody s__law_word) (defScope s__law_word) .none kV4 dc4 pm4 an4 cd4 ct4), sl4⟩) (c4 : PySem.W.codeIn K cd4 "_law_word" = true) (k4 : PySem.W.keepIn K (.ref f4) = true)
    {f5 : Addr} {od5 an5 : Option Addr} {sl5 : Array (Option Value)} {oc5 kV5 dc5 pm5 cd5 ct5 : Value}
    (a5 : PySem.W.nsIn K mainGlobals "is_text" = some (some (.ref f5))) (l5 : K.lookup f5 = some ⟨oc5, od5, .func (PySem.W.fnOf "is_text" "is_text" (defArgs s_is_text) (defBody s_is_text) (defScope s_is_text) .none kV5 dc5 pm5 an5 cd5 ct5), sl5⟩) (c5 : PySem.W.codeIn K cd5 "is_text" = true) (k5 : PySem.W.keepIn K (.ref f5) = true)
    {f6 : Addr} {od6 an6 : Option Addr} {sl6 : Array (Option Value)} {oc6 kV6 dc6 pm6 cd6 ct6 : Value}
    (a6 : PySem.W.nsIn K mainGlobals "side_after" = some (some (.ref f6))) (l6 : K.lookup f6 = some ⟨oc6, od6, .func (PySem.W.fnOf "side_after" "side_after" (defArgs s_side_after) (defBody s_side_after) (defScope s_side_after) .none kV6 dc6 pm6 an6 cd6 ct6), sl6⟩) (c6 : PySem.W.codeIn K cd6 "side_after" = true) (k6 : PySem.W.keepIn K (.ref f6) = true)
    {f7 : Addr} {od7 an7 : Option Addr} {sl7 : Array (Option Value)} {oc7 kV7 dc7 pm7 cd7 ct7 : Value}
    (a7 : PySem.W.nsIn K mainGlobals "is_letter" = some (some (.ref f7))) (l7 : K.lookup f7 = some ⟨oc7, od7, .func (PySem.W.fnOf "is_letter" "is_letter" (defArgs s_is_letter) (defBody s_is_letter) (defScope s_is_letter) .none kV7 dc7 pm7 an7 cd7 ct7), sl7⟩) (c7 : PySem.W.codeIn K cd7 "is_letter" = true) (k7 : PySem.W.keepIn K (.ref f7) = true)
    {f8 : Addr} {od8 an8 : Option Addr} {sl8 : Array (Option Value)} {oc8 kV8 dc8 pm8 cd8 ct8 : Value}
    (a8 : PySem.W.nsIn K mainGlobals "is_sign" = some (some (.ref f8))) (l8 : K.lookup f8 = some ⟨oc8, od8, .func (PySem.W.fnOf "is_sign" "is_sign" (defArgs s_is_sign) (defBody s_is_sign) (defScope s_is_sign) .none kV8 dc8 pm8 an8 cd8 ct8), sl8⟩) (c8 : PySem.W.codeIn K cd8 "is_sign" = true) (k8 : PySem.W.keepIn K (.ref f8) = true)
    {f9 : Addr} {od9 an9 : Option Addr} {sl9 : Array (Option Value)} {oc9 kV9 dc9 pm9 cd9 ct9 : Value}
    (a9 : PySem.W.nsIn K mainGlobals "is_pair_of_signs" = some (some (.ref f9))) (l9 : K.lookup f9 = some ⟨oc9, od9, .func (PySem.W.fnOf "is_pair_of_signs" "is_pair_of_signs" (defArgs s_is_pair_of_signs) (defBody s_is_pair_of_signs) (defScope s_is_pair_of_signs) .none kV9 dc9 pm9 an9 cd9 ct9), sl9⟩) (c9 : PySem.W.codeIn K cd9 "is_pair_of_signs" = true) (k9 : PySem.W.keepIn K (.ref f9) = true)
    {f10 : Addr} {od10 an10 : Option Addr} {sl10 : Array (Option Value)} {oc10 kV10 dc10 pm10 cd10 ct10 : Value}
    (a10 : PySem.W.nsIn K mainGlobals "is_row" = some (some (.ref f10))) (l10 : K.lookup f10 = some ⟨oc10, od10, .func (PySem.W.fnOf "is_row" "is_row" (defArgs s_is_row) (defBody s_is_row) (defScope s_is_row) .none kV10 dc10 pm10 an10 cd10 ct10), sl10⟩) (c10 : PySem.W.codeIn K cd10 "is_row" = true) (k10 : PySem.W.keepIn K (.ref f10) = true)
    {f11 : Addr} {od11 an11 : Option Addr} {sl11 : Array (Option Value)} {oc11 kV11 dc11 pm11 cd11 ct11 : Value}
    (a11 : PySem.W.nsIn K mainGlobals "_law_odd" = some (some (.ref f11))) (l11 : K.lookup f11 = some ⟨oc11, od11, .func (PySem.W.fnOf "_law_odd" "_law_odd" (defArgs s__law_odd) (defBody s__law_odd) (defScope s__law_odd) .none kV11 dc11 pm11 an11 cd11 ct11), sl11⟩) (c11 : PySem.W.codeIn K cd11 "_law_odd" = true) (k11 : PySem.W.keepIn K (.ref f11) = true)
    {f12 : Addr} {od12 an12 : Option Addr} {sl12 : Array (Option Value)} {oc12 kV12 dc12 pm12 cd12 ct12 : Value}
    (a12 : PySem.W.nsIn K mainGlobals "_law_bent" = some (some (.ref f12))) (l12 : K.lookup f12 = some ⟨oc12, od12, .func (PySem.W.fnOf "_law_bent" "_law_bent" (defArgs s__law_bent) (defBody s__law_bent) (defScope s__law_bent) .none kV12 dc12 pm12 an12 cd12 ct12), sl12⟩) (c12 : PySem.W.codeIn K cd12 "_law_bent" = true) (k12 : PySem.W.keepIn K (.ref f12) = true)
    {f13 : Addr} {od13 an13 : Option Addr} {sl13 : Array (Option Value)} {oc13 kV13 dc13 pm13 cd13 ct13 : Value}
    (a13 : PySem.W.nsIn K mainGlobals "row_of" = some (some (.ref f13))) (l13 : K.lookup f13 = some ⟨oc13, od13, .func (PySem.W.fnOf "row_of" "row_of" (defArgs s_row_of) (defBody s_row_of) (defScope s_row_of) .none kV13 dc13 pm13 an13 cd13 ct13), sl13⟩) (c13 : PySem.W.codeIn K cd13 "row_of" = true) (k13 : PySem.W.keepIn K (.ref f13) = true)
    {f14 : Addr} {od14 an14 : Option Addr} {sl14 : Array (Option Value)} {oc14 kV14 dc14 pm14 cd14 ct14 : Value}
    (a14 : PySem.W.nsIn K mainGlobals "pair_of" = some (some (.ref f14))) (l14 : K.lookup f14 = some ⟨oc14, od14, .func (PySem.W.fnOf "pair_of" "pair_of" (defArgs s_pair_of) (defBody s_pair_of) (defScope s_pair_of) .none kV14 dc14 pm14 an14 cd14 ct14), sl14⟩) (c14 : PySem.W.codeIn K cd14 "pair_of" = true) (k14 : PySem.W.keepIn K (.ref f14) = true)
    {f15 : Addr} {od15 an15 : Option Addr} {sl15 : Array (Option Value)} {oc15 kV15 dc15 pm15 cd15 ct15 : Value}
    (a15 : PySem.W.nsIn K mainGlobals "_law_is_text" = some (some (.ref f15))) (l15 : K.lookup f15 = some ⟨oc15, od15, .func (PySem.W.fnOf "_law_is_text" "_law_is_text" (defArgs s__law_is_text) (defBody s__law_is_text) (defScope s__law_is_text) .none kV15 dc15 pm15 an15 cd15 ct15), sl15⟩) (c15 : PySem.W.codeIn K cd15 "_law_is_text" = true) (k15 : PySem.W.keepIn K (.ref f15) = true)
    {f16 : Addr} {od16 an16 : Option Addr} {sl16 : Array (Option Value)} {oc16 kV16 dc16 pm16 cd16 ct16 : Value}
    (a16 : PySem.W.nsIn K mainGlobals "_law_is_row" = some (some (.ref f16))) (l16 : K.lookup f16 = some ⟨oc16, od16, .func (PySem.W.fnOf "_law_is_row" "_law_is_row" (defArgs s__law_is_row) (defBody s__law_is_row) (defScope s__law_is_row) .none kV16 dc16 pm16 an16 cd16 ct16), sl16⟩) (c16 : PySem.W.codeIn K cd16 "_law_is_row" = true) (k16 : PySem.W.keepIn K (.ref f16) = true)
    {f17 : Addr} {od17 an17 : Option Addr} {sl17 : Array (Option Value)} {oc17 kV17 dc17 pm17 cd17 ct17 : Value}
    (a17 : PySem.W.nsIn K mainGlobals "_law_are_told" = some (some (.ref f17))) (l17 : K.lookup f17 = some ⟨oc17, od17, .func (PySem.W.fnOf "_law_are_told" "_law_are_told" (defArgs s__law_are_told) (defBody s__law_are_told) (defScope s__law_are_told) .none kV17 dc17 pm17 an17 cd17 ct17), sl17⟩) (c17 : PySem.W.codeIn K cd17 "_law_are_told" = true) (k17 : PySem.W.keepIn K (.ref f17) = true)
    {f18 : Addr} {od18 an18 : Option Addr} {sl18 : Array (Option Value)} {oc18 kV18 dc18 pm18 cd18 ct18 : Value}
    (a18 : PySem.W.nsIn K mainGlobals "law" = some (some (.ref f18))) (l18 : K.lookup f18 = some ⟨oc18, od18, .func (PySem.W.fnOf "law" "law" (defArgs s_law) (defBody s_law) (defScope s_law) .none kV18 dc18 pm18 an18 cd18 ct18), sl18⟩) (c18 : PySem.W.codeIn K cd18 "law" = true) (k18 : PySem.W.keepIn K (.ref f18) = true)
    {tc0 : Tok} (y0 : PySem.W.nsIn K mainGlobals "BOTH" = some (some (.str "both" tc0)))
    {tc1 : Tok} (y1 : PySem.W.nsIn K mainGlobals "FILL" = some (some (.str "-" tc1)))
    {tc2 : Tok} (y2 : PySem.W.nsIn K mainGlobals "LEFT" = some (some (.str "left" tc2)))
    {tc3 : Tok} (y3 : PySem.W.nsIn K mainGlobals "LETTERS" = some (some (.str "abcdefghijklmnopqrstuvwxyz" tc3)))
    {tc4 : Tok} (y4 : PySem.W.nsIn K mainGlobals "PAIR" = some (some (.int (2) tc4)))
    {tc5 : Tok} (y5 : PySem.W.nsIn K mainGlobals "RIGHT" = some (some (.str "right" tc5)))
    (z0 : PySem.W.nsIn K mainGlobals "all" = some none)
    (z1 : PySem.W.nsIn K mainGlobals "int" = some none)
    (z2 : PySem.W.nsIn K mainGlobals "isinstance" = some none)
    (z3 : PySem.W.nsIn K mainGlobals "len" = some none)
    (z4 : PySem.W.nsIn K mainGlobals "list" = some none)
    (z5 : PySem.W.nsIn K mainGlobals "max" = some none)
    (z6 : PySem.W.nsIn K mainGlobals "range" = some none)
    (z7 : PySem.W.nsIn K mainGlobals "repr" = some none)
    (z8 : PySem.W.nsIn K mainGlobals "str" = some none)
    (z9 : PySem.W.nsIn K mainGlobals "tuple" = some none)
    (z10 : PySem.W.nsIn K mainGlobals "zip" = some none)
    : ∃ fd : FuncData, (∀ (s : Shared) (v : Value), BindsTo s fd ⟨[v], []⟩ [("_law_script", v)]) ∧ ∀ base : Heap, K.In base → base.Ns mainGlobals mg → FnG l.prog w K mg base 9 fa fd ["_law_script"] (spL K) := by
  have F0 := fun_mk (st := s__law_deck) l0 c0 k0
  have b0 := F0.binds (ps := ["_law_script"]) fun _ _ _ _ _ _ us hl => match us, hl with | [_], _ => rfl
  have F1 := fun_mk (st := s__law_signs) l1 c1 k1
  have b1 := F1.binds (ps := ["_law_x", "_law_y"]) fun _ _ _ _ _ _ us hl => match us, hl with | [_, _], _ => rfl
  have F2 := fun_mk (st := s__law_draw) l2 c2 k2
  have b2 := F2.binds (ps := ["_law_deck_here", "_law_below"]) fun _ _ _ _ _ _ us hl => match us, hl with | [_, _], _ => rfl
  have F3 := fun_mk (st := s__law_pick) l3 c3 k3
  have b3 := F3.binds (ps := ["_law_deck_here", "_law_some"]) fun _ _ _ _ _ _ us hl => match us, hl with | [_, _], _ => rfl
  have F4 := fun_mk (st := s__law_word) l4 c4 k4
  have b4 := F4.binds (ps := ["_law_deck_here", "_law_top"]) fun _ _ _ _ _ _ us hl => match us, hl with | [_, _], _ => rfl
  have F5 := fun_mk (st := s_is_text) l5 c5 k5
  have b5 := F5.binds (ps := ["thing"]) fun _ _ _ _ _ _ us hl => match us, hl with | [_], _ => rfl
  have F6 := fun_mk (st := s_side_after) l6 c6 k6
  have b6 := F6.binds (ps := ["side", "signs"]) fun _ _ _ _ _ _ us hl => match us, hl with | [_, _], _ => rfl
  have F7 := fun_mk (st := s_is_letter) l7 c7 k7
  have b7 := F7.binds (ps := ["thing"]) fun _ _ _ _ _ _ us hl => match us, hl with | [_], _ => rfl
  have F8 := fun_mk (st := s_is_sign) l8 c8 k8
  have b8 := F8.binds (ps := ["thing"]) fun _ _ _ _ _ _ us hl => match us, hl with | [_], _ => rfl
  have F9 := fun_mk (st := s_is_pair_of_signs) l9 c9 k9
  have b9 := F9.binds (ps := ["thing"]) fun _ _ _ _ _ _ us hl => match us, hl with | [_], _ => rfl
  have F10 := fun_mk (st := s_is_row) l10 c10 k10
  have b10 := F10.binds (ps := ["thing"]) fun _ _ _ _ _ _ us hl => match us, hl with | [_], _ => rfl
  have F11 := fun_mk (st := s__law_odd) l11 c11 k11
  have b11 := F11.binds (ps := ["_law_deck_here", "_law_it"]) fun _ _ _ _ _ _ us hl => match us, hl with | [_, _], _ => rfl
  have F12 := fun_mk (st := s__law_bent) l12 c12 k12
  have b12 := F12.binds (ps := ["_law_deck_here", "_law_it"]) fun _ _ _ _ _ _ us hl => match us, hl with | [_, _], _ => rfl
  have F13 := fun_mk (st := s_row_of) l13 c13 k13
  have b13 := F13.binds (ps := ["left", "right"]) fun _ _ _ _ _ _ us hl => match us, hl with | [_, _], _ => rfl
  have F14 := fun_mk (st := s_pair_of) l14 c14 k14
  have b14 := F14.binds (ps := ["row"]) fun _ _ _ _ _ _ us hl => match us, hl with | [_], _ => rfl
  have F15 := fun_mk (st := s__law_is_text) l15 c15 k15
  have b15 := F15.binds (ps := ["_law_it"]) fun _ _ _ _ _ _ us hl => match us, hl with | [_], _ => rfl
  have F16 := fun_mk (st := s__law_is_row) l16 c16 k16
  have b16 := F16.binds (ps := ["_law_it"]) fun _ _ _ _ _ _ us hl => match us, hl with | [_], _ => rfl
  have F17 := fun_mk (st := s__law_are_told) l17 c17 k17
  have b17 := F17.binds (ps := ["_law_it"]) fun _ _ _ _ _ _ us hl => match us, hl with | [_], _ => rfl
  have F18 := fun_mk (st := s_law) l18 c18 k18
  have b18 := F18.binds (ps := ["_law_script"]) fun _ _ _ _ _ _ us hl => match us, hl with | [_], _ => rfl
  have T : Top K mg := ⟨⟨⟨f0, _, F0, PySem.W.mg_of X G a0, b0⟩⟩,
    ⟨⟨f1, _, F1, PySem.W.mg_of X G a1, b1⟩⟩,
    ⟨⟨f2, _, F2, PySem.W.mg_of X G a2, b2⟩⟩,
    ⟨⟨f3, _, F3, PySem.W.mg_of X G a3, b3⟩⟩,
    ⟨⟨f4, _, F4, PySem.W.mg_of X G a4, b4⟩⟩,
    ⟨⟨f5, _, F5, PySem.W.mg_of X G a5, b5⟩⟩,
    ⟨⟨f6, _, F6, PySem.W.mg_of X G a6, b6⟩⟩,
    ⟨⟨f7, _, F7, PySem.W.mg_of X G a7, b7⟩⟩,
    ⟨⟨f8, _, F8, PySem.W.mg_of X G a8, b8⟩⟩,
    ⟨⟨f9, _, F9, PySem.W.mg_of X G a9, b9⟩⟩,
    ⟨⟨f10, _, F10, PySem.W.mg_of X G a10, b10⟩⟩,
    ⟨⟨f11, _, F11, PySem.W.mg_of X G a11, b11⟩⟩,
    ⟨⟨f12, _, F12, PySem.W.mg_of X G a12, b12⟩⟩,
    ⟨⟨f13, _, F13, PySem.W.mg_of X G a13, b13⟩⟩,
    ⟨⟨f14, _, F14, PySem.W.mg_of X G a14, b14⟩⟩,
    ⟨⟨f15, _, F15, PySem.W.mg_of X G a15, b15⟩⟩,
    ⟨⟨f16, _, F16, PySem.W.mg_of X G a16, b16⟩⟩,
    ⟨⟨f17, _, F17, PySem.W.mg_of X G a17, b17⟩⟩,
    ⟨⟨f18, _, F18, PySem.W.mg_of X G a18, b18⟩⟩,
    ⟨_, PySem.W.mg_of X G y0⟩,
    ⟨_, PySem.W.mg_of X G y1⟩,
    ⟨_, PySem.W.mg_of X G y2⟩,
    ⟨_, PySem.W.mg_of X G y3⟩,
    ⟨_, PySem.W.mg_of X G y4⟩,
    ⟨_, PySem.W.mg_of X G y5⟩,
    PySem.W.mg_none_of X G z0,
    PySem.W.mg_none_of X G z1,
    PySem.W.mg_none_of X G z2,
    PySem.W.mg_none_of X G z3,
    PySem.W.mg_none_of X G z4,
    PySem.W.mg_none_of X G z5,
    PySem.W.mg_none_of X G z6,
    PySem.W.mg_none_of X G z7,
    PySem.W.mg_none_of X G z8,
    PySem.W.mg_none_of X G z9,
    PySem.W.mg_none_of X G z10⟩
  have e := hfa.symm.trans (PySem.W.mg_of X G a18)
  cases e
  refine ⟨PySem.W.fnOf "law" "law" (defArgs s_law) (defBody s_law) (defScope s_law) .none kV18 dc18 pm18 an18 cd18 ct18, fun s v => .of_eq rfl, fun base _ _ => ?_⟩
  · obtain ⟨f, fd, F, hm, hb, g⟩ := (go_law (P := l.prog) (w := w) (base := base) T).ex
    have e2 := hm.symm.trans (PySem.W.mg_of X G a18)
    cases e2
    obtain ⟨oc, od, kV, doc, pm, an, cdv, ct, osl, rfl, lk, _⟩ := F.ex
    rw [l18] at lk
    cases lk
    exact g
end VL
open PySem PySem.W PyProof.Rows
set_option maxHeartbeats 0 in
theorem PySem.Challenge.cw_evenlead_k02_texts_and_rows_holds : PySem.Challenge.rw_evenlead_k02_texts_and_rows.Holds := by
  w_on; o_law; k_head; (case hw => w_witness2)
  k_fill
  refine VL.walk_g (l := PySem.Challenge.rw_evenlead_k02_texts_and_rows) (k := 9) (x := "_law_script") rfl rfl ⟨rfl, by decide, by decide⟩ rfl (fun w h Y => PySem.W.kIn_of Y) ?F
  case F =>
    intro w mg fa h KX G hmg
    refine' VL.all_mk KX G hmg ?a0 ?l0 ?c0 ?k0 ?a1 ?l1 ?c1 ?k1 ?a2 ?l2 ?c2 ?k2 ?a3 ?l3 ?c3 ?k3 ?a4 ?l4 ?c4 ?k4 ?a5 ?l5 ?c5 ?k5 ?a6 ?l6 ?c6 ?k6 ?a7 ?l7 ?c7 ?k7 ?a8 ?l8 ?c8 ?k8 ?a9 ?l9 ?c9 ?k9 ?a10 ?l10 ?c10 ?k10 ?a11 ?l11 ?c11 ?k11 ?a12 ?l12 ?c12 ?k12 ?a13 ?l13 ?c13 ?k13 ?a14 ?l14 ?c14 ?k14 ?a15 ?l15 ?c15 ?k15 ?a16 ?l16 ?c16 ?k16 ?a17 ?l17 ?c17 ?k17 ?a18 ?l18 ?c18 ?k18 ?y0 ?y1 ?y2 ?y3 ?y4 ?y5 ?z0 ?z1 ?z2 ?z3 ?z4 ?z5 ?z6 ?z7 ?z8 ?z9 ?z10
    (case a0 => k_is); (case l0 => k_is); (case c0 => k_is); (case k0 => k_is); (case a1 => k_is); (case l1 => k_is); (case c1 => k_is); (case k1 => k_is); (case a2 => k_is); (case l2 => k_is); (case c2 => k_is); (case k2 => k_is); (case a3 => k_is); (case l3 => k_is); (case c3 => k_is); (case k3 => k_is); (case a4 => k_is); (case l4 => k_is); (case c4 => k_is); (case k4 => k_is); (case a5 => k_is); (case l5 => k_is); (case c5 => k_is); (case k5 => k_is); (case a6 => k_is); (case l6 => k_is); (case c6 => k_is); (case k6 => k_is); (case a7 => k_is); (case l7 => k_is); (case c7 => k_is); (case k7 => k_is); (case a8 => k_is); (case l8 => k_is); (case c8 => k_is); (case k8 => k_is); (case a9 => k_is); (case l9 => k_is); (case c9 => k_is); (case k9 => k_is); (case a10 => k_is); (case l10 => k_is); (case c10 => k_is); (case k10 => k_is); (case a11 => k_is); (case l11 => k_is); (case c11 => k_is); (case k11 => k_is); (case a12 => k_is); (case l12 => k_is); (case c12 => k_is); (case k12 => k_is); (case a13 => k_is); (case l13 => k_is); (case c13 => k_is); (case k13 => k_is); (case a14 => k_is); (case l14 => k_is); (case c14 => k_is); (case k14 => k_is); (case a15 => k_is); (case l15 => k_is); (case c15 => k_is); (case k15 => k_is); (case a16 => k_is); (case l16 => k_is); (case c16 => k_is); (case k16 => k_is); (case a17 => k_is); (case l17 => k_is); (case c17 => k_is); (case k17 => k_is); (case a18 => k_is); (case l18 => k_is); (case c18 => k_is); (case k18 => k_is); (case y0 => k_is); (case y1 => k_is); (case y2 => k_is); (case y3 => k_is); (case y4 => k_is); (case y5 => k_is); (case z0 => k_is); (case z1 => k_is); (case z2 => k_is); (case z3 => k_is); (case z4 => k_is); (case z5 => k_is); (case z6 => k_is); (case z7 => k_is); (case z8 => k_is); (case z9 => k_is); (case z10 => k_is)
